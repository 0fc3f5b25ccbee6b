import PyProof.Rows.All
import Wide.All
import OpenK.AllK
import Wide.FinOn
import HandS.ForMost
import HandS.Codes
import HandS.Star
import HandS.IsInst
import HandS.Deep
import HandS.Property
import HandS.TupAny
import HandS.Style
import HandS.SortRule
import HandS.Replace
import HandS.Wide
import PySem.Challenge.RW_wovenframes_k37_whole_boards_by_lots
import KE.GoesEnum
import KE.SortKeyHeap
import HandS.Steps
import HandS.More
import HandS.SortKw
import HandS.Conv
import HandS.New0
import PyProof.InstSpecial
set_option Elab.async false
set_option linter.all false
set_option maxRecDepth 100000
/-! ## text L1 -/
/-! the layer of judgements: no heap in sight -/
namespace WF
open PySem PySem.Spec PyProof.Rows L2

/-! ### data under growth -/
theorem sqT_up {K : PySem.W.Frag} {H H' : Hp} {a : Addr} {xs : List V} (e : Same H H') (h : SqT K H a xs) : SqT K H' a xs := by
  rcases h with (h | ⟨o, h⟩) | h
  · exact .inl (.inl (e _ _ h))
  · exact .inl (.inr ⟨o, e _ _ h⟩)
  · exact .inr h
mutual
theorem dp_up {K : PySem.W.Frag} {H H' : Hp} (e : Same H H') : ∀ (d : PyData) (v : V), Dp K H v d → Dp K H' v d
  | .none, _, h => by cases h; exact .non
  | .bool b, _, h => by cases h; exact .bl b
  | .int i, _, h => by cases h; exact .int i
  | .str x, _, h => by cases h; exact .str x
  | .list ds, _, h => by
    cases h with
    | lst hs ha => exact .lst (e.seq hs) (dpAll_up e ds _ ha)
  | .tuple ds, _, h => by
    cases h with
    | tup hs ha => exact .tup (sqT_up e hs) (dpAll_up e ds _ ha)
  | .dict _, _, h => by cases h
theorem dpAll_up {K : PySem.W.Frag} {H H' : Hp} (e : Same H H') : ∀ (ds : List PyData) (vs : List V), DpAll K H vs ds → DpAll K H' vs ds
  | [], _, h => by cases h; exact .nil
  | d :: ds, _, h => by
    cases h with
    | cons h1 h2 => exact .cons (dp_up e d _ h1) (dpAll_up e ds _ h2)
end
theorem dpAll_len {K : PySem.W.Frag} {H : Hp} : ∀ {vs : List V} {ds : List PyData}, DpAll K H vs ds → vs.length = ds.length
  | _, _, .nil => rfl
  | _, _, .cons _ t => congrArg (· + 1) (dpAll_len t)
theorem dpAll_get {K : PySem.W.Frag} {H : Hp} : ∀ {vs : List V} {ds : List PyData} {i : Nat} {d : PyData}, DpAll K H vs ds → ds[i]? = some d → ∃ v, vs[i]? = some v ∧ Dp K H v d
  | _, _, _, _, .nil, e => by simp at e
  | _, _, 0, _, .cons h _, e => by simp at e; subst e; exact ⟨_, rfl, h⟩
  | _, _, i + 1, d, .cons _ t, e => by
    obtain ⟨v, h1, h2⟩ := dpAll_get (i := i) (d := d) t (by simpa using e)
    exact ⟨v, by simpa using h1, h2⟩
theorem dpAll_getV {K : PySem.W.Frag} {H : Hp} : ∀ {vs : List V} {ds : List PyData} {i : Nat} {v : V}, DpAll K H vs ds → vs[i]? = some v → ∃ d, ds[i]? = some d ∧ Dp K H v d
  | _, _, _, _, .nil, e => by simp at e
  | _, _, 0, _, .cons h _, e => by simp at e; subst e; exact ⟨_, rfl, h⟩
  | _, _, i + 1, v, .cons _ t, e => by
    obtain ⟨d, h1, h2⟩ := dpAll_getV (i := i) (v := v) t (by simpa using e)
    exact ⟨d, by simpa using h1, h2⟩
theorem dpAll_app {K : PySem.W.Frag} {H : Hp} : ∀ {vs ws : List V} {ds es : List PyData}, DpAll K H vs ds → DpAll K H ws es → DpAll K H (vs ++ ws) (ds ++ es)
  | _, _, _, _, .nil, h => h
  | _, _, _, _, .cons h t, h' => .cons h (dpAll_app t h')
theorem dpAll_one {K : PySem.W.Frag} {H : Hp} {v : V} {d : PyData} (h : Dp K H v d) : DpAll K H [v] [d] := .cons h .nil
theorem dpAll_take {K : PySem.W.Frag} {H : Hp} : ∀ {vs : List V} {ds : List PyData} (n : Nat), DpAll K H vs ds → DpAll K H (vs.take n) (ds.take n)
  | _, _, 0, _ => .nil
  | _, _, _ + 1, .nil => .nil
  | _, _, n + 1, .cons h t => .cons h (dpAll_take n t)
theorem dpAll_drop {K : PySem.W.Frag} {H : Hp} : ∀ {vs : List V} {ds : List PyData} (n : Nat), DpAll K H vs ds → DpAll K H (vs.drop n) (ds.drop n)
  | _, _, 0, h => h
  | _, _, _ + 1, .nil => .nil
  | _, _, n + 1, .cons _ t => dpAll_drop n t
theorem dpAll_set {K : PySem.W.Frag} {H : Hp} {v : V} {d : PyData} (h : Dp K H v d) : ∀ {vs : List V} {ds : List PyData} (n : Nat), DpAll K H vs ds → DpAll K H (vs.set n v) (ds.set n d)
  | _, _, _, .nil => .nil
  | _, _, 0, .cons _ t => .cons h t
  | _, _, n + 1, .cons h' t => .cons h' (dpAll_set h n t)
theorem dpAll_erase {K : PySem.W.Frag} {H : Hp} : ∀ {vs : List V} {ds : List PyData} (n : Nat), DpAll K H vs ds → DpAll K H (vs.eraseIdx n) (ds.eraseIdx n)
  | _, _, _, .nil => .nil
  | _, _, 0, .cons _ t => t
  | _, _, n + 1, .cons h t => .cons h (dpAll_erase n t)
theorem dpAll_init {K : PySem.W.Frag} {H : Hp} {vs : List V} {ds : List PyData} (h : DpAll K H vs ds) : DpAll K H vs.dropLast ds.dropLast := by
  rw [List.dropLast_eq_take, List.dropLast_eq_take, dpAll_len h]
  exact dpAll_take _ h
theorem dpAll_ints {K : PySem.W.Frag} {H : Hp} : ∀ {vs : List V} {ns : List Int}, DpAll K H vs (ns.map PyData.int) → vs = ns.map V.int
  | _, [], h => by cases h; rfl
  | _, n :: ns, h => by
    cases h with
    | cons h1 h2 =>
      cases h1
      rw [dpAll_ints h2]
      rfl
theorem dpAll_bools {K : PySem.W.Frag} {H : Hp} : ∀ {vs : List V} {ns : List Bool}, DpAll K H vs (ns.map PyData.bool) → vs = ns.map V.bl
  | _, [], h => by cases h; rfl
  | _, n :: ns, h => by
    cases h with
    | cons h1 h2 =>
      cases h1
      rw [dpAll_bools h2]
      rfl
theorem dpAll_strs {K : PySem.W.Frag} {H : Hp} : ∀ {vs : List V} {ns : List Str}, DpAll K H vs (ns.map PyData.str) → vs = ns.map V.str
  | _, [], h => by cases h; rfl
  | _, n :: ns, h => by
    cases h with
    | cons h1 h2 =>
      cases h1
      rw [dpAll_strs h2]
      rfl

/-! ### what is known of a value -/
structure Pr where
  p : Hp → V → Prop
  up : ∀ {G G' : Hp} {v : V}, Same G G' → p G v → p G' v
/-- it is this datum -/
def D (K : PySem.W.Frag) (d : PyData) : Pr := ⟨fun G v => Dp K G v d, fun e h => dp_up e _ _ h⟩
/-- it is this value -/
def Va (x : V) : Pr := ⟨fun _ v => v = x, fun _ h => h⟩
/-- an object of one's own that changes: what stands at its place -/
structure Ob where
  o : Hp → HO → Prop
  up : ∀ {G G' : Hp} {u : HO}, Same G G' → o G u → o G' u
  nt : ∀ {G : Hp} {u : HO}, o G u → ∀ xs, u ≠ .tup xs
/-- a list of these data -/
def oL (K : PySem.W.Frag) (ds : List PyData) : Ob := ⟨fun G u => ∃ vs, u = .lst vs ∧ DpAll K G vs ds, fun e ⟨vs, h, q⟩ => ⟨vs, h, dpAll_up e _ _ q⟩, fun ⟨_, h, _⟩ _ e => by rw [h] at e; cases e⟩
inductive Sl where
  | no | pr (P : Pr) | own (a : Addr) (O : Ob)

theorem same_upd {H : Hp} {p : Addr} {o : HO} (h : H p = none) : Same H (upd H p o) := fun b x e => by
  rw [upd_ne (ne_of_none e h)]
  exact e
theorem same_mut {H H' : Hp} {p : Addr} {o : HO} (e : Same H H') (h : H p = none) : Same H (upd H' p o) := fun a u ha => by
  rw [upd_ne (ne_of_none ha h)]
  exact e a u ha
theorem same_updG {G H : Hp} {p : Addr} {o : HO} (e : Same G H) (h : H p = some o) : Same (upd G p o) H := fun b x q => by
  by_cases hb : b = p
  · subst hb
    rw [upd_same] at q
    cases q
    exact h
  · rw [upd_ne hb] at q
    exact e b x q

/-! ### moves -/
/-- what stands at p is no tuple -/
def NT (H : Hp) (p : Addr) : Prop := ∃ u, H p = some u ∧ ∀ xs, u ≠ .tup xs
theorem NT.ne {H : Hp} {p : Addr} (n : NT H p) : H p ≠ none := by
  obtain ⟨u, h, _⟩ := n
  rw [h]
  exact nofun
/-- things were made, nothing else -/
structure Ext (G H G' H' : Hp) : Prop where
  g : Same G G'
  h : Same H H'
  s : Same G' H'
  f : ∀ p, G p = none → NT H p → G' p = none
theorem Ext.refl {G H : Hp} (s : Same G H) : Ext G H G H := ⟨Same.refl G, Same.refl H, s, fun _ h _ => h⟩
theorem Ext.trans {G H G1 H1 G2 H2 : Hp} (a : Ext G H G1 H1) (b : Ext G1 H1 G2 H2) : Ext G H G2 H2 :=
  ⟨a.g.trans b.g, a.h.trans b.h, b.s, fun p h n => b.f p (a.f p h n) (let ⟨u, hu, ht⟩ := n; ⟨u, a.h p u hu, ht⟩)⟩
/-- a new thing that stands still -/
theorem Ext.new {G H : Hp} {p : Addr} {o : HO} (s : Same G H) (h : H p = none) : Ext G H (upd G p o) (upd H p o) := by
  have hg : G p = none := s.free h
  refine ⟨same_upd hg, same_upd h, fun b x q => ?_, fun b hb n => ?_⟩
  · by_cases e : b = p
    · subst e
      rw [upd_same] at q ⊢
      exact q
    · rw [upd_ne e] at q ⊢
      exact s b x q
  · rw [upd_ne (fun e => n.ne (by rw [e]; exact h))]
    exact hb
/-- a new thing that may change -/
theorem Ext.mut {G H : Hp} {p : Addr} {o : HO} (s : Same G H) (h : H p = none) : Ext G H G (upd H p o) :=
  ⟨Same.refl G, same_upd h, s.trans (same_upd h), fun _ q _ => q⟩
theorem same_freeze {G H : Hp} {p : Addr} {o : HO} (s : Same G H) (h : H p = some o) : Same G (upd G p o) := fun b x q => by
  by_cases e : b = p
  · subst e
    rw [upd_same, ← h]
    exact (s b x q).symm ▸ rfl
  · rw [upd_ne e]
    exact q
/-- a thing made meanwhile stands still from now on -/
theorem Ext.freeze {G H G' H' : Hp} {p : Addr} {o : HO} (e : Ext G H G' H') (h : H p = none) (h' : H' p = some o) : Ext G H (upd G' p o) H' :=
  ⟨e.g.trans (same_freeze e.s h'), e.h, same_updG e.s h', fun b q n => by
    rw [upd_ne (fun z => n.ne (by rw [z]; exact h))]
    exact e.f b q n⟩

def Own (Γ : List Sl) (p : Addr) : Prop := ∃ (i : Nat) (O : Ob), Γ[i]? = some (Sl.own p O)
/-- from Γ, G, H to Γ', G', H': what was stands, but for Γ's own things -/
structure Mv (Γ : List Sl) (G H : Hp) (Γ' : List Sl) (G' H' : Hp) : Prop where
  g : Same G G'
  h : ∀ p o, H p = some o → ¬ Own Γ p → H' p = some o
  n : ∀ p, H p ≠ none → H' p ≠ none
  s : Same G' H'
  f : ∀ p, G p = none → NT H p → ¬ Own Γ p → G' p = none
  o : ∀ p, Own Γ' p → Own Γ p ∨ H p = none
/-- what the slots hold -/
structure Kn (Γ : List Sl) (σ : L2.St) (G H : Hp) : Prop where
  l : Γ.length ≤ σ.length
  s : Same G H
  p : ∀ (i : Nat) (P : Pr), Γ[i]? = some (Sl.pr P) → ∃ v, σ[i]? = some (some v) ∧ P.p G v
  o : ∀ (i : Nat) (a : Addr) (O : Ob), Γ[i]? = some (Sl.own a O) → σ[i]? = some (some (.ref a)) ∧ G a = none ∧ ∃ u, H a = some u ∧ O.o G u
  d : ∀ (i j : Nat) (a : Addr) (O O' : Ob), Γ[i]? = some (Sl.own a O) → Γ[j]? = some (Sl.own a O') → i = j

theorem Mv.refl {Γ : List Sl} {G H : Hp} (s : Same G H) : Mv Γ G H Γ G H := ⟨Same.refl G, fun _ _ h _ => h, fun _ h => h, s, fun _ h _ _ => h, fun _ h => .inl h⟩
theorem Mv.trans {Γ Γ1 Γ2 : List Sl} {G H G1 H1 G2 H2 : Hp} (a : Mv Γ G H Γ1 G1 H1) (b : Mv Γ1 G1 H1 Γ2 G2 H2) : Mv Γ G H Γ2 G2 H2 where
  g := a.g.trans b.g
  h := fun p o h n => b.h p o (a.h p o h n) fun q => (a.o p q).elim n fun z => by rw [h] at z; cases z
  n := fun p h => b.n p (a.n p h)
  s := b.s
  f := fun p h n w => b.f p (a.f p h n w) (let ⟨u, hu, ht⟩ := n; ⟨u, a.h p u hu w, ht⟩) fun q => (a.o p q).elim w n.ne
  o := fun p h => (b.o p h).elim (a.o p) fun z => .inr (Classical.byContradiction fun q => a.n p q z)
theorem Mv.ext {Γ : List Sl} {G H G' H' : Hp} (e : Ext G H G' H') : Mv Γ G H Γ G' H' where
  g := e.g
  h := fun p o h _ => e.h p o h
  n := fun p h => by
    cases q : H p with
    | none => exact absurd q h
    | some o => rw [e.h p o q]; exact nofun
  s := e.s
  f := fun p h n _ => e.f p h n
  o := fun _ h => .inl h
/-- nothing of one's own: a plain growth -/
theorem Mv.toExt {Γ Γ' : List Sl} {G H G' H' : Hp} (m : Mv Γ G H Γ' G' H') (z : ∀ p, ¬ Own Γ p) : Ext G H G' H' := ⟨m.g, fun p o h => m.h p o h (z p), m.s, fun p h n => m.f p h n (z p)⟩
theorem Mv.wk {Γ Γ1 Γ2 : List Sl} {G H G' H' : Hp} (m : Mv Γ G H Γ1 G' H') (w : ∀ p, Own Γ2 p → Own Γ1 p) : Mv Γ G H Γ2 G' H' := ⟨m.g, m.h, m.n, m.s, m.f, fun p h => m.o p (w p h)⟩
theorem Mv.wk0 {Γ0 Γ Γ1 : List Sl} {G H G' H' : Hp} (m : Mv Γ G H Γ1 G' H') (w : ∀ p, Own Γ p → Own Γ0 p) : Mv Γ0 G H Γ1 G' H' :=
  ⟨m.g, fun p o h n => m.h p o h fun q => n (w p q), m.n, m.s, fun p h n q => m.f p h n fun z => q (w p z), fun p h => (m.o p h).imp (w p) id⟩

theorem Kn.ext {Γ : List Sl} {σ : L2.St} {G H G' H' : Hp} (k : Kn Γ σ G H) (e : Ext G H G' H') : Kn Γ σ G' H' where
  l := k.l
  s := e.s
  p := fun i P h => let ⟨v, h1, h2⟩ := k.p i P h; ⟨v, h1, P.up e.g h2⟩
  o := fun i a O h => let ⟨h1, h2, u, h3, h4⟩ := k.o i a O h; ⟨h1, e.f a h2 ⟨u, h3, O.nt h4⟩, u, e.h a u h3, O.up e.g h4⟩
  d := k.d
/-- Γ' says less than Γ -/
def Wk (Γ Γ' : List Sl) : Prop := Γ'.length ≤ Γ.length ∧ ∀ (i : Nat) (s : Sl), Γ'[i]? = some s → (match s with | .no => True | s => Γ[i]? = some s)
theorem Wk.refl (Γ : List Sl) : Wk Γ Γ := ⟨Nat.le_refl _, fun i s h => by cases s <;> first | trivial | exact h⟩
theorem Wk.own {Γ Γ' : List Sl} (w : Wk Γ Γ') (p : Addr) (h : Own Γ' p) : Own Γ p := let ⟨i, O, e⟩ := h; ⟨i, O, w.2 i _ e⟩
theorem Kn.wk {Γ Γ' : List Sl} {σ : L2.St} {G H : Hp} (k : Kn Γ σ G H) (w : Wk Γ Γ') : Kn Γ' σ G H :=
  ⟨Nat.le_trans w.1 k.l, k.s, fun i P h => k.p i P (w.2 i _ h), fun i a O h => k.o i a O (w.2 i _ h), fun i j a O O' h h' => k.d i j a O O' (w.2 i _ h) (w.2 j _ h')⟩
theorem Wk.nil (Γ : List Sl) : Wk Γ [] := ⟨Nat.zero_le _, fun i s h => by simp at h⟩
theorem Wk.cons {s s' : Sl} {Γ Γ' : List Sl} (h : s' = .no ∨ s' = s) (w : Wk Γ Γ') : Wk (s :: Γ) (s' :: Γ') := by
  refine ⟨Nat.succ_le_succ w.1, fun i u e => ?_⟩
  cases i with
  | zero =>
    have e' : s' = u := Option.some.inj e
    subst e'
    rcases h with rfl | rfl
    · trivial
    · cases s' <;> first | trivial | rfl
  | succ i => exact w.2 i u e

theorem get_set {Γ : List Sl} {i j : Nat} {s : Sl} (u : Sl) (h : (Γ.set i s)[j]? = some u) : (j = i ∧ u = s) ∨ (j ≠ i ∧ Γ[j]? = some u) := by
  by_cases e : i = j
  · subst e
    rw [List.getElem?_set] at h
    split at h
    · split at h
      · exact .inl ⟨rfl, (Option.some.inj h).symm⟩
      · cases h
    · exact absurd rfl (by assumption)
  · rw [List.getElem?_set_ne e] at h
    exact .inr ⟨Ne.symm e, h⟩
theorem own_set {Γ : List Sl} {i : Nat} {P : Pr} (p : Addr) (h : Own (Γ.set i (.pr P)) p) : Own Γ p := by
  obtain ⟨j, O, e⟩ := h
  rcases get_set _ e with ⟨_, q⟩ | ⟨_, q⟩
  · cases q
  · exact ⟨j, O, q⟩
theorem own_setNo {Γ : List Sl} {i : Nat} (p : Addr) (h : Own (Γ.set i .no) p) : Own Γ p := by
  obtain ⟨j, O, e⟩ := h
  rcases get_set _ e with ⟨_, q⟩ | ⟨_, q⟩
  · cases q
  · exact ⟨j, O, q⟩
theorem st_get {σ : L2.St} {i j : Nat} {v : V} (hi : i < σ.length) : (σ.set i (some v))[j]? = if j = i then some (some v) else σ[j]? := by
  by_cases e : j = i
  · subst e
    rw [if_pos rfl, List.getElem?_set_self hi]
  · rw [if_neg e, List.getElem?_set_ne (Ne.symm e)]
/-- a slot gets a value of which P is known -/
theorem Kn.put {Γ : List Sl} {σ : L2.St} {G H : Hp} {i : Nat} {P : Pr} {v : V} (k : Kn Γ σ G H) (hi : i < Γ.length) (h : P.p G v) : Kn (Γ.set i (.pr P)) (σ.set i (some v)) G H := by
  have hs : i < σ.length := Nat.lt_of_lt_of_le hi k.l
  refine ⟨by rw [List.length_set, List.length_set]; exact k.l, k.s, fun j Q e => ?_, fun j a O e => ?_, fun j j' a O O' e e' => ?_⟩
  · rw [st_get hs]
    rcases get_set _ e with ⟨q, r⟩ | ⟨q, r⟩
    · cases r
      rw [if_pos q]
      exact ⟨v, rfl, h⟩
    · rw [if_neg q]
      exact k.p j Q r
  · rw [st_get hs]
    rcases get_set _ e with ⟨q, r⟩ | ⟨q, r⟩
    · cases r
    · rw [if_neg q]
      exact k.o j a O r
  · rcases get_set _ e with ⟨q, r⟩ | ⟨q, r⟩
    · cases r
    · rcases get_set _ e' with ⟨q', r'⟩ | ⟨q', r'⟩
      · cases r'
      · exact k.d j j' a O O' r r'
/-- a slot gets an object of one's own -/
theorem Kn.putOwn {Γ : List Sl} {σ : L2.St} {G H : Hp} {i : Nat} {O : Ob} {a : Addr} {u : HO} (k : Kn Γ σ G H) (hi : i < Γ.length) (hg : G a = none) (h : H a = some u) (ho : O.o G u) (hn : ∀ j O', j ≠ i → Γ[j]? ≠ some (.own a O')) : Kn (Γ.set i (.own a O)) (σ.set i (some (.ref a))) G H := by
  have hs : i < σ.length := Nat.lt_of_lt_of_le hi k.l
  refine ⟨by rw [List.length_set, List.length_set]; exact k.l, k.s, fun j Q e => ?_, fun j b O' e => ?_, fun j j' b O1 O2 e e' => ?_⟩
  · rw [st_get hs]
    rcases get_set _ e with ⟨q, r⟩ | ⟨q, r⟩
    · cases r
    · rw [if_neg q]
      exact k.p j Q r
  · rw [st_get hs]
    rcases get_set _ e with ⟨q, r⟩ | ⟨q, r⟩
    · cases r
      rw [if_pos q]
      exact ⟨rfl, hg, u, h, ho⟩
    · rw [if_neg q]
      exact k.o j b O' r
  · rcases get_set _ e with ⟨q, r⟩ | ⟨q, r⟩
    · rcases get_set _ e' with ⟨q', r'⟩ | ⟨q', r'⟩
      · rw [q, q']
      · cases r
        exact absurd r' (hn j' O2 q')
    · rcases get_set _ e' with ⟨q', r'⟩ | ⟨q', r'⟩
      · cases r'
        exact absurd r (hn j O1 q)
      · exact k.d j j' b O1 O2 r r'
/-- one's own object changes -/
theorem Kn.chg {Γ : List Sl} {σ : L2.St} {G H : Hp} {i : Nat} {O O' : Ob} {a : Addr} {u : HO} (k : Kn Γ σ G H) (e : Γ[i]? = some (.own a O)) (ho : O'.o G u) : Kn (Γ.set i (.own a O')) σ G (upd H a u) := by
  have hi : i < Γ.length := (List.getElem?_eq_some_iff.mp e).1
  obtain ⟨h1, h2, _⟩ := k.o i a O e
  refine ⟨by rw [List.length_set]; exact k.l, same_mut k.s h2, fun j Q q => ?_, fun j b O1 q => ?_, fun j j' b O1 O2 q q' => ?_⟩
  · rcases get_set _ q with ⟨_, r⟩ | ⟨_, r⟩
    · cases r
    · exact k.p j Q r
  · rcases get_set _ q with ⟨z, r⟩ | ⟨z, r⟩
    · cases r
      rw [z]
      exact ⟨h1, h2, u, upd_same, ho⟩
    · have hb : b ≠ a := fun w => z (k.d j i b O1 O r (by rw [w]; exact e))
      obtain ⟨g1, g2, u', g3, g4⟩ := k.o j b O1 r
      exact ⟨g1, g2, u', by rw [upd_ne hb]; exact g3, g4⟩
  · rcases get_set _ q with ⟨z, r⟩ | ⟨z, r⟩
    · rcases get_set _ q' with ⟨z', r'⟩ | ⟨z', r'⟩
      · rw [z, z']
      · cases r
        rw [z]
        exact (k.d j' i _ O2 O r' e).symm
    · rcases get_set _ q' with ⟨z', r'⟩ | ⟨z', r'⟩
      · cases r'
        rw [z']
        exact k.d j i _ O1 O r e
      · exact k.d j j' b O1 O2 r r'
theorem own_chg {Γ : List Sl} {i : Nat} {O O' : Ob} {a : Addr} (e : Γ[i]? = some (.own a O)) (p : Addr) (h : Own (Γ.set i (.own a O')) p) : Own Γ p := by
  obtain ⟨j, O1, q⟩ := h
  rcases get_set _ q with ⟨_, r⟩ | ⟨_, r⟩
  · cases r
    exact ⟨i, O, e⟩
  · exact ⟨j, O1, r⟩
theorem Mv.chg {Γ : List Sl} {σ : L2.St} {G H : Hp} {i : Nat} {O O' : Ob} {a : Addr} {u : HO} (k : Kn Γ σ G H) (e : Γ[i]? = some (.own a O)) : Mv Γ G H (Γ.set i (.own a O')) G (upd H a u) where
  g := Same.refl G
  h := fun p o h n => by
    rw [upd_ne (fun z => n ⟨i, O, by rw [z]; exact e⟩)]
    exact h
  n := fun p h => by
    by_cases z : p = a
    · rw [z, upd_same]; exact nofun
    · rw [upd_ne z]; exact h
  s := same_mut k.s (k.o i a O e).2.1
  f := fun _ h _ _ => h
  o := fun p h => .inl (own_chg e p h)
theorem Mv.put {Γ Γ' : List Sl} {G H G' H' : Hp} {i : Nat} {P : Pr} (m : Mv Γ G H Γ' G' H') : Mv Γ G H (Γ'.set i (.pr P)) G' H' := m.wk own_set

/-! ### judgements -/
/-- te, where Γ is known, gives a value of which P is known; Γ' is known behind it -/
def Ev (Γ : List Sl) (te : TE) (P : Pr) (Γ' : List Sl) : Prop := ∀ σ G H, Kn Γ σ G H → ∀ Q : VK, (∀ v G' H', Mv Γ G H Γ' G' H' → Kn Γ' σ G' H' → P.p G' v → Q v H') → te σ H Q
/-- .. a new object, not yet known by others -/
def EvN (Γ : List Sl) (te : TE) (O : Ob) (Γ' : List Sl) : Prop := ∀ σ G H, Kn Γ σ G H → ∀ Q : VK, (∀ a u G' H', Mv Γ G H Γ' G' H' → Kn Γ' σ G' H' → H a = none → H' a = some u → G' a = none → O.o G' u → ¬ Own Γ' a → Q (.ref a) H') → te σ H Q
def Et (Γ : List Sl) (tt : TT) (b : Bool) (Γ' : List Sl) : Prop := ∀ σ G H, Kn Γ σ G H → ∀ Q : Bool → Hp → Prop, (∀ G' H', Mv Γ G H Γ' G' H' → Kn Γ' σ G' H' → Q b H') → tt σ H Q
def Each : List Pr → Hp → List V → Prop
  | [], _, [] => True
  | P :: Ps, G, v :: vs => P.p G v ∧ Each Ps G vs
  | _, _, _ => False
theorem Each.up {G G' : Hp} (e : Same G G') : ∀ {Ps : List Pr} {vs : List V}, Each Ps G vs → Each Ps G' vs
  | [], [], _ => trivial
  | P :: _, _ :: _, h => ⟨P.up e h.1, Each.up e h.2⟩
theorem Each.len {G : Hp} : ∀ {Ps : List Pr} {vs : List V}, Each Ps G vs → vs.length = Ps.length
  | [], [], _ => rfl
  | _ :: _, _ :: _, h => congrArg (· + 1) (Each.len h.2)
theorem Each.get {G : Hp} : ∀ {Ps : List Pr} {vs : List V} {i : Nat} {P : Pr}, Each Ps G vs → Ps[i]? = some P → ∃ v, vs[i]? = some v ∧ P.p G v
  | [], [], _, _, _, e => by simp at e
  | _ :: _, v :: _, 0, _, h, e => by simp at e; subst e; exact ⟨v, rfl, h.1⟩
  | _ :: _, _ :: _, i + 1, P, h, e => by
    obtain ⟨v, h1, h2⟩ := Each.get (i := i) (P := P) h.2 (by simpa using e)
    exact ⟨v, by simpa using h1, h2⟩
def EvA (Γ : List Sl) (ta : TA) (Ps : List Pr) (Γ' : List Sl) : Prop := ∀ σ G H, Kn Γ σ G H → ∀ Q : List V → Hp → Prop, (∀ vs G' H', Mv Γ G H Γ' G' H' → Kn Γ' σ G' H' → Each Ps G' vs → Q vs H') → ta σ H Q
/-- a statement falls through -/
def Go (Γ : List Sl) (ts : TS) (Γ' : List Sl) : Prop := ∀ σ G H, Kn Γ σ G H → ∀ E : Ends, (∀ σ' G' H', Mv Γ G H Γ' G' H' → Kn Γ' σ' G' H' → E.nx σ' H') → ts E σ H
/-- a statement returns -/
def Rt (Γ : List Sl) (ts : TS) (P : Pr) (Γ' : List Sl) : Prop := ∀ σ G H, Kn Γ σ G H → ∀ E : Ends, (∀ v σ' G' H', Mv Γ G H Γ' G' H' → Kn Γ' σ' G' H' → P.p G' v → E.rt v H') → ts E σ H
/-- an iterator that gives values of which Xs are known, one by one -/
def ItOk (J : It) (Xs : List Pr) (G : Hp) : Prop := ∀ G2 H2, Same G G2 → Same G2 H2 → ∀ i, (∀ X, Xs[i]? = some X → J.go i H2 ∧ ∀ x H3, J.yld i H2 x H3 → ∃ G3, Ext G2 H2 G3 H3 ∧ X.p G3 x) ∧ (Xs[i]? = none → J.stop i H2)
def EvI (Γ : List Sl) (wi : TI) (Xs : List Pr) (Γ' : List Sl) : Prop := ∀ σ G H, Kn Γ σ G H → ∀ R : It → Hp → Prop, (∀ J G' H', Mv Γ G H Γ' G' H' → Kn Γ' σ G' H' → ItOk J Xs G' → R J H') → wi σ H R

section
variable {K : PySem.W.Frag} {Γ Γ1 Γ2 Γ3 Γ' : List Sl} {te ta tb tc : TE} {tt tu : TT} {P P1 P2 : Pr} {ts tr tz : TS} {tas : TA} {Ps : List Pr} {d d1 d2 : PyData} {O : Ob}

/-! ### structure -/
theorem Kn.mv {σ : L2.St} {G H G1 H1 : Hp} {Q : Prop} (q : Q) : Q := q
/-- a plain growth is enough -/
theorem ev_ext (h : ∀ σ G H, Kn Γ σ G H → ∀ Q : VK, (∀ v G' H', Ext G H G' H' → P.p G' v → Q v H') → te σ H Q) : Ev Γ te P Γ := fun σ G H k Q q => h σ G H k Q fun v G' H' e p => q v G' H' (.ext e) (k.ext e) p
theorem ev_here (h : ∀ σ G H, Kn Γ σ G H → ∀ Q : VK, (∀ v, P.p G v → Q v H) → te σ H Q) : Ev Γ te P Γ := fun σ G H k Q q => h σ G H k Q fun v p => q v G H (.refl k.s) k p
theorem Ev.imp (h : Ev Γ te P Γ') (i : ∀ G v, P.p G v → P1.p G v) : Ev Γ te P1 Γ' := fun σ G H k Q q => h σ G H k Q fun v G' H' m k' p => q v G' H' m k' (i _ _ p)
theorem Ev.is (h : Ev Γ te P Γ') (i : P = P1) : Ev Γ te P1 Γ' := i ▸ h
theorem Et.is {b b' : Bool} (h : Et Γ tt b Γ') (i : b = b') : Et Γ tt b' Γ' := i ▸ h
theorem Rt.is (h : Rt Γ ts P Γ') (i : P = P1) : Rt Γ ts P1 Γ' := i ▸ h
theorem Go.wk (h : Go Γ ts Γ1) (w : Wk Γ1 Γ') : Go Γ ts Γ' := fun σ G H k E q => h σ G H k E fun σ' G' H' m k' => q σ' G' H' (m.wk w.own) (k'.wk w)
theorem Go.pre (h : Go Γ1 ts Γ') (w : Wk Γ Γ1) : Go Γ ts Γ' := fun σ G H k E q => h σ G H (k.wk w) E fun σ' G' H' m k' => q σ' G' H' (m.wk0 w.own) k'
theorem Go.is (h : Go Γ ts Γ1) (e : Γ1 = Γ') : Go Γ ts Γ' := e ▸ h
theorem ev_var {i : Nat} (h : Γ[i]? = some (.pr P)) : Ev Γ (tVar i) P Γ := ev_here fun σ G H k Q q => let ⟨v, h1, h2⟩ := k.p i P h; ⟨v, h1, q v h2⟩
theorem ev_int {n : Int} : Ev Γ (tC (.int n)) (D K (.int n)) Γ := ev_here fun _ _ _ _ _ q => q _ (.int n)
theorem ev_str {x : Str} : Ev Γ (tC (.str x)) (D K (.str x)) Γ := ev_here fun _ _ _ _ _ q => q _ (.str x)
theorem ev_bool {b : Bool} : Ev Γ (tC (.bl b)) (D K (.bool b)) Γ := ev_here fun _ _ _ _ _ q => q _ (.bl b)
theorem ev_non : Ev Γ (tC .non) (D K .none) Γ := ev_here fun _ _ _ _ _ q => q _ .non
theorem ev_va {v : V} : Ev Γ (tC v) (Va v) Γ := ev_here fun _ _ _ _ _ q => q _ rfl
theorem dp_int {G : Hp} {v : V} {n : Int} (h : Dp K G v (.int n)) : v = .int n := by cases h; rfl
theorem dp_bool {G : Hp} {v : V} {b : Bool} (h : Dp K G v (.bool b)) : v = .bl b := by cases h; rfl
theorem dp_str {G : Hp} {v : V} {x : Str} (h : Dp K G v (.str x)) : v = .str x := by cases h; rfl
theorem dp_none {G : Hp} {v : V} (h : Dp K G v .none) : v = .non := by cases h; rfl
theorem dp_list {G : Hp} {v : V} {ds : List PyData} (h : Dp K G v (.list ds)) : ∃ a vs, v = .ref a ∧ SqL K G a vs ∧ DpAll K G vs ds := by
  cases h with
  | lst h1 h2 => exact ⟨_, _, rfl, h1, h2⟩
theorem dp_tup {G : Hp} {v : V} {ds : List PyData} (h : Dp K G v (.tuple ds)) : ∃ a vs, v = .ref a ∧ SqT K G a vs ∧ DpAll K G vs ds := by
  cases h with
  | tup h1 h2 => exact ⟨_, _, rfl, h1, h2⟩
/-- two parts in a row, then what is asked of both values -/
theorem ev_two {r : R2} (ha : Ev Γ ta P1 Γ1) (hb : Ev Γ1 tb P2 Γ2) (hr : ∀ x y G H, Same G H → P1.p G x → P2.p G y → ∀ Q : VK, (∀ z G' H', Ext G H G' H' → P.p G' z → Q z H') → r x y H Q) : Ev Γ (tOp r ta tb) P Γ2 := fun σ G H k Q q =>
  ha σ G H k _ fun x G1 H1 m1 k1 p1 => hb σ G1 H1 k1 _ fun y G2 H2 m2 k2 p2 => hr x y G2 H2 k2.s (P1.up m2.g p1) p2 Q fun z G3 H3 e p => q z G3 H3 ((m1.trans m2).trans (.ext e)) (k2.ext e) p
theorem ev_two0 {r : R2} (ha : Ev Γ ta P1 Γ1) (hb : Ev Γ1 tb P2 Γ2) (hr : ∀ x y G H, Same G H → P1.p G x → P2.p G y → ∀ Q : VK, (∀ z, P.p G z → Q z H) → r x y H Q) : Ev Γ (tOp r ta tb) P Γ2 :=
  ev_two ha hb fun x y G H s p1 p2 Q q => hr x y G H s p1 p2 Q fun z p => q z G H (.refl s) p
theorem ev_I0 {g : Int → Int → V} {i j : Int} (ha : Ev Γ ta (D K (.int i)) Γ1) (hb : Ev Γ1 tb (D K (.int j)) Γ2) (hp : ∀ G, P.p G (g i j)) : Ev Γ (tOp (rI0 g) ta tb) P Γ2 :=
  ev_two0 ha hb fun x y G H _ p1 p2 Q q => ⟨i, j, dp_int p1, dp_int p2, q _ (hp G)⟩
theorem ev_add {i j : Int} (ha : Ev Γ ta (D K (.int i)) Γ1) (hb : Ev Γ1 tb (D K (.int j)) Γ2) : Ev Γ (tOp (rI0 fun i j => .int (i + j)) ta tb) (D K (.int (i + j))) Γ2 := ev_I0 ha hb fun _ => .int _
theorem ev_sub {i j : Int} (ha : Ev Γ ta (D K (.int i)) Γ1) (hb : Ev Γ1 tb (D K (.int j)) Γ2) : Ev Γ (tOp (rI0 fun i j => .int (i - j)) ta tb) (D K (.int (i - j))) Γ2 := ev_I0 ha hb fun _ => .int _
theorem ev_lt {i j : Int} (ha : Ev Γ ta (D K (.int i)) Γ1) (hb : Ev Γ1 tb (D K (.int j)) Γ2) : Ev Γ (tOp (rI0 fun i j => .bl (decide (i < j))) ta tb) (D K (.bool (decide (i < j)))) Γ2 := ev_I0 ha hb fun _ => .bl _
theorem ev_le {i j : Int} (ha : Ev Γ ta (D K (.int i)) Γ1) (hb : Ev Γ1 tb (D K (.int j)) Γ2) : Ev Γ (tOp (rI0 fun i j => .bl (decide (i ≤ j))) ta tb) (D K (.bool (decide (i ≤ j)))) Γ2 := ev_I0 ha hb fun _ => .bl _
theorem ev_gt {i j : Int} (ha : Ev Γ ta (D K (.int i)) Γ1) (hb : Ev Γ1 tb (D K (.int j)) Γ2) : Ev Γ (tOp (rI0 fun i j => .bl (decide (j < i))) ta tb) (D K (.bool (decide (j < i)))) Γ2 := ev_I0 ha hb fun _ => .bl _
theorem ev_ge {i j : Int} (ha : Ev Γ ta (D K (.int i)) Γ1) (hb : Ev Γ1 tb (D K (.int j)) Γ2) : Ev Γ (tOp (rI0 fun i j => .bl (decide (j ≤ i))) ta tb) (D K (.bool (decide (j ≤ i)))) Γ2 := ev_I0 ha hb fun _ => .bl _
theorem ev_mul {i j : Int} (ha : Ev Γ ta (D K (.int i)) Γ1) (hb : Ev Γ1 tb (D K (.int j)) Γ2) (hc : CMul i j) : Ev Γ (tOp (rI CMul fun i j => .int (i * j)) ta tb) (D K (.int (i * j))) Γ2 :=
  ev_two0 ha hb fun x y G H _ p1 p2 Q q => ⟨i, j, dp_int p1, dp_int p2, hc, q _ (.int _)⟩
theorem ev_mod {i j : Int} (ha : Ev Γ ta (D K (.int i)) Γ1) (hb : Ev Γ1 tb (D K (.int j)) Γ2) (hc : 0 < j) : Ev Γ (tOp (rI (fun _ j => 0 < j) fun i j => .int (i % j)) ta tb) (D K (.int (i % j))) Γ2 :=
  ev_two0 ha hb fun x y G H _ p1 p2 Q q => ⟨i, j, dp_int p1, dp_int p2, hc, q _ (.int _)⟩
/-- == and != of scalars -/
theorem ev_eqI {i j : Int} (ha : Ev Γ ta (D K (.int i)) Γ1) (hb : Ev Γ1 tb (D K (.int j)) Γ2) : Ev Γ (tOp rEq ta tb) (D K (.bool (decide (i = j)))) Γ2 :=
  ev_two0 ha hb fun x y G H _ p1 p2 Q q => by
    cases dp_int p1
    cases dp_int p2
    refine ⟨rfl, ?_⟩
    have e : decide (V.int i = V.int j) = decide (i = j) := by simp
    rw [e]
    exact q _ (.bl _)
theorem ev_neI {i j : Int} (ha : Ev Γ ta (D K (.int i)) Γ1) (hb : Ev Γ1 tb (D K (.int j)) Γ2) : Ev Γ (tOp rNe ta tb) (D K (.bool (!decide (i = j)))) Γ2 :=
  ev_two0 ha hb fun x y G H _ p1 p2 Q q => by
    cases dp_int p1
    cases dp_int p2
    refine ⟨rfl, ?_⟩
    have e : decide (V.int i = V.int j) = decide (i = j) := by simp
    rw [e]
    exact q _ (.bl _)
theorem ev_neB {i j : Bool} (ha : Ev Γ ta (D K (.bool i)) Γ1) (hb : Ev Γ1 tb (D K (.bool j)) Γ2) : Ev Γ (tOp rNe ta tb) (D K (.bool (!decide (i = j)))) Γ2 :=
  ev_two0 ha hb fun x y G H _ p1 p2 Q q => by
    cases dp_bool p1
    cases dp_bool p2
    refine ⟨rfl, ?_⟩
    have e : decide (V.bl i = V.bl j) = decide (i = j) := by simp
    rw [e]
    exact q _ (.bl _)
theorem ev_eqS {i j : Str} (ha : Ev Γ ta (D K (.str i)) Γ1) (hb : Ev Γ1 tb (D K (.str j)) Γ2) : Ev Γ (tOp rEq ta tb) (D K (.bool (decide (i = j)))) Γ2 :=
  ev_two0 ha hb fun x y G H _ p1 p2 Q q => by
    cases dp_str p1
    cases dp_str p2
    refine ⟨rfl, ?_⟩
    have e : decide (V.str i = V.str j) = decide (i = j) := by simp
    rw [e]
    exact q _ (.bl _)
/-- deep == and != -/
theorem ev_eqD (ha : Ev Γ ta (D K d1) Γ1) (hb : Ev Γ1 tb (D K d2) Γ2) (h1 : SeqAt.shaped d1 = true) (h2 : SeqAt.shaped d2 = true) : Ev Γ (tOp (rEqD K) ta tb) (D K (.bool (PyData.eqv d1 d2))) Γ2 :=
  ev_two0 ha hb fun x y G H s p1 p2 Q q => ⟨d1, d2, dp_up s _ _ p1, dp_up s _ _ p2, h1, h2, q _ (.bl _)⟩
theorem ev_neD (ha : Ev Γ ta (D K d1) Γ1) (hb : Ev Γ1 tb (D K d2) Γ2) (h1 : SeqAt.shaped d1 = true) (h2 : SeqAt.shaped d2 = true) : Ev Γ (tOp (rNeD K) ta tb) (D K (.bool (!PyData.eqv d1 d2))) Γ2 :=
  ev_two0 ha hb fun x y G H s p1 p2 Q q => ⟨d1, d2, dp_up s _ _ p1, dp_up s _ _ p2, h1, h2, q _ (.bl _)⟩

/-! ### tests -/
theorem et_test {b : Bool} (h : Ev Γ te (D K (.bool b)) Γ') : Et Γ (tTest te) b Γ' := fun σ G H k Q q => h σ G H k _ fun v G' H' m k' p => ⟨b, dp_bool p, q G' H' m k'⟩
theorem et_B {b : Bool} (h : Ev Γ te (D K (.bool b)) Γ') : Et Γ (tB te) b Γ' := fun σ G H k Q q => h σ G H k _ fun v G' H' m k' p => ⟨b, dp_bool p, q G' H' m k'⟩
theorem et_not {b : Bool} (h : Et Γ tt b Γ') : Et Γ (tNot tt) (!b) Γ' := fun σ G H k Q q => h σ G H k _ fun G' H' m k' => q G' H' m k'
theorem et_and {a b : Bool} (h1 : Et Γ tt a Γ1) (h2 : a = true → Et Γ1 tu b Γ1) : Et Γ (tAnd tt tu) (a && b) Γ1 := fun σ G H k Q q => h1 σ G H k _ fun G1 H1 m1 k1 => by
  cases a with
  | true =>
    show tu σ H1 Q
    exact h2 rfl σ G1 H1 k1 Q fun G2 H2 m2 k2 => q G2 H2 (m1.trans m2) k2
  | false =>
    show Q false H1
    exact q G1 H1 m1 k1
theorem et_or {a b : Bool} (h1 : Et Γ tt a Γ1) (h2 : a = false → Et Γ1 tu b Γ1) : Et Γ (tOr tt tu) (a || b) Γ1 := fun σ G H k Q q => h1 σ G H k _ fun G1 H1 m1 k1 => by
  cases a with
  | true =>
    show Q true H1
    exact q G1 H1 m1 k1
  | false =>
    show tu σ H1 Q
    exact h2 rfl σ G1 H1 k1 Q fun G2 H2 m2 k2 => q G2 H2 (m1.trans m2) k2
theorem ev_andV {a b : Bool} (h1 : Ev Γ ta (D K (.bool a)) Γ1) (h2 : a = true → Ev Γ1 tb (D K (.bool b)) Γ1) : Ev Γ (tAndV ta tb) (D K (.bool (a && b))) Γ1 := fun σ G H k Q q => h1 σ G H k _ fun v G1 H1 m1 k1 p => ⟨a, dp_bool p, by
  cases a with
  | true =>
    show tb σ H1 Q
    exact h2 rfl σ G1 H1 k1 Q fun v G2 H2 m2 k2 p2 => q v G2 H2 (m1.trans m2) k2 p2
  | false =>
    show Q (.bl false) H1
    exact q _ G1 H1 m1 k1 (.bl _)⟩
theorem ev_orV {a b : Bool} (h1 : Ev Γ ta (D K (.bool a)) Γ1) (h2 : a = false → Ev Γ1 tb (D K (.bool b)) Γ1) : Ev Γ (tOrV ta tb) (D K (.bool (a || b))) Γ1 := fun σ G H k Q q => h1 σ G H k _ fun v G1 H1 m1 k1 p => ⟨a, dp_bool p, by
  cases a with
  | true =>
    show Q (.bl true) H1
    exact q _ G1 H1 m1 k1 (.bl _)
  | false =>
    show tb σ H1 Q
    exact h2 rfl σ G1 H1 k1 Q fun v G2 H2 m2 k2 p2 => q v G2 H2 (m1.trans m2) k2 p2⟩
theorem ev_notV {a : Bool} (h1 : Ev Γ ta (D K (.bool a)) Γ1) : Ev Γ (tNotV ta) (D K (.bool (!a))) Γ1 := fun σ G H k Q q => h1 σ G H k _ fun v G1 H1 m1 k1 p => ⟨a, dp_bool p, q _ G1 H1 m1 k1 (.bl _)⟩
theorem ev_if {b : Bool} (h : Et Γ tt b Γ1) (h1 : b = true → Ev Γ1 ta P Γ2) (h2 : b = false → Ev Γ1 tb P Γ2) : Ev Γ (tIf tt ta tb) P Γ2 := fun σ G H k Q q => h σ G H k _ fun G1 H1 m1 k1 => by
  cases b with
  | true =>
    show ta σ H1 Q
    exact h1 rfl σ G1 H1 k1 Q fun v G2 H2 m2 k2 p2 => q v G2 H2 (m1.trans m2) k2 p2
  | false =>
    show tb σ H1 Q
    exact h2 rfl σ G1 H1 k1 Q fun v G2 H2 m2 k2 p2 => q v G2 H2 (m1.trans m2) k2 p2
/-- a < b < c -/
theorem ev_chain {r r' : R2} {a b : Bool} (h1 : Ev Γ ta P1 Γ1) (h2 : Ev Γ1 tb P2 Γ2) (hr : ∀ x y G H, Same G H → P1.p G x → P2.p G y → ∀ Q : VK, Q (.bl a) H → r x y H Q)
    (h3 : a = true → Ev Γ2 tc P Γ2) (hr' : a = true → ∀ x y G H, Same G H → P2.p G x → P.p G y → ∀ Q : VK, Q (.bl b) H → r' x y H Q) : Ev Γ (tChain r r' ta tb tc) (D K (.bool (a && b))) Γ2 := fun σ G H k Q q =>
  h1 σ G H k _ fun x G1 H1 m1 k1 p1 => h2 σ G1 H1 k1 _ fun y G2 H2 m2 k2 p2 => hr x y G2 H2 k2.s (P1.up m2.g p1) p2 _ ⟨a, rfl, by
    cases a with
    | true =>
      show tc σ H2 fun w' H4 => r' y w' H4 Q
      refine h3 rfl σ G2 H2 k2 _ fun z G3 H3 m3 k3 p3 => hr' rfl y z G3 H3 k3.s (P2.up m3.g p2) p3 Q ?_
      exact q _ G3 H3 ((m1.trans m2).trans m3) k3 (.bl _)
    | false =>
      show Q (.bl false) H2
      exact q _ G2 H2 (m1.trans m2) k2 (.bl _)⟩

/-! ### arguments, displays, calls -/
theorem ea_nil : EvA Γ tNil [] Γ := fun σ G H k Q q => q [] G H (.refl k.s) k trivial
theorem ea_cons (h : Ev Γ ta P Γ1) (hr : EvA Γ1 tas Ps Γ2) : EvA Γ (tCons ta tas) (P :: Ps) Γ2 := fun σ G H k Q q =>
  h σ G H k _ fun x G1 H1 m1 k1 p1 => hr σ G1 H1 k1 _ fun xs G2 H2 m2 k2 p2 => q (x :: xs) G2 H2 (m1.trans m2) k2 ⟨P.up m2.g p1, p2⟩
/-- the arguments are data -/
def EvD (K : PySem.W.Frag) (Γ : List Sl) (tas : TA) (ds : List PyData) (Γ' : List Sl) : Prop := ∀ σ G H, Kn Γ σ G H → ∀ Q : List V → Hp → Prop, (∀ vs G' H', Mv Γ G H Γ' G' H' → Kn Γ' σ G' H' → DpAll K G' vs ds → Q vs H') → tas σ H Q
theorem ed_nil : EvD K Γ tNil [] Γ := fun σ G H k Q q => q [] G H (.refl k.s) k .nil
theorem ed_cons {ds : List PyData} (h : Ev Γ ta (D K d) Γ1) (hr : EvD K Γ1 tas ds Γ2) : EvD K Γ (tCons ta tas) (d :: ds) Γ2 := fun σ G H k Q q =>
  h σ G H k _ fun x G1 H1 m1 k1 p1 => hr σ G1 H1 k1 _ fun xs G2 H2 m2 k2 p2 => q (x :: xs) G2 H2 (m1.trans m2) k2 (.cons (dp_up m2.g _ _ p1) p2)
theorem ed_starT {ds es : List PyData} (h : Ev Γ ta (D K (.tuple es)) Γ1) (hr : EvD K Γ1 tas ds Γ2) : EvD K Γ (StX.tStar K ta tas) (es ++ ds) Γ2 := fun σ G H k Q q =>
  h σ G H k _ fun x G1 H1 m1 k1 p1 => by
    obtain ⟨a, vs, rfl, h1, h2⟩ := dp_tup p1
    exact ⟨a, vs, rfl, .inl (sqT_up k1.s h1), hr σ G1 H1 k1 _ fun xs G2 H2 m2 k2 p2 => q (vs ++ xs) G2 H2 (m1.trans m2) k2 (dpAll_app (dpAll_up m2.g _ _ h2) p2)⟩
theorem sz_of {n : Nat} (h : n ≤ 100000) : n ≤ sizeLine := Nat.le_trans h (by decide)
theorem sz_lt {n : Nat} (h : n < 100000) : n < sizeLine := Nat.lt_of_lt_of_le h (by decide)
theorem ev_tup {ds : List PyData} (h : EvD K Γ tas ds Γ1) (hl : ds.length ≤ 100000) : Ev Γ (tTup tas) (D K (.tuple ds)) Γ1 := fun σ G H k Q q =>
  h σ G H k _ fun vs G1 H1 m1 k1 p1 => ⟨sz_of (by rw [dpAll_len p1]; exact hl), fun p hp => by
    have e : Ext G1 H1 (upd G1 p (.tup vs)) (upd H1 p (.tup vs)) := .new k1.s hp
    exact q _ _ _ (m1.trans (.ext e)) (k1.ext e) (.tup (.inl (.inl upd_same)) (dpAll_up e.g _ _ p1))⟩
theorem en_lst {ds : List PyData} (h : EvD K Γ tas ds Γ1) (hl : ds.length ≤ 100000) : EvN Γ (tLst tas) (oL K ds) Γ1 := fun σ G H k Q q =>
  h σ G H k _ fun vs G1 H1 m1 k1 p1 => ⟨sz_of (by rw [dpAll_len p1]; exact hl), fun p hp => by
    have e : Ext G1 H1 G1 (upd H1 p (.lst vs)) := .mut k1.s hp
    have hH : H p = none := Classical.byContradiction fun z => m1.n p z hp
    refine q p (.lst vs) G1 _ (m1.trans (.ext e)) (k1.ext e) hH upd_same (k1.s.free hp) ⟨vs, rfl, p1⟩ fun ⟨i, O, z⟩ => ?_
    obtain ⟨_, _, u, hu, _⟩ := k1.o i p O z
    rw [hp] at hu
    cases hu⟩
/-- a new list stands still from now on -/
theorem ev_new {ds : List PyData} (h : EvN Γ te (oL K ds) Γ1) : Ev Γ te (D K (.list ds)) Γ1 := fun σ G H k Q q =>
  h σ G H k _ fun a u G1 H1 m1 k1 ha hu hg ho hn => by
    obtain ⟨vs, rfl, hd⟩ := ho
    have s1 : Same G1 (upd G1 a (.lst vs)) := same_upd hg
    refine q (.ref a) (upd G1 a (.lst vs)) H1 ⟨m1.g.trans s1, m1.h, m1.n, same_updG m1.s hu, fun p z w x => ?_, m1.o⟩ ⟨k1.l, same_updG k1.s hu, fun i P z => ?_, fun i b O z => ?_, k1.d⟩ (.lst (.inl (.inl upd_same)) (dpAll_up s1 _ _ hd))
    · rw [upd_ne (fun e => w.ne (by rw [e]; exact ha))]
      exact m1.f p z w x
    · obtain ⟨v, z1, z2⟩ := k1.p i P z
      exact ⟨v, z1, P.up s1 z2⟩
    · obtain ⟨z1, z2, u', z3, z4⟩ := k1.o i b O z
      refine ⟨z1, ?_, u', z3, O.up s1 z4⟩
      rw [upd_ne (fun e => hn ⟨i, O, by rw [← e]; exact z⟩)]
      exact z2
theorem ev_lst {ds : List PyData} (h : EvD K Γ tas ds Γ1) (hl : ds.length ≤ 100000) : Ev Γ (tLst tas) (D K (.list ds)) Γ1 := ev_new (en_lst h hl)

/-! ### what a def promises -/
/-- a plain def: from arguments a (of which args a is known), under pre, a value of which r a is known -/
def spF {α : Type} (args : α → List Pr) (pre : α → Prop) (r : α → Pr) : Sp := fun vs H Q _ => ∃ (G : Hp) (a : α), Same G H ∧ Each (args a) G vs ∧ pre a ∧ ∀ v G' H', Ext G H G' H' → (r a).p G' v → Q v H'
theorem ev_call {α : Type} {args : α → List Pr} {pre : α → Prop} {r : α → Pr} {E : XK} (a : α) (h : EvA Γ tas (args a) Γ1) (hp : pre a) : Ev Γ (tCall (spF args pre r) [] E tas) (r a) Γ1 := fun σ G H k Q q =>
  h σ G H k _ fun vs G1 H1 m1 k1 p1 => ⟨G1, a, k1.s, by rw [List.append_nil]; exact p1, hp, fun v G2 H2 e p => q v G2 H2 (m1.trans (.ext e)) (k1.ext e) p⟩

/-! ### statements -/
theorem st_seq (h1 : Go Γ ts Γ1) (h2 : Go Γ1 tr Γ2) : Go Γ (tSeq ts tr) Γ2 := fun σ G H k E q => h1 σ G H k { E with nx := tr E } fun σ1 G1 H1 m1 k1 => h2 σ1 G1 H1 k1 E fun σ2 G2 H2 m2 k2 => q σ2 G2 H2 (m1.trans m2) k2
theorem rt_seq (h1 : Go Γ ts Γ1) (h2 : Rt Γ1 tr P Γ2) : Rt Γ (tSeq ts tr) P Γ2 := fun σ G H k E q => h1 σ G H k { E with nx := tr E } fun σ1 G1 H1 m1 k1 => h2 σ1 G1 H1 k1 E fun v σ2 G2 H2 m2 k2 p => q v σ2 G2 H2 (m1.trans m2) k2 p
theorem rt_first (h1 : Rt Γ ts P Γ1) : Rt Γ (tSeq ts tr) P Γ1 := fun σ G H k E q => h1 σ G H k { E with nx := tr E } q
theorem st_next : Go Γ tNext Γ := fun σ G H k E q => q σ G H (.refl k.s) k
theorem st_asg {i : Nat} (h : Ev Γ te P Γ1) (hi : i < Γ1.length) : Go Γ (tAsg te (gName i)) (Γ1.set i (.pr P)) := fun σ G H k E q => h σ G H k _ fun v G1 H1 m1 k1 p1 => q _ G1 H1 m1.put (k1.put hi p1)
/-- x = a new object -/
theorem put_new {σ : L2.St} {G H G1 H1 : Hp} {a : Addr} {u : HO} {i : Nat} (m1 : Mv Γ G H Γ1 G1 H1) (k1 : Kn Γ1 σ G1 H1) (hi : i < Γ1.length) (ha : H a = none) (hu : H1 a = some u) (hg : G1 a = none) (ho : O.o G1 u) (hn : ¬ Own Γ1 a) :
    Mv Γ G H (Γ1.set i (.own a O)) G1 H1 ∧ Kn (Γ1.set i (.own a O)) (σ.set i (some (.ref a))) G1 H1 := by
  refine ⟨⟨m1.g, m1.h, m1.n, m1.s, m1.f, fun p ⟨j, O', z⟩ => ?_⟩, k1.putOwn hi hg hu ho fun j O' _ z => hn ⟨j, O', z⟩⟩
  rcases get_set _ z with ⟨_, r⟩ | ⟨_, r⟩
  · cases r
    exact .inr ha
  · exact m1.o p ⟨j, O', r⟩
theorem st_new {i : Nat} (h : EvN Γ te O Γ1) (hi : i < Γ1.length) (hr : ∀ a, Go (Γ1.set i (.own a O)) tr Γ2) : Go Γ (tSeq (tAsg te (gName i)) tr) Γ2 := fun σ G H k E q => h σ G H k _ fun a u G1 H1 m1 k1 ha hu hg ho hn =>
  have ⟨m2, k2⟩ := put_new m1 k1 hi ha hu hg ho hn
  hr a _ G1 H1 k2 E fun σ2 G2 H2 m3 k3 => q σ2 G2 H2 (m2.trans m3) k3
theorem rt_new {i : Nat} (h : EvN Γ te O Γ1) (hi : i < Γ1.length) (hr : ∀ a, Rt (Γ1.set i (.own a O)) tr P Γ2) : Rt Γ (tSeq (tAsg te (gName i)) tr) P Γ2 := fun σ G H k E q => h σ G H k _ fun a u G1 H1 m1 k1 ha hu hg ho hn =>
  have ⟨m2, k2⟩ := put_new m1 k1 hi ha hu hg ho hn
  hr a _ G1 H1 k2 E fun v σ2 G2 H2 m3 k3 p => q v σ2 G2 H2 (m2.trans m3) k3 p
theorem st_if {b : Bool} (h : Et Γ tt b Γ1) (h1 : b = true → Go Γ1 ts Γ2) (h2 : b = false → Go Γ1 tr Γ2) : Go Γ (tIfS tt ts tr) Γ2 := fun σ G H k E q => h σ G H k _ fun G1 H1 m1 k1 => by
  cases b with
  | true =>
    show ts E σ H1
    exact h1 rfl σ G1 H1 k1 E fun σ2 G2 H2 m2 k2 => q σ2 G2 H2 (m1.trans m2) k2
  | false =>
    show tr E σ H1
    exact h2 rfl σ G1 H1 k1 E fun σ2 G2 H2 m2 k2 => q σ2 G2 H2 (m1.trans m2) k2
theorem rt_if {b : Bool} (h : Et Γ tt b Γ1) (h1 : b = true → Rt Γ1 ts P Γ2) (h2 : b = false → Rt Γ1 tr P Γ2) : Rt Γ (tIfS tt ts tr) P Γ2 := fun σ G H k E q => h σ G H k _ fun G1 H1 m1 k1 => by
  cases b with
  | true =>
    show ts E σ H1
    exact h1 rfl σ G1 H1 k1 E fun v σ2 G2 H2 m2 k2 p => q v σ2 G2 H2 (m1.trans m2) k2 p
  | false =>
    show tr E σ H1
    exact h2 rfl σ G1 H1 k1 E fun v σ2 G2 H2 m2 k2 p => q v σ2 G2 H2 (m1.trans m2) k2 p
/-- if c: .. return ..; the rest -/
theorem rt_ifRet {b : Bool} (h : Et Γ tt b Γ1) (h1 : b = true → Rt Γ1 ts P Γ2) (h2 : b = false → Rt Γ1 tz P Γ2) : Rt Γ (tSeq (tIfS tt ts tNext) tz) P Γ2 := fun σ G H k E q => h σ G H k _ fun G1 H1 m1 k1 => by
  cases b with
  | true =>
    show ts { E with nx := tz E } σ H1
    exact h1 rfl σ G1 H1 k1 { E with nx := tz E } fun v σ2 G2 H2 m2 k2 p => q v σ2 G2 H2 (m1.trans m2) k2 p
  | false =>
    show tz E σ H1
    exact h2 rfl σ G1 H1 k1 E fun v σ2 G2 H2 m2 k2 p => q v σ2 G2 H2 (m1.trans m2) k2 p
/-- if c: (never) -/
theorem st_skip (h : Et Γ tt false Γ1) : Go Γ (tIfS tt ts tNext) Γ1 := st_if h (fun e => nomatch e) fun _ => st_next
theorem rt_ret (h : Ev Γ te P Γ1) (w : Wk Γ1 Γ') : Rt Γ (tRet te) P Γ' := fun σ G H k E q => h σ G H k _ fun v G1 H1 m1 k1 p1 => q v σ G1 H1 (m1.wk w.own) (k1.wk w) p1
theorem st_drop (h : Ev Γ te P Γ1) : Go Γ (tDrop te) Γ1 := fun σ G H k E q => h σ G H k _ fun v G1 H1 m1 k1 _ => q σ G1 H1 m1 k1
/-- x.append(e), x a list of one's own -/
theorem st_append {i : Nat} {a : Addr} {ds ds1 : List PyData} (hx : Γ[i]? = some (.own a (oL K ds1))) (h : Ev Γ te (D K d) Γ1) (hx1 : Γ1[i]? = some (.own a (oL K ds))) (hz : ds.length < 100000) :
    Go Γ (tDrop (tBM K "list" rAppend (tVar i) (tCons te tNil))) (Γ1.set i (.own a (oL K (ds ++ [d])))) := fun σ G H k E q => by
  obtain ⟨e1, _, u, hu, vs1, rfl, hd1⟩ := k.o i a _ hx
  refine ⟨.ref a, e1, .inl ⟨rfl, _, .inl (.inl hu)⟩, h σ G H k _ fun v G1 H1 m1 k1 p1 => ?_⟩
  obtain ⟨_, _, u, hu, vs, rfl, hd⟩ := k1.o i a _ hx1
  exact ⟨a, vs, v, rfl, rfl, hu, sz_lt (by rw [dpAll_len hd]; exact hz), q σ G1 _ (m1.trans (.chg k1 hx1)) (k1.chg hx1 ⟨_, rfl, dpAll_app hd (dpAll_one p1)⟩)⟩
/-- a list of one's own, read: it stands still from now on -/
theorem ev_own {i : Nat} {a : Addr} {ds : List PyData} (h : Γ[i]? = some (.own a (oL K ds))) : Ev Γ (tVar i) (D K (.list ds)) (Γ.set i (.pr (D K (.list ds)))) := fun σ G H k Q q => by
  obtain ⟨e1, hg, u, hu, vs, rfl, hd⟩ := k.o i a _ h
  have s1 : Same G (upd G a (.lst vs)) := same_upd hg
  have pd : Dp K (upd G a (.lst vs)) (.ref a) (.list ds) := .lst (.inl (.inl upd_same)) (dpAll_up s1 _ _ hd)
  refine ⟨.ref a, e1, q (.ref a) (upd G a (.lst vs)) H ⟨s1, fun _ _ h _ => h, fun _ h => h, same_updG k.s hu, fun p z w x => ?_, fun p z => .inl (own_set p z)⟩ ⟨by rw [List.length_set]; exact k.l, same_updG k.s hu, fun j P z => ?_, fun j b O z => ?_, fun j j' b O O' z z' => ?_⟩ pd⟩
  · rw [upd_ne (fun e => x ⟨i, _, by rw [e]; exact h⟩)]
    exact z
  · rcases get_set _ z with ⟨r, r2⟩ | ⟨_, r⟩
    · cases r2
      rw [r]
      exact ⟨_, e1, pd⟩
    · obtain ⟨v, z1, z2⟩ := k.p j P r
      exact ⟨v, z1, P.up s1 z2⟩
  · rcases get_set _ z with ⟨_, r⟩ | ⟨r0, r⟩
    · cases r
    · obtain ⟨z1, z2, u', z3, z4⟩ := k.o j b O r
      refine ⟨z1, ?_, u', z3, O.up s1 z4⟩
      rw [upd_ne (fun e => r0 (k.d j i b O _ r (by rw [e]; exact h)))]
      exact z2
  · rcases get_set _ z with ⟨_, r⟩ | ⟨_, r⟩
    · cases r
    · rcases get_set _ z' with ⟨_, r'⟩ | ⟨_, r'⟩
      · cases r'
      · exact k.d j j' b O O' r r'
end
end WF

/-! ## text L1b -/
namespace WF
open PySem PySem.Spec PyProof.Rows L2
section
variable {K : PySem.W.Frag} {Γ Γ1 Γ2 Γ3 Γ' : List Sl} {te ta tb tc : TE} {tt tu : TT} {P P1 P2 : Pr} {ts tr tz : TS} {tas : TA} {Ps : List Pr} {d d1 d2 : PyData} {O : Ob}

/-- a list that is tracked -/
def DL (K : PySem.W.Frag) (ds : List PyData) : Pr := ⟨fun G v => ∃ a vs, v = .ref a ∧ G a = some (.lst vs) ∧ DpAll K G vs ds, fun e ⟨a, vs, h1, h2, h3⟩ => ⟨a, vs, h1, e _ _ h2, dpAll_up e _ _ h3⟩⟩
theorem DL.dp {G : Hp} {v : V} {ds : List PyData} (h : (DL K ds).p G v) : Dp K G v (.list ds) := by
  obtain ⟨a, vs, rfl, h2, h3⟩ := h
  exact .lst (.inl (.inl h2)) h3
theorem ev_dl {ds : List PyData} (h : Ev Γ te (DL K ds) Γ') : Ev Γ te (D K (.list ds)) Γ' := h.imp fun _ _ p => DL.dp p
/-- a new list that stands still, tracked -/
theorem ev_newL {ds : List PyData} (h : EvN Γ te (oL K ds) Γ1) : Ev Γ te (DL K ds) Γ1 := fun σ G H k Q q =>
  h σ G H k _ fun a u G1 H1 m1 k1 ha hu hg ho hn => by
    obtain ⟨vs, rfl, hd⟩ := ho
    have s1 : Same G1 (upd G1 a (.lst vs)) := same_upd hg
    refine q (.ref a) (upd G1 a (.lst vs)) H1 ⟨m1.g.trans s1, m1.h, m1.n, same_updG m1.s hu, fun p z w x => ?_, m1.o⟩ ⟨k1.l, same_updG k1.s hu, fun i P z => ?_, fun i b O z => ?_, k1.d⟩ ⟨a, vs, rfl, upd_same, dpAll_up s1 _ _ hd⟩
    · rw [upd_ne (fun e => w.ne (by rw [e]; exact ha))]
      exact m1.f p z w x
    · obtain ⟨v, z1, z2⟩ := k1.p i P z
      exact ⟨v, z1, P.up s1 z2⟩
    · obtain ⟨z1, z2, u', z3, z4⟩ := k1.o i b O z
      refine ⟨z1, ?_, u', z3, O.up s1 z4⟩
      rw [upd_ne (fun e => hn ⟨i, O, by rw [← e]; exact z⟩)]
      exact z2
theorem Kn.noOwn {σ : L2.St} {G H : Hp} {p : Addr} (k : Kn Γ σ G H) (h : H p = none) : ¬ Own Γ p := fun ⟨i, O, z⟩ => by
  obtain ⟨_, _, u, hu, _⟩ := k.o i p O z
  rw [h] at hu
  cases hu
theorem Mv.back {G H G' H' : Hp} {p : Addr} (m : Mv Γ G H Γ' G' H') (h : H' p = none) : H p = none := Classical.byContradiction fun z => m.n p z h
/-- from a growth and a fresh place -/
theorem en_of {σ : L2.St} {G H G1 H1 : Hp} {u : HO} {Q : VK} (m1 : Mv Γ G H Γ1 G1 H1) (k1 : Kn Γ1 σ G1 H1) (ho : O.o G1 u) (q : ∀ a u G' H', Mv Γ G H Γ1 G' H' → Kn Γ1 σ G' H' → H a = none → H' a = some u → G' a = none → O.o G' u → ¬ Own Γ1 a → Q (.ref a) H') :
    ∀ p, H1 p = none → Q (.ref p) (upd H1 p u) := fun p hp => by
  have e : Ext G1 H1 G1 (upd H1 p u) := .mut k1.s hp
  exact q p u G1 _ (m1.trans (.ext e)) (k1.ext e) (m1.back hp) upd_same (k1.s.free hp) ho (k1.noOwn hp)

/-! ### names that hold a list -/
theorem ev_varL {i : Nat} {ds : List PyData} (h : Γ[i]? = some (.pr (DL K ds))) : Ev Γ (tVar i) (D K (.list ds)) Γ := ev_dl (ev_var h)

/-! ### built-ins by values -/
theorem ev_cb1 {r : List V → Hp → VK → Prop} (h : Ev Γ ta P1 Γ1) (hr : ∀ x G H, Same G H → P1.p G x → ∀ Q : VK, (∀ v, P.p G v → Q v H) → r [x] H Q) : Ev Γ (tCB r (tCons ta tNil)) P Γ1 := fun σ G H k Q q =>
  h σ G H k _ fun x G1 H1 m1 k1 p1 => hr x G1 H1 k1.s p1 Q fun v p => q v G1 H1 m1 k1 p
theorem ev_cb2 {r : List V → Hp → VK → Prop} (h : Ev Γ ta P1 Γ1) (h2 : Ev Γ1 tb P2 Γ2) (hr : ∀ x y G H, Same G H → P1.p G x → P2.p G y → ∀ Q : VK, (∀ v, P.p G v → Q v H) → r [x, y] H Q) : Ev Γ (tCB r (tCons ta (tCons tb tNil))) P Γ2 := fun σ G H k Q q =>
  h σ G H k _ fun x G1 H1 m1 k1 p1 => h2 σ G1 H1 k1 _ fun y G2 H2 m2 k2 p2 => hr x y G2 H2 k2.s (P1.up m2.g p1) p2 Q fun v p => q v G2 H2 (m1.trans m2) k2 p
theorem ev_lenL {ds : List PyData} (h : Ev Γ ta (D K (.list ds)) Γ1) : Ev Γ (tCB (fun xs H Q => ∃ p ys, xs = [V.ref p] ∧ (SqL K H p ys ∨ SqT K H p ys) ∧ Q (V.int ys.length) H) (tCons ta tNil)) (D K (.int ds.length)) Γ1 :=
  ev_cb1 h fun x G H s p Q q => by
    obtain ⟨a, vs, rfl, h1, h2⟩ := dp_list p
    refine ⟨a, vs, rfl, .inl (s.seq h1), ?_⟩
    rw [dpAll_len h2]
    exact q _ (.int _)
theorem ev_lenT {ds : List PyData} (h : Ev Γ ta (D K (.tuple ds)) Γ1) : Ev Γ (tCB (fun xs H Q => ∃ p ys, xs = [V.ref p] ∧ (SqL K H p ys ∨ SqT K H p ys) ∧ Q (V.int ys.length) H) (tCons ta tNil)) (D K (.int ds.length)) Γ1 :=
  ev_cb1 h fun x G H s p Q q => by
    obtain ⟨a, vs, rfl, h1, h2⟩ := dp_tup p
    refine ⟨a, vs, rfl, .inr (sqT_up s h1), ?_⟩
    rw [dpAll_len h2]
    exact q _ (.int _)
theorem ev_lenO {i : Nat} {a : Addr} {ds : List PyData} (h : Γ[i]? = some (.own a (oL K ds))) : Ev Γ (tCB (fun xs H Q => ∃ p ys, xs = [V.ref p] ∧ (SqL K H p ys ∨ SqT K H p ys) ∧ Q (V.int ys.length) H) (tCons (tVar i) tNil)) (D K (.int ds.length)) Γ := fun σ G H k Q q => by
  obtain ⟨e1, hg, u, hu, vs, rfl, hd⟩ := k.o i a _ h
  refine ⟨.ref a, e1, a, vs, rfl, .inl (.inl (.inl hu)), ?_⟩
  rw [dpAll_len hd]
  exact q _ G H (.refl k.s) k (.int _)
theorem ev_lenS {z : Str} (h : Ev Γ ta (D K (.str z)) Γ1) (hz : z.length ≤ 100000) : Ev Γ (tCB (fun xs H Q => ∃ z, xs = [V.str z] ∧ z.length ≤ sizeLine ∧ Q (V.int z.length) H) (tCons ta tNil)) (D K (.int z.length)) Γ1 :=
  ev_cb1 h fun x G H s p Q q => ⟨z, by rw [dp_str p], sz_of hz, q _ (.int _)⟩
theorem ev_all {bs : List Bool} (h : Ev Γ ta (D K (.list (bs.map .bool))) Γ1) : Ev Γ (tCB (rAll K) (tCons ta tNil)) (D K (.bool (bs.all id))) Γ1 :=
  ev_cb1 h fun x G H s p Q q => by
    obtain ⟨a, vs, rfl, h1, h2⟩ := dp_list p
    exact ⟨a, bs, rfl, by rw [← dpAll_bools h2]; exact s.seq h1, q _ (.bl _)⟩
theorem ev_any {bs : List Bool} (h : Ev Γ ta (D K (.list (bs.map .bool))) Γ1) : Ev Γ (tCB (rAny K) (tCons ta tNil)) (D K (.bool (bs.any id))) Γ1 :=
  ev_cb1 h fun x G H s p Q q => by
    obtain ⟨a, vs, rfl, h1, h2⟩ := dp_list p
    exact ⟨a, bs, rfl, by rw [← dpAll_bools h2]; exact s.seq h1, q _ (.bl _)⟩
theorem ev_minL {ns : List Int} (h : Ev Γ ta (D K (.list (ns.map .int))) Γ1) (h0 : 0 < ns.length) {m : Int} (hm : m ∈ ns) (hl : ∀ y ∈ ns, m ≤ y) : Ev Γ (tCB (rMin K) (tCons ta tNil)) (D K (.int m)) Γ1 :=
  ev_cb1 h fun x G H s p Q q => by
    obtain ⟨a, vs, rfl, h1, h2⟩ := dp_list p
    refine ⟨a, ns, rfl, by rw [← dpAll_ints h2]; exact s.seq h1, h0, fun m' hm' hl' => ?_⟩
    have e : m' = m := Int.le_antisymm (hl' m hm) (hl m' hm')
    subst e
    exact q _ (.int _)
theorem ev_min2 {i j : Int} (h : Ev Γ ta (D K (.int i)) Γ1) (h2 : Ev Γ1 tb (D K (.int j)) Γ2) : Ev Γ (tCB (fun xs H Q => ∃ i j, xs = [V.int i, V.int j] ∧ Q (V.int (if j < i then j else i)) H) (tCons ta (tCons tb tNil))) (D K (.int (if j < i then j else i))) Γ2 :=
  ev_cb2 h h2 fun x y G H s p1 p2 Q q => ⟨i, j, by rw [dp_int p1, dp_int p2], q _ (.int _)⟩
theorem ev_intI {i : Int} (h : Ev Γ ta (D K (.int i)) Γ1) : Ev Γ (tCB (fun xs H Q => (∃ i, xs = [V.int i] ∧ Q (V.int i) H) ∨ ∃ k, xs = [V.bl k] ∧ Q (V.int (if k then 1 else 0)) H) (tCons ta tNil)) (D K (.int i)) Γ1 :=
  ev_cb1 h fun x G H s p Q q => .inl ⟨i, by rw [dp_int p], q _ (.int _)⟩
theorem ev_intB {b : Bool} (h : Ev Γ ta (D K (.bool b)) Γ1) : Ev Γ (tCB (fun xs H Q => (∃ i, xs = [V.int i] ∧ Q (V.int i) H) ∨ ∃ k, xs = [V.bl k] ∧ Q (V.int (if k then 1 else 0)) H) (tCons ta tNil)) (D K (.int (if b then 1 else 0))) Γ1 :=
  ev_cb1 h fun x G H s p Q q => .inr ⟨b, by rw [dp_bool p], q _ (.int _)⟩
/-- tuple(a list), list(a list or tuple) -/
theorem ev_tupleOf {ds : List PyData} (h : Ev Γ ta (D K (.list ds)) Γ1) : Ev Γ (tCB (fun xs H Q => ∃ p ys, xs = [V.ref p] ∧ ((SqL K H p ys ∧ ∀ l, H l = none → Q (.ref l) (upd H l (.tup ys))) ∨ (SqT K H p ys ∧ Q (.ref p) H))) (tCons ta tNil)) (D K (.tuple ds)) Γ1 := fun σ G H k Q q =>
  h σ G H k _ fun x G1 H1 m1 k1 p1 => by
    obtain ⟨a, vs, rfl, h1, h2⟩ := dp_list p1
    refine ⟨a, vs, rfl, .inl ⟨k1.s.seq h1, fun p hp => ?_⟩⟩
    have e : Ext G1 H1 (upd G1 p (.tup vs)) (upd H1 p (.tup vs)) := .new k1.s hp
    exact q _ _ _ (m1.trans (.ext e)) (k1.ext e) (.tup (.inl (.inl upd_same)) (dpAll_up e.g _ _ h2))
/-- tuple(x), x a list of one's own (which may go on changing) -/
theorem ev_tupleOfO {i : Nat} {a : Addr} {ds : List PyData} (h : Γ[i]? = some (.own a (oL K ds))) : Ev Γ (tCB (fun xs H Q => ∃ p ys, xs = [V.ref p] ∧ ((SqL K H p ys ∧ ∀ l, H l = none → Q (.ref l) (upd H l (.tup ys))) ∨ (SqT K H p ys ∧ Q (.ref p) H))) (tCons (tVar i) tNil)) (D K (.tuple ds)) Γ := fun σ G H k Q q => by
  obtain ⟨e1, hg, u, hu, vs, rfl, hd⟩ := k.o i a _ h
  refine ⟨.ref a, e1, a, vs, rfl, .inl ⟨.inl (.inl hu), fun p hp => ?_⟩⟩
  have e : Ext G H (upd G p (.tup vs)) (upd H p (.tup vs)) := .new k.s hp
  exact q _ _ _ (.ext e) (k.ext e) (.tup (.inl (.inl upd_same)) (dpAll_up e.g _ _ hd))
theorem en_listOf {ds : List PyData} (h : Ev Γ ta P1 Γ1) (hp : P1 = D K (.list ds) ∨ P1 = D K (.tuple ds)) : EvN Γ (tCB (fun xs H Q => ∃ p ys, xs = [V.ref p] ∧ (SqL K H p ys ∨ SqT K H p ys) ∧ ∀ l, H l = none → Q (.ref l) (upd H l (.lst ys))) (tCons ta tNil)) (oL K ds) Γ1 := fun σ G H k Q q =>
  h σ G H k _ fun x G1 H1 m1 k1 p1 => by
    rcases hp with rfl | rfl
    · obtain ⟨a, vs, rfl, h1, h2⟩ := dp_list p1
      exact ⟨a, vs, rfl, .inl (k1.s.seq h1), en_of (O := oL K ds) m1 k1 ⟨vs, rfl, h2⟩ q⟩
    · obtain ⟨a, vs, rfl, h1, h2⟩ := dp_tup p1
      exact ⟨a, vs, rfl, .inr (sqT_up k1.s h1), en_of (O := oL K ds) m1 k1 ⟨vs, rfl, h2⟩ q⟩

/-! ### in, not in -/
theorem inV_int {x : Int} : ∀ {ns : List Int}, inV (.int x) (ns.map V.int) = decide (x ∈ ns)
  | [] => rfl
  | n :: ns => by
    have ih := inV_int (x := x) (ns := ns)
    unfold inV at ih ⊢
    rw [List.map_cons, List.any_cons, ih]
    show (n == x || decide (x ∈ ns)) = decide (x ∈ n :: ns)
    by_cases h : n = x
    · subst h; simp
    · have h' : ¬ x = n := fun e => h e.symm
      simp [h, h']
theorem flat_ints (ns : List Int) : (ns.map V.int).all flatV = true := by
  rw [List.all_map]
  exact List.all_eq_true.mpr fun _ _ => rfl
theorem ev_inTI {x : Int} {ns : List Int} (ha : Ev Γ ta (D K (.int x)) Γ1) (hb : Ev Γ1 tb (D K (.tuple (ns.map .int))) Γ2) : Ev Γ (tOp (rIn K false) ta tb) (D K (.bool (decide (x ∈ ns)))) Γ2 :=
  ev_two0 ha hb fun u y G H s p1 p2 Q q => by
    obtain ⟨a, vs, rfl, h1, h2⟩ := dp_tup p2
    rw [dpAll_ints h2] at h1
    rw [dp_int p1]
    refine ⟨a, _, rfl, .inr (sqT_up s h1), rfl, flat_ints ns, ?_⟩
    show Q (.bl (inV (.int x) (ns.map V.int))) H
    rw [inV_int]
    exact q _ (.bl _)
theorem ev_ninTI {x : Int} {ns : List Int} (ha : Ev Γ ta (D K (.int x)) Γ1) (hb : Ev Γ1 tb (D K (.tuple (ns.map .int))) Γ2) : Ev Γ (tOp (rIn K true) ta tb) (D K (.bool (!decide (x ∈ ns)))) Γ2 :=
  ev_two0 ha hb fun u y G H s p1 p2 Q q => by
    obtain ⟨a, vs, rfl, h1, h2⟩ := dp_tup p2
    rw [dpAll_ints h2] at h1
    rw [dp_int p1]
    refine ⟨a, _, rfl, .inr (sqT_up s h1), rfl, flat_ints ns, ?_⟩
    show Q (.bl (!inV (.int x) (ns.map V.int))) H
    rw [inV_int]
    exact q _ (.bl _)
theorem ev_inLI {x : Int} {ns : List Int} (ha : Ev Γ ta (D K (.int x)) Γ1) (hb : Ev Γ1 tb (D K (.list (ns.map .int))) Γ2) : Ev Γ (tOp (rIn K false) ta tb) (D K (.bool (decide (x ∈ ns)))) Γ2 :=
  ev_two0 ha hb fun u y G H s p1 p2 Q q => by
    obtain ⟨a, vs, rfl, h1, h2⟩ := dp_list p2
    rw [dpAll_ints h2] at h1
    rw [dp_int p1]
    refine ⟨a, _, rfl, .inl (s.seq h1), rfl, flat_ints ns, ?_⟩
    show Q (.bl (inV (.int x) (ns.map V.int))) H
    rw [inV_int]
    exact q _ (.bl _)
theorem eqv_str (x y : Str) : eqV (.str x) (.str y) = decide (x = y) := by
  show (x == y) = decide (x = y)
  by_cases h : x = y
  · subst h; simp
  · simp [h]
theorem inV_str {x : Str} : ∀ {ns : List Str}, inV (.str x) (ns.map V.str) = decide (x ∈ ns)
  | [] => rfl
  | n :: ns => by
    have ih := inV_str (x := x) (ns := ns)
    unfold inV at ih ⊢
    rw [List.map_cons, List.any_cons, ih, eqv_str]
    by_cases h : n = x
    · subst h; simp
    · have h' : ¬ x = n := fun e => h e.symm
      simp [h, h']
theorem flat_strs (ns : List Str) : (ns.map V.str).all flatV = true := by
  rw [List.all_map]
  exact List.all_eq_true.mpr fun _ _ => rfl
theorem ev_inLS {x : Str} {ns : List Str} (ha : Ev Γ ta (D K (.str x)) Γ1) (hb : Ev Γ1 tb (D K (.list (ns.map .str))) Γ2) : Ev Γ (tOp (rIn K false) ta tb) (D K (.bool (decide (x ∈ ns)))) Γ2 :=
  ev_two0 ha hb fun u y G H s p1 p2 Q q => by
    obtain ⟨a, vs, rfl, h1, h2⟩ := dp_list p2
    rw [dpAll_strs h2] at h1
    rw [dp_str p1]
    refine ⟨a, _, rfl, .inl (s.seq h1), rfl, flat_strs ns, ?_⟩
    show Q (.bl (inV (.str x) (ns.map V.str))) H
    rw [inV_str]
    exact q _ (.bl _)
theorem ev_inSign {c : Nat} {z : Str} (ha : Ev Γ ta (D K (.str ⟨#[c]⟩)) Γ1) (hb : Ev Γ1 tb (D K (.str z)) Γ2) : Ev Γ (tOp (fun x y H Q => ∃ (c : Nat) (z : Str), x = V.str ⟨#[c]⟩ ∧ y = V.str z ∧ Q (V.bl (decide (c ∈ z.cps.toList))) H) ta tb) (D K (.bool (decide (c ∈ z.cps.toList)))) Γ2 :=
  ev_two0 ha hb fun u y G H s p1 p2 Q q => ⟨c, z, dp_str p1, dp_str p2, q _ (.bl _)⟩
/-- a datum in a list of data -/
theorem ev_inD {ds : List PyData} (ha : Ev Γ ta (D K d) Γ1) (hb : Ev Γ1 tb (D K (.list ds)) Γ2) (h1 : SeqAt.shaped d = true) (h2 : SeqAt.shaped (.list ds) = true) : Ev Γ (tOp (rInD K) ta tb) (D K (.bool (ds.any fun z => PyData.eqv z d))) Γ2 :=
  ev_two0 ha hb fun u y G H s p1 p2 Q q => ⟨d, ds, dp_up s _ _ p1, dp_up s _ _ p2, h1, h2, q _ (.bl _)⟩

/-! ### subscripts, slices -/
theorem atI_dp {G : Hp} {vs : List V} {ds : List PyData} {i : Int} (h : DpAll K G vs ds) (e : atI ds i = some d) : ∃ v, atI vs i = some v ∧ Dp K G v d := by
  unfold atI at e ⊢
  rw [dpAll_len h]
  cases q : ixN ds.length i with
  | none => rw [q] at e; cases e
  | some j =>
    rw [q] at e
    exact dpAll_get h e
theorem ev_ixL {ds : List PyData} {i : Int} (ha : Ev Γ ta (D K (.list ds)) Γ1) (hb : Ev Γ1 tb (D K (.int i)) Γ2) (h : atI ds i = some d) : Ev Γ (tOp (rIxL K) ta tb) (D K d) Γ2 :=
  ev_two0 ha hb fun u y G H s p1 p2 Q q => by
    obtain ⟨a, vs, rfl, h1, h2⟩ := dp_list p1
    obtain ⟨v, e1, e2⟩ := atI_dp h2 h
    exact ⟨a, vs, i, v, rfl, dp_int p2, s.seq h1, e1, q v e2⟩
theorem ev_ixT {ds : List PyData} {i : Int} (ha : Ev Γ ta (D K (.tuple ds)) Γ1) (hb : Ev Γ1 tb (D K (.int i)) Γ2) (h : atI ds i = some d) : Ev Γ (tOp (rIxT K) ta tb) (D K d) Γ2 :=
  ev_two0 ha hb fun u y G H s p1 p2 Q q => by
    obtain ⟨a, vs, rfl, h1, h2⟩ := dp_tup p1
    obtain ⟨v, e1, e2⟩ := atI_dp h2 h
    exact ⟨a, vs, i, v, rfl, dp_int p2, sqT_up s h1, e1, q v e2⟩
theorem ev_ixS {z : Str} {i : Int} {c : Nat} (ha : Ev Γ ta (D K (.str z)) Γ1) (hb : Ev Γ1 tb (D K (.int i)) Γ2) (hz : z.length ≤ 100000) (h : atI z.cps.toList i = some c) : Ev Γ (tOp rIxS ta tb) (D K (.str ⟨#[c]⟩)) Γ2 :=
  ev_two0 ha hb fun u y G H s p1 p2 Q q => ⟨z, i, c, dp_str p1, dp_int p2, sz_of hz, h, q _ (.str _)⟩
/-- x[e], x a list of one's own -/
theorem ev_ixO {i : Nat} {a : Addr} {ds : List PyData} {n : Int} (h0 : Γ[i]? = some (.own a (oL K ds))) (hb : Ev Γ tb (D K (.int n)) Γ1) (h1 : Γ1[i]? = some (.own a (oL K ds))) (h : atI ds n = some d) : Ev Γ (tOp (rIxL K) (tVar i) tb) (D K d) Γ1 := fun σ G H k Q q => by
  obtain ⟨e1, _⟩ := k.o i a _ h0
  refine ⟨.ref a, e1, hb σ G H k _ fun y G1 H1 m1 k1 p1 => ?_⟩
  obtain ⟨_, hg, u, hu, vs, rfl, hd⟩ := k1.o i a _ h1
  obtain ⟨v, z1, z2⟩ := atI_dp hd h
  exact ⟨a, vs, n, v, rfl, dp_int p1, .inl (.inl hu), z1, q v G1 H1 m1 k1 z2⟩
def EvO (Γ : List Sl) (to : TO) (o : Option Int) (Γ' : List Sl) : Prop := ∀ σ G H, Kn Γ σ G H → ∀ Q : Option Int → Hp → Prop, (∀ G' H', Mv Γ G H Γ' G' H' → Kn Γ' σ G' H' → Q o H') → to σ H Q
theorem eo_none : EvO Γ tNoPart none Γ := fun σ G H k Q q => q G H (.refl k.s) k
theorem eo_some {i : Int} (h : Ev Γ te (D K (.int i)) Γ1) : EvO Γ (tPart te) (some i) Γ1 := fun σ G H k Q q => h σ G H k _ fun v G1 H1 m1 k1 p => ⟨i, dp_int p, q G1 H1 m1 k1⟩
def cutD {α : Type} (xs : List α) (lo hi : Option Int) : List α := (xs.drop (HT.sIx xs.length 0 lo)).take (HT.sIx xs.length xs.length hi - HT.sIx xs.length 0 lo)
theorem cut_dp {G : Hp} {vs : List V} {ds : List PyData} (lo hi : Option Int) (h : DpAll K G vs ds) : DpAll K G (cutV vs lo hi) (cutD ds lo hi) := by
  unfold cutV cutD
  rw [dpAll_len h]
  exact dpAll_take _ (dpAll_drop _ h)
variable {tl th : TO} {lo hi : Option Int}
theorem en_slL {ds : List PyData} (h : Ev Γ te (D K (.list ds)) Γ1) (h1 : EvO Γ1 tl lo Γ2) (h2 : EvO Γ2 th hi Γ3) : EvN Γ (tSl (rSlL K) te tl th) (oL K (cutD ds lo hi)) Γ3 := fun σ G H k Q q =>
  h σ G H k _ fun v G1 H1 m1 k1 p => h1 σ G1 H1 k1 _ fun G2 H2 m2 k2 => h2 σ G2 H2 k2 _ fun G3 H3 m3 k3 => by
    obtain ⟨a, vs, rfl, e1, e2⟩ := dp_list (dp_up (m2.g.trans m3.g) _ _ p)
    exact ⟨a, vs, rfl, k3.s.seq e1, en_of (O := oL K (cutD ds lo hi)) ((m1.trans m2).trans m3) k3 ⟨_, rfl, cut_dp lo hi e2⟩ q⟩
theorem cut_whole {α : Type} {xs : List α} (h : HT.sIx xs.length 0 lo = 0 ∧ HT.sIx xs.length xs.length hi = xs.length) : cutD xs lo hi = xs := by
  unfold cutD
  rw [h.1, h.2, List.drop_zero, Nat.sub_zero, List.take_length]
theorem ev_slT {ds : List PyData} (h : Ev Γ te (D K (.tuple ds)) Γ1) (h1 : EvO Γ1 tl lo Γ2) (h2 : EvO Γ2 th hi Γ3) : Ev Γ (tSl (rSlA K) te tl th) (D K (.tuple (cutD ds lo hi))) Γ3 := fun σ G H k Q q =>
  h σ G H k _ fun v G1 H1 m1 k1 p => h1 σ G1 H1 k1 _ fun G2 H2 m2 k2 => h2 σ G2 H2 k2 _ fun G3 H3 m3 k3 => by
    have p3 := dp_up (m2.g.trans m3.g) _ _ p
    obtain ⟨a, vs, rfl, e1, e2⟩ := dp_tup p3
    refine ⟨a, vs, rfl, sqT_up k3.s e1, fun hw => ?_, fun _ b hb => ?_⟩
    · have e : cutD ds lo hi = ds := by
        rw [dpAll_len e2] at hw
        exact cut_whole hw
      exact q _ G3 H3 ((m1.trans m2).trans m3) k3 (by rw [e]; exact p3)
    · have e : Ext G3 H3 (upd G3 b (.tup (cutV vs lo hi))) (upd H3 b (.tup (cutV vs lo hi))) := .new k3.s hb
      exact q _ _ _ (((m1.trans m2).trans m3).trans (.ext e)) (k3.ext e) (.tup (.inl (.inl upd_same)) (dpAll_up e.g _ _ (cut_dp lo hi e2)))
theorem ev_slS {z : Str} (h : Ev Γ te (D K (.str z)) Γ1) (h1 : EvO Γ1 tl lo Γ2) (h2 : EvO Γ2 th hi Γ3) (hz : z.length ≤ 100000) : Ev Γ (tSl rSlS te tl th) (D K (.str (cutS z lo hi))) Γ3 := fun σ G H k Q q =>
  h σ G H k _ fun v G1 H1 m1 k1 p => h1 σ G1 H1 k1 _ fun G2 H2 m2 k2 => h2 σ G2 H2 k2 _ fun G3 H3 m3 k3 => ⟨z, dp_str p, sz_of hz, q _ G3 H3 ((m1.trans m2).trans m3) k3 (.str _)⟩
theorem ev_addS {x y : Str} (ha : Ev Γ ta (D K (.str x)) Γ1) (hb : Ev Γ1 tb (D K (.str y)) Γ2) (hz : x.length + y.length ≤ 100000) : Ev Γ (tOp (fun x y H Q => ∃ i j, x = V.str i ∧ y = V.str j ∧ i.length + j.length ≤ sizeLine ∧ Q (V.str (i ++ j)) H) ta tb) (D K (.str (x ++ y))) Γ2 :=
  ev_two0 ha hb fun u v G H s p1 p2 Q q => ⟨x, y, dp_str p1, dp_str p2, sz_of hz, q _ (.str _)⟩
/-- list + list -/
theorem en_cat {ds es : List PyData} (ha : Ev Γ ta (DL K ds) Γ1) (hb : Ev Γ1 tb (DL K es) Γ2) (hz : ds.length + es.length ≤ 100000) : EvN Γ (tOp rCat ta tb) (oL K (ds ++ es)) Γ2 := fun σ G H k Q q =>
  ha σ G H k _ fun x G1 H1 m1 k1 p1 => hb σ G1 H1 k1 _ fun y G2 H2 m2 k2 p2 => by
    obtain ⟨a, vs, rfl, e1, e2⟩ := (DL K ds).up m2.g p1
    obtain ⟨b, ws, rfl, e3, e4⟩ := p2
    exact ⟨a, b, vs, ws, rfl, rfl, k2.s _ _ e1, k2.s _ _ e3, sz_of (by rw [dpAll_len e2, dpAll_len e4]; exact hz), en_of (O := oL K (ds ++ es)) (m1.trans m2) k2 ⟨_, rfl, dpAll_app e2 e4⟩ q⟩
/-- tuple + tuple -/
theorem ev_catT {ds es : List PyData} (ha : Ev Γ ta (D K (.tuple ds)) Γ1) (hb : Ev Γ1 tb (D K (.tuple es)) Γ2) (hz : ds.length + es.length ≤ 100000) : Ev Γ (tOp (rCatA K) ta tb) (D K (.tuple (ds ++ es))) Γ2 :=
  ev_two ha hb fun u v G H s p1 p2 Q q => by
    obtain ⟨a, vs, rfl, e1, e2⟩ := dp_tup p1
    obtain ⟨b, ws, rfl, e3, e4⟩ := dp_tup p2
    refine ⟨a, b, vs, ws, rfl, rfl, sqT_up s e1, sqT_up s e3, sz_of (by rw [dpAll_len e2, dpAll_len e4]; exact hz), fun h => ?_, fun _ h => ?_, fun _ _ p hp => ?_⟩
    · have e : ds = [] := List.eq_nil_of_length_eq_zero (by rw [← dpAll_len e2, h]; rfl)
      subst e
      exact q _ G H (.refl s) p2
    · have e : es = [] := List.eq_nil_of_length_eq_zero (by rw [← dpAll_len e4, h]; rfl)
      subst e
      exact q _ G H (.refl s) (by rw [List.append_nil]; exact p1)
    · have e : Ext G H (upd G p (.tup (vs ++ ws))) (upd H p (.tup (vs ++ ws))) := .new s hp
      exact q _ _ _ e (.tup (.inl (.inl upd_same)) (dpAll_up e.g _ _ (dpAll_app e2 e4)))

/-! ### a list of one's own, changed -/
theorem ev_pop {i : Nat} {a : Addr} {ds : List PyData} (h : Γ[i]? = some (.own a (oL K ds))) (hd : ds[ds.length - 1]? = some d) : Ev Γ (tBM0 K "list" rPop (tVar i)) (D K d) (Γ.set i (.own a (oL K ds.dropLast))) := fun σ G H k Q q => by
  obtain ⟨e1, _, u, hu, vs, rfl, hv⟩ := k.o i a _ h
  obtain ⟨y, y1, y2⟩ := dpAll_get hv hd
  refine ⟨.ref a, e1, .inl ⟨rfl, _, .inl (.inl hu)⟩, a, vs, y, rfl, rfl, hu, by rw [dpAll_len hv]; exact y1, ?_⟩
  exact q y G _ (.chg k h) (k.chg h ⟨_, rfl, dpAll_init hv⟩) y2
theorem seqIx {n k : Nat} (h : k < n) : seqIndex? (k : Int) n = some k := by
  have e : ixN n (k : Int) = some k := by
    unfold ixN
    rw [if_pos (by omega), if_pos (by omega)]; simp
  exact (ixN_seq e).1
theorem ev_popAt {i k : Nat} {a : Addr} {ds ds0 : List PyData} (h0 : Γ[i]? = some (.own a (oL K ds0))) (hb : Ev Γ tb (D K (.int (k : Nat))) Γ1) (h : Γ1[i]? = some (.own a (oL K ds))) (hd : ds[k]? = some d) (hk : k < 100000) : Ev Γ (tBM K "list" rPopAt (tVar i) (tCons tb tNil)) (D K d) (Γ1.set i (.own a (oL K (ds.eraseIdx k)))) := fun σ G H kn Q q => by
  obtain ⟨e1, _, u, hu, vs, rfl, hv⟩ := kn.o i a _ h0
  refine ⟨.ref a, e1, .inl ⟨rfl, _, .inl (.inl hu)⟩, hb σ G H kn _ fun y G1 H1 m1 k1 p1 => ?_⟩
  obtain ⟨_, _, u, hu, vs, rfl, hv⟩ := k1.o i a _ h
  obtain ⟨z, y1, y2⟩ := dpAll_get hv hd
  have hkl : k < vs.length := (List.getElem?_eq_some_iff.mp y1).1
  refine ⟨a, vs, (k : Int), k, z, rfl, by rw [dp_int p1], hu, by omega, by omega, seqIx hkl, y1, ?_⟩
  exact q z G1 _ (m1.trans (.chg k1 h)) (k1.chg h ⟨_, rfl, dpAll_erase k hv⟩) y2
theorem go_extend {i : Nat} {a : Addr} {ds ds0 es : List PyData} (h0 : Γ[i]? = some (.own a (oL K ds0))) (hb : Ev Γ tb (DL K es) Γ1) (h : Γ1[i]? = some (.own a (oL K ds))) (hz : ds.length + es.length ≤ 100000) : Go Γ (tDrop (tBM K "list" rExtend (tVar i) (tCons tb tNil))) (Γ1.set i (.own a (oL K (ds ++ es)))) := fun σ G H k E q => by
  obtain ⟨e1, _, u, hu, vs, rfl, hv⟩ := k.o i a _ h0
  refine ⟨.ref a, e1, .inl ⟨rfl, _, .inl (.inl hu)⟩, hb σ G H k _ fun y G1 H1 m1 k1 p1 => ?_⟩
  obtain ⟨_, _, u, hu, vs, rfl, hv⟩ := k1.o i a _ h
  obtain ⟨b, ws, rfl, e3, e4⟩ := p1
  exact ⟨a, b, vs, ws, rfl, rfl, hu, k1.s _ _ e3, sz_of (by rw [dpAll_len hv, dpAll_len e4]; exact hz), q σ G1 _ (m1.trans (.chg k1 h)) (k1.chg h ⟨_, rfl, dpAll_app hv e4⟩)⟩
/-- x[j] = e -/
theorem go_setL {i j : Nat} {a : Addr} {ds : List PyData} (hv : Ev Γ te (D K d) Γ1) (h : Γ1[i]? = some (.own a (oL K ds))) (hj : Ev Γ1 tb (D K (.int (j : Nat))) Γ2) (h2 : Γ2[i]? = some (.own a (oL K ds))) (hl : j < ds.length) : Go Γ (tAsg te (gSub (tVar i) tb rSetL)) (Γ2.set i (.own a (oL K (ds.set j d)))) := fun σ G H k E q =>
  hv σ G H k _ fun x G1 H1 m1 k1 p1 => by
    obtain ⟨e1, _⟩ := k1.o i a _ h
    refine ⟨.ref a, e1, hj σ G1 H1 k1 _ fun y G2 H2 m2 k2 p2 => ?_⟩
    obtain ⟨_, _, u, hu, vs, rfl, hd⟩ := k2.o i a _ h2
    have hvl : j < vs.length := by rw [dpAll_len hd]; exact hl
    refine ⟨a, vs, (j : Int), j, rfl, dp_int p2, hu, ?_, ?_⟩
    · unfold ixN
      rw [if_pos (by omega), if_pos (by omega)]; simp
    · exact q σ G2 _ ((m1.trans m2).trans (.chg k2 h2)) (k2.chg h2 ⟨_, rfl, dpAll_set (dp_up m2.g _ _ p1) j hd⟩)

/-! ### two, three names at once -/
theorem go_par {i j : Nat} (ha : Ev Γ ta P1 Γ1) (hb : Ev Γ1 tb P2 Γ2) (hi : i < Γ2.length) (hj : j < Γ2.length) : Go Γ (tPar i j (tCons ta (tCons tb tNil))) ((Γ2.set i (.pr P1)).set j (.pr P2)) := fun σ G H k E q =>
  ha σ G H k _ fun x G1 H1 m1 k1 p1 => hb σ G1 H1 k1 _ fun y G2 H2 m2 k2 p2 => ⟨x, y, rfl, q _ G2 H2 (m1.trans m2).put.put ((k2.put hi (P1.up m2.g p1)).put (by rw [List.length_set]; exact hj) p2)⟩
/-- a, b = e, (new) -/
theorem go_parN {i j : Nat} (ha : Ev Γ ta P1 Γ1) (hb : EvN Γ1 tb O Γ2) (hi : i < Γ2.length) (hj : j < Γ2.length) (hr : ∀ a, Go ((Γ2.set i (.pr P1)).set j (.own a O)) tr Γ') : Go Γ (tSeq (tPar i j (tCons ta (tCons tb tNil))) tr) Γ' := fun σ G H k E q =>
  ha σ G H k _ fun x G1 H1 m1 k1 p1 => hb σ G1 H1 k1 _ fun a u G2 H2 m2 k2 h1 h2 h3 h4 h5 => by
    have ⟨m3, k3⟩ := put_new (Γ1 := Γ2.set i (.pr P1)) (i := j) m2.put (k2.put hi (P1.up m2.g p1)) (by rw [List.length_set]; exact hj) h1 h2 h3 h4 (fun z => h5 (own_set _ z))
    exact ⟨x, .ref a, rfl, hr a _ G2 H2 k3 E fun σ4 G4 H4 m4 k4 => q σ4 G4 H4 ((m1.trans m3).trans m4) k4⟩
theorem rt_parN {i j : Nat} (ha : Ev Γ ta P1 Γ1) (hb : EvN Γ1 tb O Γ2) (hi : i < Γ2.length) (hj : j < Γ2.length) (hr : ∀ a, Rt ((Γ2.set i (.pr P1)).set j (.own a O)) tr P Γ') : Rt Γ (tSeq (tPar i j (tCons ta (tCons tb tNil))) tr) P Γ' := fun σ G H k E q =>
  ha σ G H k _ fun x G1 H1 m1 k1 p1 => hb σ G1 H1 k1 _ fun a u G2 H2 m2 k2 h1 h2 h3 h4 h5 => by
    have ⟨m3, k3⟩ := put_new (Γ1 := Γ2.set i (.pr P1)) (i := j) m2.put (k2.put hi (P1.up m2.g p1)) (by rw [List.length_set]; exact hj) h1 h2 h3 h4 (fun z => h5 (own_set _ z))
    exact ⟨x, .ref a, rfl, hr a _ G2 H2 k3 E fun v σ4 G4 H4 m4 k4 p => q v σ4 G4 H4 ((m1.trans m3).trans m4) k4 p⟩
/-- a, b = (new), e -/
theorem rt_parN1 {i j : Nat} (ha : EvN Γ ta O Γ1) (hb : Ev Γ1 tb P2 Γ1) (hi : i < Γ1.length) (hj : j < Γ1.length) (hij : i ≠ j) (hr : ∀ a, Rt ((Γ1.set j (.pr P2)).set i (.own a O)) tr P Γ') : Rt Γ (tSeq (tPar i j (tCons ta (tCons tb tNil))) tr) P Γ' := fun σ G H k E q =>
  ha σ G H k _ fun a u G1 H1 m1 k1 h1 h2 h3 h4 h5 => hb σ G1 H1 k1 _ fun y G2 H2 m2 k2 p2 => by
    have ga2 : G2 a = none := m2.f a h3 ⟨u, h2, O.nt h4⟩ h5
    have ha2 : H2 a = some u := m2.h a u h2 h5
    have k3 := (k2.put hj p2).putOwn (i := i) (O := O) (a := a) (by rw [List.length_set]; exact hi) ga2 ha2 (O.up m2.g h4) (fun l O1 _ z => by
      rcases get_set _ z with ⟨_, r⟩ | ⟨_, r⟩
      · cases r
      · exact h5 ⟨l, O1, r⟩)
    have m3 : Mv Γ G H ((Γ1.set j (.pr P2)).set i (.own a O)) G2 H2 := ⟨m1.g.trans m2.g, (m1.trans m2).h, (m1.trans m2).n, m2.s, (m1.trans m2).f, fun p ⟨l, O1, z⟩ => by
      rcases get_set _ z with ⟨_, r⟩ | ⟨_, r⟩
      · cases r
        exact .inr h1
      · rcases get_set _ r with ⟨_, r'⟩ | ⟨_, r'⟩
        · cases r'
        · exact m1.o p ⟨l, O1, r'⟩⟩
    refine ⟨.ref a, y, rfl, ?_⟩
    rw [List.set_comm _ _ hij]
    exact hr a _ G2 H2 k3 E fun v σ4 G4 H4 m4 k4 p => q v σ4 G4 H4 (m3.trans m4) k4 p
/-- a, b = (new), (new) -/
theorem put_new2 {σ : L2.St} {G H G1 H1 G2 H2 : Hp} {a b : Addr} {u u' : HO} {i j : Nat} {O' : Ob} (m1 : Mv Γ G H Γ1 G1 H1) (k1 : Kn Γ1 σ G1 H1) (ha : H a = none) (hu : H1 a = some u) (hg : G1 a = none) (ho : O.o G1 u) (hn : ¬ Own Γ1 a)
    (m2 : Mv Γ1 G1 H1 Γ1 G2 H2) (k2 : Kn Γ1 σ G2 H2) (hb : H1 b = none) (hu' : H2 b = some u') (hg' : G2 b = none) (ho' : O'.o G2 u') (hn' : ¬ Own Γ1 b) (hi : i < Γ1.length) (hj : j < Γ1.length) :
    Mv Γ G H ((Γ1.set i (.own a O)).set j (.own b O')) G2 H2 ∧ Kn ((Γ1.set i (.own a O)).set j (.own b O')) ((σ.set i (some (.ref a))).set j (some (.ref b))) G2 H2 := by
  have hab : a ≠ b := fun e => by rw [e, hb] at hu; cases hu
  have ha2 : H2 a = some u := m2.h a u hu hn
  have ga2 : G2 a = none := m2.f a hg ⟨u, hu, O.nt ho⟩ hn
  have k3 : Kn (Γ1.set i (.own a O)) (σ.set i (some (.ref a))) G2 H2 := k2.putOwn hi ga2 ha2 (O.up m2.g ho) fun j O' _ z => hn ⟨j, O', z⟩
  have k4 := k3.putOwn (i := j) (O := O') (a := b) (by rw [List.length_set]; exact hj) hg' hu' ho' (fun l O1 hl z => by
    rcases get_set _ z with ⟨_, r⟩ | ⟨_, r⟩
    · cases r; exact hab rfl
    · exact hn' ⟨l, O1, r⟩)
  refine ⟨⟨m1.g.trans m2.g, (m1.trans m2).h, (m1.trans m2).n, m2.s, (m1.trans m2).f, fun p ⟨l, O1, z⟩ => ?_⟩, k4⟩
  rcases get_set _ z with ⟨_, r⟩ | ⟨_, r⟩
  · cases r
    exact .inr (m1.back hb)
  · rcases get_set _ r with ⟨_, r'⟩ | ⟨_, r'⟩
    · cases r'
      exact .inr ha
    · exact m1.o p ⟨l, O1, r'⟩
theorem go_parNN {i j : Nat} {O' : Ob} (ha : EvN Γ ta O Γ1) (hb : EvN Γ1 tb O' Γ1) (hi : i < Γ1.length) (hj : j < Γ1.length) (hr : ∀ a b, Go ((Γ1.set i (.own a O)).set j (.own b O')) tr Γ') : Go Γ (tSeq (tPar i j (tCons ta (tCons tb tNil))) tr) Γ' := fun σ G H k E q =>
  ha σ G H k _ fun a u G1 H1 m1 k1 h1 h2 h3 h4 h5 => hb σ G1 H1 k1 _ fun b u' G2 H2 m2 k2 g1 g2 g3 g4 g5 => by
    have ⟨m3, k3⟩ := put_new2 (i := i) (j := j) m1 k1 h1 h2 h3 h4 h5 m2 k2 g1 g2 g3 g4 g5 hi hj
    exact ⟨.ref a, .ref b, rfl, hr a b _ G2 H2 k3 E fun σ4 G4 H4 m4 k4 => q σ4 G4 H4 (m3.trans m4) k4⟩
theorem rt_parNN {i j : Nat} {O' : Ob} (ha : EvN Γ ta O Γ1) (hb : EvN Γ1 tb O' Γ1) (hi : i < Γ1.length) (hj : j < Γ1.length) (hr : ∀ a b, Rt ((Γ1.set i (.own a O)).set j (.own b O')) tr P Γ') : Rt Γ (tSeq (tPar i j (tCons ta (tCons tb tNil))) tr) P Γ' := fun σ G H k E q =>
  ha σ G H k _ fun a u G1 H1 m1 k1 h1 h2 h3 h4 h5 => hb σ G1 H1 k1 _ fun b u' G2 H2 m2 k2 g1 g2 g3 g4 g5 => by
    have ⟨m3, k3⟩ := put_new2 (i := i) (j := j) m1 k1 h1 h2 h3 h4 h5 m2 k2 g1 g2 g3 g4 g5 hi hj
    exact ⟨.ref a, .ref b, rfl, hr a b _ G2 H2 k3 E fun v σ4 G4 H4 m4 k4 p => q v σ4 G4 H4 (m3.trans m4) k4 p⟩
/-- a, b, c = e, e', (new) -/
theorem rt_par3N {i j l : Nat} (ha : Ev Γ ta P1 Γ1) (hb : Ev Γ1 tb P2 Γ2) (hc : EvN Γ2 tc O Γ3) (hi : i < Γ3.length) (hj : j < Γ3.length) (hl : l < Γ3.length) (hr : ∀ a, Rt (((Γ3.set i (.pr P1)).set j (.pr P2)).set l (.own a O)) tr P Γ') : Rt Γ (tSeq (tPar3 i j l (tCons ta (tCons tb (tCons tc tNil)))) tr) P Γ' := fun σ G H k E q =>
  ha σ G H k _ fun x G1 H1 m1 k1 p1 => hb σ G1 H1 k1 _ fun y G2 H2 m2 k2 p2 => hc σ G2 H2 k2 _ fun a u G3 H3 m3 k3 h1 h2 h3 h4 h5 => by
    have ⟨m4, k4⟩ := put_new (Γ1 := (Γ3.set i (.pr P1)).set j (.pr P2)) (i := l) m3.put.put ((k3.put hi (P1.up (m2.g.trans m3.g) p1)).put (by rw [List.length_set]; exact hj) (P2.up m3.g p2)) (by rw [List.length_set, List.length_set]; exact hl) h1 h2 h3 h4 (fun z => h5 (own_set _ (own_set _ z)))
    exact ⟨x, y, .ref a, rfl, hr a _ G3 H3 k4 E fun v σ5 G5 H5 m5 k5 p => q v σ5 G5 H5 (((m1.trans m2).trans m4).trans m5) k5 p⟩
end
end WF

/-! ## text L1c -/
namespace WF
open PySem PySem.Spec PyProof.Rows L2
section
variable {K : PySem.W.Frag} {Γ Γ1 Γ2 Γ3 Γ' : List Sl} {te ta tb tc : TE} {tt tu : TT} {P P1 P2 : Pr} {ts tr tz tw : TS} {tas : TA} {Ps Xs Ys : List Pr} {d d1 d2 : PyData} {O : Ob} {wi : TI} {g : TG}

/-! ### what is walked -/
theorem ei_list {ds : List PyData} (h : Ev Γ ta (D K (.list ds)) Γ1) : EvI Γ (iList K ta) (ds.map (D K)) Γ1 := fun σ G H k R q =>
  h σ G H k _ fun x G1 H1 m1 k1 p1 => by
    obtain ⟨a, vs, rfl, h1, h2⟩ := dp_list p1
    refine ⟨a, rfl, ⟨vs, k1.s.seq h1⟩, q _ G1 H1 m1 k1 fun G2 H2 s1 s2 i => ⟨fun X hX => ?_, fun hX => ?_⟩⟩
    · rw [List.getElem?_map] at hX
      cases e : ds[i]? with
      | none => rw [e] at hX; cases hX
      | some d =>
        rw [e] at hX
        cases hX
        obtain ⟨v, e1, e2⟩ := dpAll_get (dpAll_up s1 _ _ h2) e
        refine ⟨⟨vs, v, (s1.trans s2).seq h1, e1⟩, fun x H3 ⟨z1, z2⟩ => ?_⟩
        subst z1
        have := z2 vs ((s1.trans s2).seq h1)
        rw [e1] at this
        cases this
        exact ⟨G2, .refl s2, e2⟩
    · rw [List.getElem?_map] at hX
      have : ds[i]? = none := by
        cases e : ds[i]? with
        | none => rfl
        | some d => rw [e] at hX; cases hX
      exact ⟨vs, (s1.trans s2).seq h1, by rw [dpAll_len h2]; exact List.getElem?_eq_none_iff.mp this⟩
theorem ei_tup {ds : List PyData} (h : Ev Γ ta (D K (.tuple ds)) Γ1) : EvI Γ (iTup K ta) (ds.map (D K)) Γ1 := fun σ G H k R q =>
  h σ G H k _ fun x G1 H1 m1 k1 p1 => by
    obtain ⟨a, vs, rfl, h1, h2⟩ := dp_tup p1
    refine ⟨a, rfl, ⟨vs, sqT_up k1.s h1⟩, q _ G1 H1 m1 k1 fun G2 H2 s1 s2 i => ⟨fun X hX => ?_, fun hX => ?_⟩⟩
    · rw [List.getElem?_map] at hX
      cases e : ds[i]? with
      | none => rw [e] at hX; cases hX
      | some d =>
        rw [e] at hX
        cases hX
        obtain ⟨v, e1, e2⟩ := dpAll_get (dpAll_up s1 _ _ h2) e
        refine ⟨⟨vs, v, sqT_up (s1.trans s2) h1, e1⟩, fun x H3 ⟨z1, z2⟩ => ?_⟩
        subst z1
        have := z2 vs (sqT_up (s1.trans s2) h1)
        rw [e1] at this
        cases this
        exact ⟨G2, .refl s2, e2⟩
    · rw [List.getElem?_map] at hX
      have : ds[i]? = none := by
        cases e : ds[i]? with
        | none => rfl
        | some d => rw [e] at hX; cases hX
      exact ⟨vs, sqT_up (s1.trans s2) h1, by rw [dpAll_len h2]; exact List.getElem?_eq_none_iff.mp this⟩
def rgP (K : PySem.W.Frag) (lo : Int) (n : Nat) : List Pr := (List.range n).map fun i => D K (.int (lo + (i : Nat)))
theorem rgP_get {lo : Int} {n i : Nat} {X : Pr} (h : (rgP K lo n)[i]? = some X) : i < n ∧ X = D K (.int (lo + (i : Nat))) := by
  unfold rgP at h
  rw [List.getElem?_map] at h
  by_cases hi : i < n
  · rw [List.getElem?_range hi] at h
    cases h
    exact ⟨hi, rfl⟩
  · rw [List.getElem?_eq_none (by simpa using hi)] at h
    cases h
theorem rgP_len {lo : Int} {n : Nat} : (rgP K lo n).length = n := by simp [rgP]
theorem itr_ok {lo : Int} {n : Nat} {G : Hp} : ItOk (Itr lo n) (rgP K lo n) G := fun G2 H2 s1 s2 i => by
  refine ⟨fun X hX => ?_, fun hX => ?_⟩
  · obtain ⟨hi, rfl⟩ := rgP_get hX
    refine ⟨hi, fun x H3 ⟨z1, z2⟩ => ?_⟩
    subst z1 z2
    exact ⟨G2, .refl s2, .int _⟩
  · have := List.getElem?_eq_none_iff.mp hX
    rw [rgP_len] at this
    exact this
theorem ei_rng1 {n : Int} (h : Ev Γ ta (D K (.int n)) Γ1) (h1 : -100000 ≤ n ∧ n ≤ 100000) : EvI Γ (iRng1 (tCons ta tNil)) (rgP K 0 n.toNat) Γ1 := fun σ G H k R q =>
  h σ G H k _ fun x G1 H1 m1 k1 p1 => ⟨n, by rw [dp_int p1], by omega, by omega, q _ G1 H1 m1 k1 itr_ok⟩
theorem ei_rng2 {lo n : Int} (h : Ev Γ ta (D K (.int lo)) Γ1) (h' : Ev Γ1 tb (D K (.int n)) Γ2) (h1 : -100000 ≤ lo ∧ lo ≤ 100000 ∧ -100000 ≤ n ∧ n ≤ 100000) : EvI Γ (iRng2 (tCons ta (tCons tb tNil))) (rgP K lo (n - lo).toNat) Γ2 := fun σ G H k R q =>
  h σ G H k _ fun x G1 H1 m1 k1 p1 => h' σ G1 H1 k1 _ fun y G2 H2 m2 k2 p2 => ⟨lo, n, by rw [dp_int p1, dp_int p2], by omega, q _ G2 H2 (m1.trans m2) k2 itr_ok⟩
def sgP (K : PySem.W.Frag) (z : Str) : List Pr := z.cps.toList.map fun c => D K (.str ⟨#[c]⟩)
theorem ei_str {z : Str} (h : Ev Γ ta (D K (.str z)) Γ1) : EvI Γ (iStr ta) (sgP K z) Γ1 := fun σ G H k R q =>
  h σ G H k _ fun x G1 H1 m1 k1 p1 => ⟨z, dp_str p1, q _ G1 H1 m1 k1 fun G2 H2 s1 s2 i => ⟨fun X hX => by
    unfold sgP at hX
    rw [List.getElem?_map] at hX
    cases e : z.cps.toList[i]? with
    | none => rw [e] at hX; cases hX
    | some c =>
      rw [e] at hX
      cases hX
      have hi : i < z.cps.size := by
        have := (List.getElem?_eq_some_iff.mp e).1
        simpa using this
      refine ⟨hi, fun x H3 ⟨z1, c', z2, z3⟩ => ?_⟩
      subst z1 z3
      have e' : z.cps[i]? = some c := by simpa using e
      rw [e'] at z2
      cases z2
      exact ⟨G2, .refl s2, .str _⟩, fun hX => by
    unfold sgP at hX
    have := List.getElem?_eq_none_iff.mp hX
    show z.cps.size ≤ i
    simpa using this⟩⟩
def enP (K : PySem.W.Frag) (ds : List PyData) : List Pr := ds.zipIdx.map fun p => D K (.tuple [.int (p.2 : Nat), p.1])
theorem enP_get {ds : List PyData} {i : Nat} {X : Pr} (h : (enP K ds)[i]? = some X) : ∃ d, ds[i]? = some d ∧ X = D K (.tuple [.int (i : Nat), d]) := by
  unfold enP at h
  rw [List.getElem?_map, List.getElem?_zipIdx] at h
  cases e : ds[i]? with
  | none => rw [e] at h; cases h
  | some d =>
    rw [e] at h
    cases h
    exact ⟨d, rfl, by simp⟩
theorem enP_len {ds : List PyData} : (enP K ds).length = ds.length := by simp [enP]
theorem ei_enum {ds : List PyData} (h : Ev Γ ta (D K (.list ds)) Γ1) : EvI Γ (iEnum K (tCons ta tNil)) (enP K ds) Γ1 := fun σ G H k R q =>
  h σ G H k _ fun x G1 H1 m1 k1 p1 => by
    obtain ⟨a, vs, rfl, h1, h2⟩ := dp_list p1
    refine ⟨a, vs, rfl, k1.s.seq h1, q _ G1 H1 m1 k1 fun G2 H2 s1 s2 i => ⟨fun X hX => ?_, fun hX => ?_⟩⟩
    · obtain ⟨d, e, rfl⟩ := enP_get hX
      obtain ⟨v, e1, e2⟩ := dpAll_get (dpAll_up s1 _ _ h2) e
      refine ⟨⟨vs, v, (s1.trans s2).seq h1, e1⟩, fun y H3 ⟨T, x, z1, z2, z3, z4⟩ => ?_⟩
      subst z1 z3
      have := z4 vs ((s1.trans s2).seq h1)
      rw [e1] at this
      cases this
      have e3 : Ext G2 H2 (upd G2 T (.tup [.int (i : Nat), v])) (upd H2 T (.tup [.int (i : Nat), v])) := .new s2 z2
      exact ⟨_, e3, .tup (.inl (.inl upd_same)) (.cons (.int _) (.cons (dp_up e3.g _ _ e2) .nil))⟩
    · have := List.getElem?_eq_none_iff.mp hX
      rw [enP_len] at this
      exact ⟨vs, (s1.trans s2).seq h1, by rw [dpAll_len h2]; exact this⟩

/-! ### for -/
/-- a turn: the target takes a value of which X is known, the body leads to Γ' -/
def Tg (Γ : List Sl) (g : TG) (X : Pr) (tb : TS) (Γ' : List Sl) : Prop := ∀ σ G H x, Kn Γ σ G H → X.p G x → ∀ E : Ends, (∀ σ' G' H', Mv Γ G H Γ' G' H' → Kn Γ' σ' G' H' → E.nx σ' H') → g x σ H fun σ2 H2 => tb E σ2 H2
theorem tg_name {j : Nat} {X : Pr} (hj : j < Γ.length) (h : Go (Γ.set j (.pr X)) tw Γ') : Tg Γ (gName j) X tw Γ' := fun σ G H x k p E q =>
  h _ G H (k.put hj p) E fun σ' G' H' m k' => q σ' G' H' (m.wk0 own_set) k'
theorem tg_pair {j l : Nat} (hj : j < Γ.length) (hl : l < Γ.length) (h : Go ((Γ.set j (.pr (D K d1))).set l (.pr (D K d2))) tw Γ') : Tg Γ (gTup K 2 (gCons (gName j) (gCons (gName l) gNil))) (D K (.tuple [d1, d2])) tw Γ' := fun σ G H x k p E q => by
  obtain ⟨a, vs, rfl, h1, h2⟩ := dp_tup p
  have hv := dpAll_len h2
  cases h2 with
  | @cons v1 vs1 _ _ p1 h3 =>
    cases h3 with
    | @cons v2 _ _ _ p2 h4 =>
      cases h4
      refine ⟨a, _, rfl, sqT_up k.s h1, rfl, v1, [v2], rfl, v2, [], rfl, rfl, ?_⟩
      exact h _ G H ((k.put hj p1).put (by rw [List.length_set]; exact hl) p2) E fun σ' G' H' m k' => q σ' G' H' (m.wk0 fun p z => own_set p (own_set p z)) k'
theorem go_for {S : Nat → List Sl} (h : EvI Γ wi Xs Γ1) (h0 : Wk Γ1 (S 0)) (hs : ∀ i X, Xs[i]? = some X → Tg (S i) g X tw (S (i + 1))) : Go Γ (tFor wi g tw) (S Xs.length) := fun σ G H k E q =>
  h σ G H k _ fun J G1 H1 m1 k1 ok => by
    refine ⟨fun i m σ' H' => m = Xs.length - i ∧ i ≤ Xs.length ∧ ∃ G', Mv Γ G H (S i) G' H' ∧ Kn (S i) σ' G' H' ∧ Same G1 G', ⟨_, rfl, Nat.zero_le _, G1, m1.wk h0.own, k1.wk h0, Same.refl G1⟩, ?_⟩
    rintro i m σ' H' ⟨rfl, hi, G', m', k', s'⟩
    obtain ⟨go, stop⟩ := ok G' H' s' k'.s i
    by_cases hlt : i < Xs.length
    · obtain ⟨g1, g2⟩ := go Xs[i] (by simp [hlt])
      refine .inr ⟨g1, fun σ2 H2 => ∃ G2, Mv Γ G H (S (i + 1)) G2 H2 ∧ Kn (S (i + 1)) σ2 G2 H2 ∧ Same G1 G2, fun σ2 H2 ⟨G2, z1, z2, z3⟩ => ⟨_, by omega, rfl, hlt, G2, z1, z2, z3⟩, fun x H3 y => ?_⟩
      obtain ⟨G3, e3, p3⟩ := g2 x H3 y
      exact hs i Xs[i] (by simp [hlt]) σ' G3 H3 x (k'.ext e3) p3 { E with nx := _, ct := _, bk := E.nx } fun σ4 G4 H4 m4 k4 => ⟨G4, (m'.trans (.ext e3)).trans m4, k4, (s'.trans e3.g).trans m4.g⟩
    · have e : i = Xs.length := by omega
      subst e
      exact .inl ⟨stop (by simp), q σ' G' H' m' k'⟩
theorem go_while {S : Nat → List Sl} {n : Nat} (h0 : Wk Γ (S 0)) (ht : ∀ i, i < n → Et (S i) tt true (S i)) (hb : ∀ i, i < n → Go (S i) tw (S (i + 1))) (he : Et (S n) tt false (S n)) : Go Γ (tWhile tt tw) (S n) := fun σ G H k E q => by
  refine ⟨fun m σ' H' => ∃ i, m = n - i ∧ i ≤ n ∧ ∃ G', Mv Γ G H (S i) G' H' ∧ Kn (S i) σ' G' H', ⟨_, 0, rfl, Nat.zero_le _, G, (Mv.refl k.s).wk h0.own, k.wk h0⟩, ?_⟩
  rintro m σ' H' ⟨i, rfl, hi, G', m', k'⟩
  by_cases hlt : i < n
  · refine ht i hlt σ' G' H' k' _ fun G2 H2 m2 k2 => ?_
    rw [if_pos rfl]
    refine ⟨fun σ3 H3 => ∃ G3, Mv Γ G H (S (i + 1)) G3 H3 ∧ Kn (S (i + 1)) σ3 G3 H3, fun σ3 H3 ⟨G3, z1, z2⟩ => ⟨n - (i + 1), by omega, i + 1, rfl, hlt, G3, z1, z2⟩, ?_⟩
    exact hb i hlt σ' G2 H2 k2 { E with nx := _, ct := _, bk := E.nx } fun σ4 G4 H4 m4 k4 => ⟨G4, (m'.trans m2).trans m4, k4⟩
  · have e : i = n := by omega
    subst e
    refine he σ' G' H' k' _ fun G2 H2 m2 k2 => ?_
    rw [if_neg Bool.false_ne_true]
    exact q σ' G2 H2 (m'.trans m2) k2

/-! ### comprehensions -/
def wipeG (Γ : List Sl) : List Nat → List Sl
  | [] => Γ
  | v :: vs => (wipeG Γ vs).set v .no
theorem wipeG_len : ∀ vs : List Nat, (wipeG Γ vs).length = Γ.length
  | [] => rfl
  | v :: vs => by
    show ((wipeG Γ vs).set v .no).length = _
    rw [List.length_set, wipeG_len vs]
theorem wipeG_get {i : Nat} {s : Sl} (hs : s ≠ .no) : ∀ {vs : List Nat}, (wipeG Γ vs)[i]? = some s → i ∉ vs ∧ Γ[i]? = some s
  | [], h => ⟨by simp, h⟩
  | v :: vs, h => by
    have h' : ((wipeG Γ vs).set v .no)[i]? = some s := h
    rcases get_set _ h' with ⟨_, r⟩ | ⟨n, r⟩
    · exact absurd r hs
    · obtain ⟨h1, h2⟩ := wipeG_get hs r
      exact ⟨by simp only [List.mem_cons, not_or]; exact ⟨n, h1⟩, h2⟩
theorem wipe_get {σ : L2.St} {i : Nat} : ∀ {vs : List Nat}, i ∉ vs → (wipe σ vs)[i]? = σ[i]?
  | [], _ => rfl
  | v :: vs, h => by
    simp only [List.mem_cons, not_or] at h
    show ((wipe σ vs).set v none)[i]? = σ[i]?
    rw [List.getElem?_set_ne (Ne.symm h.1)]
    exact wipe_get h.2
theorem Kn.wipe {σ : L2.St} {G H : Hp} (k : Kn Γ σ G H) (vs : List Nat) : Kn (wipeG Γ vs) (wipe σ vs) G H where
  l := by rw [wipeG_len, wipe_length]; exact k.l
  s := k.s
  p := fun i P h => by
    obtain ⟨h1, h2⟩ := wipeG_get (by exact nofun) h
    rw [wipe_get h1]
    exact k.p i P h2
  o := fun i a O h => by
    obtain ⟨h1, h2⟩ := wipeG_get (by exact nofun) h
    rw [wipe_get h1]
    exact k.o i a O h2
  d := fun i j a O O' h h' => k.d i j a O O' (wipeG_get (by exact nofun) h).2 (wipeG_get (by exact nofun) h').2
theorem wipe_set {σ : L2.St} {j : Nat} {o : Option V} : ∀ {vs : List Nat}, j ∈ vs → wipe (σ.set j o) vs = wipe σ vs
  | v :: vs, h => by
    show (wipe (σ.set j o) vs).set v none = (wipe σ vs).set v none
    by_cases hj : j ∈ vs
    · rw [wipe_set hj]
    · have e : v = j := by
        rcases List.mem_cons.mp h with h | h
        · exact h.symm
        · exact absurd h hj
      subst e
      have q : wipe (σ.set v o) vs = (wipe σ vs).set v o := wipe_set_out hj
      rw [q, List.set_set]
where
  wipe_set_out {σ : L2.St} {j : Nat} {o : Option V} : ∀ {vs : List Nat}, j ∉ vs → wipe (σ.set j o) vs = (wipe σ vs).set j o
    | [], _ => rfl
    | v :: vs, h => by
      simp only [List.mem_cons, not_or] at h
      show (wipe (σ.set j o) vs).set v none = ((wipe σ vs).set v none).set j o
      rw [wipe_set_out h.2, List.set_comm _ _ (Ne.symm h.1)]
theorem Kn.unset {σ : L2.St} {G H : Hp} {j : Nat} {o : Option V} (k : Kn Γ (σ.set j o) G H) : Kn (Γ.set j .no) σ G H := by
  have sg : ∀ {i : Nat}, i ≠ j → (σ.set j o)[i]? = σ[i]? := fun h => List.getElem?_set_ne (Ne.symm h)
  refine ⟨by rw [List.length_set]; exact Nat.le_trans k.l (by rw [List.length_set]; exact Nat.le_refl _), k.s, fun i P h => ?_, fun i a O h => ?_, fun i i' a O O' h h' => ?_⟩
  · rcases get_set _ h with ⟨_, r⟩ | ⟨n, r⟩
    · cases r
    · rw [← sg n]
      exact k.p i P r
  · rcases get_set _ h with ⟨_, r⟩ | ⟨n, r⟩
    · cases r
    · rw [← sg n]
      exact k.o i a O r
  · rcases get_set _ h with ⟨_, r⟩ | ⟨n, r⟩
    · cases r
    · rcases get_set _ h' with ⟨_, r'⟩ | ⟨n', r'⟩
      · cases r'
      · exact k.d i i' a O O' r r'
/-- a comprehension's turn: it gives r, or nothing -/
def Cg (K : PySem.W.Frag) (vs : List Nat) (Γ : List Sl) (g : TG) (X : Pr) (tt : TT) (te : TE) (r : Option PyData) (Γ' : List Sl) : Prop := ∀ σ G H x, Kn Γ σ G H → X.p G x → wipe σ vs = σ →
  ∀ (QY : V → Hp → Prop) (QN : Hp → Prop), (∀ d, r = some d → ∀ v G' H', Mv Γ G H Γ' G' H' → Kn Γ' σ G' H' → Dp K G' v d → QY v H') → (r = none → ∀ G' H', Mv Γ G H Γ' G' H' → Kn Γ' σ G' H' → QN H') →
    g x σ H fun σ2 H2 => wipe σ2 vs = σ ∧ tt σ2 H2 fun b H3 => if b = true then te σ2 H3 QY else QN H3
theorem wipe_wipe {σ : L2.St} : ∀ (vs ws : List Nat), (∀ v ∈ vs, v ∈ ws) → wipe (wipe σ vs) ws = wipe σ ws
  | [], _, _ => rfl
  | v :: vs, ws, h => by
    show wipe ((wipe σ vs).set v none) ws = _
    rw [wipe_set (h v (List.mem_cons_self ..))]
    exact wipe_wipe vs ws fun u hu => h u (List.mem_cons_of_mem _ hu)
theorem wipe_self {σ : L2.St} (vs : List Nat) : wipe (wipe σ vs) vs = wipe σ vs := wipe_wipe vs vs fun _ h => h
theorem cg_name {vs : List Nat} {j : Nat} {X : Pr} {b : Bool} {d : PyData} (hj : j ∈ vs) (hl : j < Γ.length) (ht : Et (Γ.set j (.pr X)) tt b Γ1) (he : b = true → Ev Γ1 te (D K d) Γ2) (e1 : b = false → Γ1.set j .no = Γ') (e2 : b = true → Γ2.set j .no = Γ') : Cg K vs Γ (gName j) X tt te (if b then some d else none) Γ' := fun σ G H x k p w QY QN qy qn => by
  refine ⟨by rw [wipe_set hj]; exact w, ht _ G H (k.put hl p) _ fun G1 H1 m1 k1 => ?_⟩
  cases b with
  | true =>
    rw [if_pos rfl]
    refine he rfl _ G1 H1 k1 _ fun v G2 H2 m2 k2 p2 => ?_
    rw [← e2 rfl] at qy
    exact qy d rfl v G2 H2 (((m1.trans m2).wk0 own_set).wk own_setNo) k2.unset p2
  | false =>
    rw [if_neg Bool.false_ne_true]
    rw [← e1 rfl] at qn
    exact qn rfl G1 H1 ((m1.wk0 own_set).wk own_setNo) k1.unset
theorem cg_pair {vs : List Nat} {j l : Nat} {b : Bool} {d : PyData} (hj : j ∈ vs) (hl : j < Γ.length) (hj' : l ∈ vs) (hl' : l < Γ.length) (ht : Et ((Γ.set j (.pr (D K d1))).set l (.pr (D K d2))) tt b Γ1)
    (he : b = true → Ev Γ1 te (D K d) Γ2) (e1 : b = false → (Γ1.set l .no).set j .no = Γ') (e2 : b = true → (Γ2.set l .no).set j .no = Γ') : Cg K vs Γ (gTup K 2 (gCons (gName j) (gCons (gName l) gNil))) (D K (.tuple [d1, d2])) tt te (if b then some d else none) Γ' := fun σ G H x k p w QY QN qy qn => by
  obtain ⟨a, xs, rfl, h1, h2⟩ := dp_tup p
  cases h2 with
  | @cons v1 vs1 _ _ p1 h3 =>
    cases h3 with
    | @cons v2 _ _ _ p2 h4 =>
      cases h4
      refine ⟨a, _, rfl, sqT_up k.s h1, rfl, v1, [v2], rfl, v2, [], rfl, rfl, by rw [wipe_set hj', wipe_set hj]; exact w, ?_⟩
      refine ht _ G H ((k.put hl p1).put (by rw [List.length_set]; exact hl') p2) _ fun G1 H1 m1 k1 => ?_
      cases b with
      | true =>
        rw [if_pos rfl]
        refine he rfl _ G1 H1 k1 _ fun v G2 H2 m2 k2 p2 => ?_
        rw [← e2 rfl] at qy
        exact qy d rfl v G2 H2 (((m1.trans m2).wk0 fun p z => own_set p (own_set p z)).wk fun p z => own_setNo p (own_setNo p z)) k2.unset.unset p2
      | false =>
        rw [if_neg Bool.false_ne_true]
        rw [← e1 rfl] at qn
        exact qn rfl G1 H1 ((m1.wk0 fun p z => own_set p (own_set p z)).wk fun p z => own_setNo p (own_setNo p z)) k1.unset.unset
def nOwn (Γ : List Sl) (vs : List Nat) : Bool := vs.all fun v => match Γ[v]? with | some (.own _ _) => false | _ => true
theorem nOwn_at {vs : List Nat} (h : nOwn Γ vs = true) {v : Nat} (hv : v ∈ vs) (a : Addr) (O : Ob) : Γ[v]? ≠ some (.own a O) := fun e => by
  have := List.all_eq_true.mp h v hv
  rw [e] at this
  cases this
theorem wipeG_out {i : Nat} : ∀ {vs : List Nat}, i ∉ vs → (wipeG Γ vs)[i]? = Γ[i]?
  | [], _ => rfl
  | v :: vs, h => by
    simp only [List.mem_cons, not_or] at h
    show ((wipeG Γ vs).set v .no)[i]? = Γ[i]?
    rw [List.getElem?_set_ne (Ne.symm h.1)]
    exact wipeG_out h.2
theorem own_wipe {vs : List Nat} (p : Addr) (h : Own (wipeG Γ vs) p) : Own Γ p := let ⟨i, O, e⟩ := h; ⟨i, O, (wipeG_get (by exact nofun) e).2⟩
theorem own_unwipe {vs : List Nat} (hn : nOwn Γ vs = true) (p : Addr) (h : Own Γ p) : Own (wipeG Γ vs) p := by
  obtain ⟨i, O, e⟩ := h
  have hi : i ∉ vs := fun z => nOwn_at hn z p O e
  exact ⟨i, O, by rw [wipeG_out hi]; exact e⟩
theorem nOwn_same {vs : List Nat} (hn : nOwn Γ vs = true) (h : ∀ v ∈ vs, Γ1[v]? = Γ[v]?) : nOwn Γ1 vs = true := List.all_eq_true.mpr fun v hv => by
  rw [h v hv]
  exact List.all_eq_true.mp hn v hv
/-- what a block leaves, seen from outside -/
theorem kn_unwipe {σ : L2.St} {G H G1 H1 : Hp} {vs : List Nat} (k0 : Kn Γ1 σ G1 H1) (s : Same G1 G) (hl : Γ.length = Γ1.length) (hc : ∀ v ∈ vs, Γ[v]? = Γ1[v]?) (hn : nOwn Γ1 vs = true) (k : Kn (wipeG Γ vs) (wipe σ vs) G H) : Kn Γ σ G H := by
  have hn' := nOwn_same hn hc
  refine ⟨by rw [hl]; exact k0.l, k.s, fun i P h => ?_, fun i a O h => ?_, fun i j a O O' h h' => ?_⟩
  · by_cases hi : i ∈ vs
    · rw [hc i hi] at h
      obtain ⟨v, h1, h2⟩ := k0.p i P h
      exact ⟨v, h1, P.up s h2⟩
    · rw [← wipe_get hi]
      exact k.p i P (by rw [wipeG_out hi]; exact h)
  · have hi : i ∉ vs := fun z => nOwn_at hn' z a O h
    rw [← wipe_get hi]
    exact k.o i a O (by rw [wipeG_out hi]; exact h)
  · have hi : i ∉ vs := fun z => nOwn_at hn' z a O h
    have hj : j ∉ vs := fun z => nOwn_at hn' z a O' h'
    exact k.d i j a O O' (by rw [wipeG_out hi]; exact h) (by rw [wipeG_out hj]; exact h')
theorem fm_succ {F : Nat → Option PyData} {n : Nat} : (List.range (n + 1)).filterMap F = (List.range n).filterMap F ++ (match F n with | some d => [d] | none => []) := by
  rw [List.range_succ, List.filterMap_append]
  congr 1
  rw [List.filterMap_cons]
  cases F n <;> rfl
theorem fm_len (F : Nat → Option PyData) (n : Nat) : ((List.range n).filterMap F).length ≤ n := by
  have := List.length_filterMap_le F (List.range n)
  simpa using this
theorem Mv.upd {G H G' H' : Hp} {p : Addr} {o : HO} (m : Mv Γ G H Γ' G' H') (h : H p = none) (g : G' p = none) : Mv Γ G H Γ' G' (upd H' p o) where
  g := m.g
  h := fun q u e n => by rw [upd_ne (ne_of_none e h)]; exact m.h q u e n
  n := fun q e => by
    by_cases z : q = p
    · rw [z, upd_same]; exact nofun
    · rw [upd_ne z]; exact m.n q e
  s := same_mut m.s g
  f := m.f
  o := m.o
theorem Kn.upd {σ : L2.St} {G H : Hp} {p : Addr} {o : HO} (k : Kn Γ σ G H) (g : G p = none) (n : ¬ Own Γ p) : Kn Γ σ G (upd H p o) :=
  ⟨k.l, same_mut k.s g, k.p, fun i a O h => let ⟨h1, h2, u, h3, h4⟩ := k.o i a O h; ⟨h1, h2, u, by rw [upd_ne (fun e => n ⟨i, O, by rw [← e]; exact h⟩)]; exact h3, h4⟩, k.d⟩
/-- [te for g in wi if tt]; S i: what is known at turn i -/
theorem en_lcS {S : Nat → List Sl} {F : Nat → Option PyData} {vs : List Nat} (h : EvI Γ wi Xs (S 0)) (hl : ∀ i, (S i).length = (S 0).length) (hc : ∀ i, ∀ v ∈ vs, (S i)[v]? = (S 0)[v]?) (hn : nOwn (S 0) vs = true) (hz : Xs.length ≤ 100000)
    (hs : ∀ i X, Xs[i]? = some X → Cg K vs (wipeG (S i) vs) g X tt te (F i) (wipeG (S (i + 1)) vs)) : EvN Γ (tLc wi g tt te vs) (oL K ((List.range Xs.length).filterMap F)) (S Xs.length) := fun σ G H k Q q =>
  h σ G H k _ fun J G1 H1 m1 k1 ok => fun Dl hD => by
    have gD : G1 Dl = none := k1.s.free hD
    have e0 : Ext G1 H1 G1 (upd H1 Dl (.lst [])) := .mut k1.s hD
    refine ⟨fun i m H' => m = Xs.length - i ∧ i ≤ Xs.length ∧ ∃ G' xs, Mv (S 0) G1 H1 (S i) G' H' ∧ Kn (S i) σ G' H' ∧ G' Dl = none ∧ ¬ Own (S i) Dl ∧ H' Dl = some (.lst xs) ∧ DpAll K G' xs ((List.range i).filterMap F),
      ⟨_, rfl, Nat.zero_le _, G1, [], .ext e0, k1.ext e0, gD, k1.noOwn hD, upd_same, .nil⟩, ?_⟩
    rintro i m H' ⟨rfl, hi, G', xs, m', k', gD', nD', hD', dp⟩
    obtain ⟨go, stop⟩ := ok G' H' m'.g k'.s i
    by_cases hlt : i < Xs.length
    · obtain ⟨g1, g2⟩ := go Xs[i] (by simp [hlt])
      refine .inr ⟨g1, fun H2 => ∃ G2 xs2, Mv (S 0) G1 H1 (S (i + 1)) G2 H2 ∧ Kn (S (i + 1)) σ G2 H2 ∧ G2 Dl = none ∧ ¬ Own (S (i + 1)) Dl ∧ H2 Dl = some (.lst xs2) ∧ DpAll K G2 xs2 ((List.range (i + 1)).filterMap F), fun H2 ⟨G2, xs2, z⟩ => ⟨_, by omega, rfl, hlt, G2, xs2, z⟩, fun x H3 y => ?_⟩
      obtain ⟨G3, e3, p3⟩ := g2 x H3 y
      have k3 : Kn (wipeG (S i) vs) (L2.wipe σ vs) G3 H3 := (k'.ext e3).wipe vs
      have hD3 : H3 Dl = some (.lst xs) := e3.h _ _ hD'
      have gD3 : G3 Dl = none := e3.f Dl gD' ⟨_, hD', fun _ e => nomatch e⟩
      have nD3 : ¬ Own (wipeG (S i) vs) Dl := fun z => nD' (own_wipe _ z)
      have key : ∀ G4 H4, Mv (wipeG (S i) vs) G3 H3 (wipeG (S (i + 1)) vs) G4 H4 → Kn (wipeG (S (i + 1)) vs) (L2.wipe σ vs) G4 H4 → Mv (S 0) G1 H1 (S (i + 1)) G4 H4 ∧ Kn (S (i + 1)) σ G4 H4 ∧ G4 Dl = none ∧ ¬ Own (S (i + 1)) Dl ∧ H4 Dl = some (.lst xs) ∧ DpAll K G4 xs ((List.range i).filterMap F) := fun G4 H4 m4 k4 => by
        have m4' : Mv (S i) G3 H3 (S (i + 1)) G4 H4 := (m4.wk0 (own_wipe (vs := vs))).wk (own_unwipe (nOwn_same hn (hc (i + 1))))
        have mm := (m'.trans (.ext e3)).trans m4'
        refine ⟨mm, kn_unwipe k1 mm.g (hl (i + 1)) (hc (i + 1)) hn k4, m4.f Dl gD3 ⟨_, hD3, fun _ e => nomatch e⟩ nD3, fun z => ?_, m4.h _ _ hD3 nD3, dpAll_up (e3.g.trans m4.g) _ _ dp⟩
        rcases m4.o Dl (own_unwipe (nOwn_same hn (hc (i + 1))) Dl z) with w | w
        · exact nD3 w
        · rw [hD3] at w; cases w
      refine (hs i Xs[i] (by simp [hlt]) (L2.wipe σ vs) G3 H3 x k3 p3 (wipe_self vs) (fun y H4 => ∃ acc, H4 Dl = some (.lst acc) ∧ acc.length < sizeLine ∧ _) _ (fun d hd v G4 H4 m4 k4 p4 => ?_) (fun hd G4 H4 m4 k4 => ?_))
      · obtain ⟨z1, z2, z3, z4, z5, z6⟩ := key G4 H4 m4 k4
        have hxs : xs.length ≤ i := by rw [dpAll_len dp]; exact fm_len F i
        refine ⟨xs, z5, sz_lt (by omega), G4, xs ++ [v], z1.upd hD z3, z2.upd z3 z4, z3, z4, upd_same, ?_⟩
        rw [fm_succ, hd]
        exact dpAll_app z6 (dpAll_one p4)
      · obtain ⟨z1, z2, z3, z4, z5, z6⟩ := key G4 H4 m4 k4
        refine ⟨G4, xs, z1, z2, z3, z4, z5, ?_⟩
        rw [fm_succ, hd]
        show DpAll K G4 xs ((List.range i).filterMap F ++ [])
        rw [List.append_nil]
        exact z6
    · have e : i = Xs.length := by omega
      subst e
      exact .inl ⟨stop (by simp), q Dl (.lst xs) G' H' (m1.trans m') k' (m1.back hD) hD' gD' ⟨xs, rfl, dp⟩ nD'⟩
/-- .. where one's own things stay as they are, over mapped items -/
theorem en_lc {α : Type} {xs : List α} {A : α → Pr} {F : α → Option PyData} {vs : List Nat} (h : EvI Γ wi Xs Γ1) (hX : Xs = xs.map A) (hn : nOwn Γ1 vs = true) (hz : xs.length ≤ 100000)
    (hs : ∀ x, x ∈ xs → Cg K vs (wipeG Γ1 vs) g (A x) tt te (F x) (wipeG Γ1 vs)) : EvN Γ (tLc wi g tt te vs) (oL K (xs.filterMap F)) Γ1 := by
  subst hX
  have e : (List.range (xs.map A).length).filterMap (fun i => (xs[i]?).bind F) = xs.filterMap F := by
    rw [List.length_map]
    clear hz hs h
    induction xs with
    | nil => rfl
    | cons x xs ih =>
      rw [List.length_cons, List.range_succ_eq_map, List.filterMap_cons, List.filterMap_map]
      have e2 : (List.range xs.length).filterMap ((fun i => ((x :: xs)[i]?).bind F) ∘ Nat.succ) = xs.filterMap F := by
        rw [← ih]
        congr 1
      rw [e2, List.filterMap_cons]
      rfl
  rw [← e]
  refine en_lcS (S := fun _ => Γ1) h (fun _ => rfl) (fun _ _ _ => rfl) hn (by rw [List.length_map]; exact hz) fun i X hX => ?_
  rw [List.getElem?_map] at hX
  cases q : xs[i]? with
  | none => rw [q] at hX; cases hX
  | some x =>
    rw [q] at hX
    cases hX
    exact hs x (List.mem_of_getElem? q)
end
end WF

/-! ## text L1d -/
namespace WF
open PySem PySem.Spec PyProof.Rows L2
/-! ### a def by its body -/
theorem kn_start {Ps : List Pr} {vs : List V} {G H : Hp} {N : List Str} {n : Nat} (s : Same G H) (e : Each Ps G vs) (hN : N.length = Ps.length + n) : Kn (Ps.map Sl.pr ++ List.replicate n .no) (L2.start N vs) G H := by
  have hl := e.len
  have hst : L2.start N vs = vs.map some ++ List.replicate n none := by
    unfold L2.start
    rw [hl, hN, Nat.add_sub_cancel_left]
  rw [hst]
  have gΓ : ∀ {i : Nat} {u : Sl}, (Ps.map Sl.pr ++ List.replicate n .no)[i]? = some u → u = .no ∨ ∃ P, u = .pr P ∧ Ps[i]? = some P := fun {i u} h => by
    by_cases hi : i < Ps.length
    · rw [List.getElem?_append_left (by rw [List.length_map]; exact hi), List.getElem?_map, List.getElem?_eq_getElem hi] at h
      cases h
      exact .inr ⟨_, rfl, by simp [hi]⟩
    · rw [List.getElem?_append_right (by rw [List.length_map]; omega)] at h
      exact .inl (List.eq_of_mem_replicate (List.mem_of_getElem? h))
  refine ⟨by simp [hl], s, fun i P h => ?_, fun i a O h => ?_, fun i j a O O' h _ => ?_⟩
  · rcases gΓ h with z | ⟨P', z, w⟩
    · cases z
    · cases z
      obtain ⟨v, e1, e2⟩ := e.get w
      refine ⟨v, ?_, e2⟩
      have hv := (List.getElem?_eq_some_iff.mp e1).1
      rw [List.getElem?_append_left (by rw [List.length_map]; exact hv), List.getElem?_map, e1]
      rfl
  · rcases gΓ h with z | ⟨P', z, w⟩ <;> cases z
  · rcases gΓ h with z | ⟨P', z, w⟩ <;> cases z
theorem noOwn_start {Ps : List Pr} {n : Nat} (p : Addr) : ¬ Own (Ps.map Sl.pr ++ List.replicate n .no) p := fun ⟨i, O, h⟩ => by
  by_cases hi : i < Ps.length
  · rw [List.getElem?_append_left (by rw [List.length_map]; exact hi), List.getElem?_map, List.getElem?_eq_getElem hi] at h
    cases h
  · rw [List.getElem?_append_right (by rw [List.length_map]; omega)] at h
    cases List.eq_of_mem_replicate (List.mem_of_getElem? h)
section
variable {P : Program} {w : World} {K : PySem.W.Frag} {mg : Str → Option Value} {base : Heap} {α : Type} {args : α → List Pr} {pre : α → Prop} {r : α → Pr} {x : Str} {st : Stmt} {f : Addr} {fd : FuncData} {N ps : List Str} {k : Nat}
theorem spF_len {n : Nat} (hn : ∀ a, (args a).length = n) (vs : List V) (H : Hp) (Q : VK) (E : XK) (h : spF args pre r vs H Q E) : vs.length = n := by
  obtain ⟨G, a, s, e, _⟩ := h
  rw [e.len, hn]
theorem cal_F {n : Nat} (F : C8.Def K mg x st f fd) (b : Binds K fd ps []) (S : FnScope N ps (C8.fnScope st)) (hn : ∀ a, (args a).length = ps.length) (hN : N.length = ps.length + n)
    (hb : ∀ (cdv : Value) (A : Around) (outer : List Env) (s : Shared) (H : Hp) (E : XK), Room k (A.deeper (envOfC x (C8.fnScope st) s.heap.objs.size f cdv)) →
      ∃ t, PSs (cxOf CX0 P w K mg base N x (C8.fnScope st) f cdv A outer s H E).nox (C8.fnBody st) t ∧ ∀ a, pre a → Rt ((args a).map Sl.pr ++ List.replicate n .no) t (r a) []) : C8.Cal P w K mg base (k + 1) x (spF args pre r) [] := by
  refine C8.cal0 F b .nil S (spF_len hn) fun cdv A outer s H vs Q E hr h => ?_
  obtain ⟨t, h1, h2⟩ := hb cdv A outer s H E hr
  refine ⟨t, h1, ?_⟩
  obtain ⟨G, a, sm, e, hp, q⟩ := h
  exact h2 a hp (L2.start N vs) G H (kn_start sm e (by rw [hN, hn])) { nx := fun _ H' => Q .non H', rt := Q } fun v σ' G' H' m _ p => q v G' H' (m.toExt noOwn_start) p
/-- .. that falls through -/
theorem cal_G {n : Nat} {Γ' : α → List Sl} (F : C8.Def K mg x st f fd) (b : Binds K fd ps []) (S : FnScope N ps (C8.fnScope st)) (hn : ∀ a, (args a).length = ps.length) (hN : N.length = ps.length + n)
    (hb : ∀ (cdv : Value) (A : Around) (outer : List Env) (s : Shared) (H : Hp) (E : XK), Room k (A.deeper (envOfC x (C8.fnScope st) s.heap.objs.size f cdv)) →
      ∃ t, PSs (cxOf CX0 P w K mg base N x (C8.fnScope st) f cdv A outer s H E).nox (C8.fnBody st) t ∧ ∀ a, pre a → Go ((args a).map Sl.pr ++ List.replicate n .no) t (Γ' a)) : C8.Cal P w K mg base (k + 1) x (spF args pre fun _ => D K .none) [] := by
  refine C8.cal0 F b .nil S (spF_len hn) fun cdv A outer s H vs Q E hr h => ?_
  obtain ⟨t, h1, h2⟩ := hb cdv A outer s H E hr
  refine ⟨t, h1, ?_⟩
  obtain ⟨G, a, sm, e, hp, q⟩ := h
  exact h2 a hp (L2.start N vs) G H (kn_start sm e (by rw [hN, hn])) { nx := fun _ H' => Q .non H', rt := Q } fun σ' G' H' m _ => q .non G' H' (m.toExt noOwn_start) .non
end
end WF

/-! ## text L1e -/
namespace WF
open PySem PySem.Spec PyProof.Rows L2
/-! ### the layer's rules with the written part named -/
section
variable {X : Cx} (K : PySem.W.Frag) (hK : X.K = K := by rfl)
include hK
theorem oIn : OpR X (compareOp .In) (rIn K false) := hK ▸ op_in_seq
theorem oNin : OpR X (compareOp .NotIn) (rIn K true) := hK ▸ op_notIn_seq
theorem oEqD (hu : X.A.units + 64 < cLine) : OpR X (compareOp .Eq) (rEqD K) := hK ▸ op_eqD hu
theorem oNeD (hu : X.A.units + 64 < cLine) : OpR X (compareOp .NotEq) (rNeD K) := hK ▸ op_neD hu
theorem oInD (hu : X.A.units + 65 < cLine) : OpR X (compareOp .In) (rInD K) := hK ▸ op_inD hu
theorem oCatT : OpR X (binaryOp .Add) (rCatA K) := hK ▸ op_catA
theorem ixL : IxR X (rIxL K) := hK ▸ ix_list
theorem ixT : IxR X (rIxT K) := hK ▸ ix_tup
theorem slL : SlR X (rSlL K) := hK ▸ sl_list
theorem slT : SlR X (rSlA K) := hK ▸ sl_tupA
theorem cAll (hc : X.calm = true) : CallR X (.builtin "all") (rAll K) := hK ▸ cr_all hc
theorem cAny (hc : X.calm = true) : CallR X (.builtin "any") (rAny K) := hK ▸ cr_any hc
theorem cMinL (hc : X.calm = true) : CallR X (.builtin "min") (rMin K) := hK ▸ cr_min hc
theorem cLen : CallR X (.builtin "len") (fun xs H Q => ∃ p ys, xs = [V.ref p] ∧ (SqL K H p ys ∨ SqT K H p ys) ∧ Q (V.int ys.length) H) := hK ▸ call_len_seq
theorem cTup : CallR X (.type "tuple") (fun xs H Q => ∃ p ys, xs = [V.ref p] ∧ ((SqL K H p ys ∧ ∀ l, H l = none → Q (.ref l) (upd H l (.tup ys))) ∨ (SqT K H p ys ∧ Q (.ref p) H))) := hK ▸ call_tuple_of
theorem cList : CallR X (.type "list") (fun xs H Q => ∃ p ys, xs = [V.ref p] ∧ (SqL K H p ys ∨ SqT K H p ys) ∧ ∀ l, H l = none → Q (.ref l) (upd H l (.lst ys))) := hK ▸ call_list_of
theorem cIsi : CallR X (.builtin "isinstance") (rIsi K) := hK ▸ call_isi
theorem cIsiT : CallR X (.builtin "isinstance") (rIsiT K) := hK ▸ call_isiT
theorem piL {tg l : Expr} {tl : TE} (hl : PE X l tl) : PI X tg l (iList K tl) := hK ▸ pi_list hl
theorem piT {tg l : Expr} {tl : TE} (hl : PE X l tl) : PI X tg l (iTup K tl) := hK ▸ pi_tup hl
theorem piE {e : Expr} {ta : TA} {p pos tpos : Pos} {elts : List Expr} {kk : Nat} (hg : Gl X "enumerate") (hm : X.mg "enumerate" = none) (ha : PA X [e] ta) (hs : starEach [e] X.env = [(false, eval e X.env)] := by rfl) :
    PI X (.Tuple elts kk tpos) (.Call (.Name "enumerate" p) [e] [] pos) (iEnum K ta) := hK ▸ pi_enum hg hm ha hs
theorem pgTup {es : List Expr} {k : Nat} {t : TGs} {n : Nat} {pos : Pos} (hc : X.calm = true) (h : PGs X es t) (hn : (assignEach es X.env).length = n := by rfl) (hst : (assignEach es X.env).findIdx? (·.1) = none := by rfl) : PG X (.Tuple es k pos) (gTup K n t) := hK ▸ pg_tup hc h hn hst
theorem peFld {e : Expr} {f : Str} {pos : Pos} {ta : TE} (he : PE X e ta) (hb : attributeBase e f X.env (eval e X.env) = eval e X.env) : PE X (.Attribute e f pos) (tFld K ta f) := hK ▸ pe_fld he hb
theorem peBm0 {T : String} {name : Str} {id : String} {r : V → List V → Hp → VK → Prop} {o : Expr} {to : TE} {apos cpos : Pos} (pa : PlainAttrs T) (slot : Slot T name id) (hty : typeOf (.builtin id) = pure (.type "method_descriptor")) (hm : MtR X id r) (ho : PE X o to)
    (hbase : attributeBase o name X.env (eval o X.env) = eval o X.env := by rfl) (hline : (apos.endLine == cpos.line) = true := by rfl) : PE X (.Call (.Attribute o name apos) [] [] cpos) (tBM0 K T r to) := hK ▸ pe_bm0 pa slot hty hm ho hbase hline
theorem peBm {T : String} {name : Str} {id : String} {r : V → List V → Hp → VK → Prop} {o e : Expr} {es : List Expr} {to : TE} {t : TA} {apos cpos : Pos} (pa : PlainAttrs T) (slot : Slot T name id) (hty : typeOf (.builtin id) = pure (.type "method_descriptor")) (hm : MtR X id r) (ho : PE X o to) (ha : PA X (e :: es) t)
    (hbase : attributeBase o name X.env (eval o X.env) = eval o X.env := by rfl)
    (hfew : ((backTo cpos (starEach (e :: es) X.env)).all (fun x => !x.1) && (backToKw cpos (keywordEach [] X.env)).all (fun x => x.1.isSome)
      && decide ((e :: es).length + ([] : List Keyword).length + (if ([] : List Keyword).isEmpty then 0 else 1) < 30)) = true := by rfl)
    (hline : (apos.endLine == cpos.line) = true := by rfl) (hs : starEach (e :: es) X.env = (false, eval e X.env) :: starEach es X.env := by rfl) (hplain : (backTo cpos (starEach es X.env)).any (·.1) = false := by rfl) :
    PE X (.Call (.Attribute o name apos) (e :: es) [] cpos) (tBM K T r to t) := hK ▸ pe_bm pa slot hty hm ho ha hbase hfew hline hs hplain
theorem paStar {e : Expr} {es : List Expr} {te : TE} {t : TA} {p : Pos} (he : PE X e te) (hr : PA X es t) (hs : starEach (.Starred e p :: es) X.env = (true, eval e X.env) :: starEach es X.env := by rfl) : PA X (.Starred e p :: es) (StX.tStar K te t) := hK ▸ StX.pa_star he hr hs
theorem peJoin {o e : Expr} {to te : TE} {apos pos : Pos} (ho : PE X o to) (he : PE X e te) (hs : starEach [e] X.env = [(false, eval e X.env)] := by rfl) (hbase : attributeBase o "join" X.env (eval o X.env) = eval o X.env := by rfl) (hline : (apos.endLine == pos.line) = true := by rfl) :
    PE X (.Call (.Attribute o "join" apos) [e] [] pos) (tM1 (fun x xs H Q => ∃ a p, ∃ ys : List Str, x = .str a ∧ xs = [.ref p] ∧ (SqL K H p (ys.map V.str) ∨ SqT K H p (ys.map V.str)) ∧
      (ys.map (·.length)).sum + ys.length * a.length ≤ 16777216 ∧ Q (.str (Txt.join a ys)) H) to te) := hK ▸ pe_join ho he hs hbase hline
theorem psFld {o value : Expr} {f : Str} {pos pos' : Pos} {ta tv : TE} (ha : PE X o ta) (hv : PE X value tv) (hs : swapsWith value (some (.Attribute o f pos')) pos.line X.env = pure false) : PS X (.Assign [.Attribute o f pos'] value pos) (sFld K ta tv f) := hK ▸ ps_fld ha hv hs
end
end WF

/-! ## text L2t -/
namespace WF
open PySem PySem.Spec PyProof.Rows L2
/-! ### the text, and what stands behind the top -/
def topS (i : Nat) : Stmt := PySem.Challenge.pw_wovenframes_k37_whole_boards_by_lots.main.body.getD i (.Pass ⟨0, 0, 0, 0⟩)
structure Tx (K : PySem.W.Frag) (mg : Str → Option Value) (C : Addr) : Prop where
  b_len : mg "len" = none
  b_all : mg "all" = none
  b_any : mg "any" = none
  b_min : mg "min" = none
  b_int : mg "int" = none
  b_str : mg "str" = none
  b_bool : mg "bool" = none
  b_list : mg "list" = none
  b_tuple : mg "tuple" = none
  b_sorted : mg "sorted" = none
  b_range : mg "range" = none
  b_enumerate : mg "enumerate" = none
  b_isinstance : mg "isinstance" = none
  g_SIGNS : ∃ u, mg "SIGNS" = some u ∧ RelV (.str ".<>x") u
  g_MOST_LINES : ∃ u, mg "MOST_LINES" = some u ∧ RelV (.int 5) u
  g_Board : ∃ u, mg "Board" = some u ∧ RelV (.ref C) u
  cl : Cls K C
  nT : NoAttr K C "table"
  isC : C8.InsC K C

/-! ### how data stand for lots, steps, cells -/
abbrev eN (n : Nat) : PyData := .int (n : Int)
abbrev eL (l : List Nat) : PyData := .tuple (l.map eN)
abbrev eNs (l : List Nat) : PyData := .list (l.map eN)
abbrev eLs (ls : List (List Nat)) : PyData := .list (ls.map eL)
abbrev eP (p : Nat × Nat) : PyData := .tuple [eN p.1, eN p.2]
abbrev ePs (ps : List (Nat × Nat)) : PyData := .list (ps.map eP)
abbrev eNss (l : List (List Nat)) : PyData := .list (l.map eNs)
abbrev eS (z : List Nat) : PyData := .str ⟨z.toArray⟩
abbrev eC (cs : List (List Nat)) : PyData := .tuple (cs.map eS)
theorem map_eN (l : List Nat) : l.map eN = (l.map fun n : Nat => (n : Int)).map PyData.int := by rw [List.map_map]; rfl
theorem mem_cast {x : Nat} {l : List Nat} : decide ((x : Int) ∈ l.map fun n : Nat => (n : Int)) = decide (x ∈ l) := by
  apply decide_eq_decide.mpr
  constructor
  · intro h
    obtain ⟨y, h1, h2⟩ := List.mem_map.mp h
    have : y = x := by omega
    rw [← this]; exact h1
  · intro h
    exact List.mem_map.mpr ⟨x, h, rfl⟩
section
variable {K : PySem.W.Frag} {Γ Γ1 Γ2 Γ' : List Sl} {ta tb : TE}
theorem ev_inT {x : Nat} {l : List Nat} (ha : Ev Γ ta (D K (eN x)) Γ1) (hb : Ev Γ1 tb (D K (eL l)) Γ2) : Ev Γ (tOp (rIn K false) ta tb) (D K (.bool (decide (x ∈ l)))) Γ2 := by
  rw [← mem_cast]
  exact ev_inTI ha (hb.is (by rw [← map_eN]))
theorem ev_ninT {x : Nat} {l : List Nat} (ha : Ev Γ ta (D K (eN x)) Γ1) (hb : Ev Γ1 tb (D K (eL l)) Γ2) : Ev Γ (tOp (rIn K true) ta tb) (D K (.bool (!decide (x ∈ l)))) Γ2 := by
  rw [← mem_cast]
  exact ev_ninTI ha (hb.is (by rw [← map_eN]))
theorem ev_inL {x : Nat} {l : List Nat} (ha : Ev Γ ta (D K (eN x)) Γ1) (hb : Ev Γ1 tb (D K (eNs l)) Γ2) : Ev Γ (tOp (rIn K false) ta tb) (D K (.bool (decide (x ∈ l)))) Γ2 := by
  rw [← mem_cast]
  exact ev_inLI ha (hb.is (by rw [← map_eN]))
/-- all tests give: the list of the answers -/
theorem filterMap_some {α β : Type} (f : α → β) (xs : List α) : xs.filterMap (fun x => if true then some (f x) else none) = xs.map f := by
  induction xs with
  | nil => rfl
  | cons x xs ih =>
    rw [List.filterMap_cons, ih]
    rfl
theorem filterMap_if {α β : Type} (p : α → Bool) (f : α → β) (xs : List α) : xs.filterMap (fun x => if p x then some (f x) else none) = (xs.filter p).map f := by
  induction xs with
  | nil => rfl
  | cons x xs ih =>
    rw [List.filterMap_cons, List.filter_cons, ih]
    cases p x <;> rfl
end
theorem lt_some {Γ : List Sl} {i : Nat} (h : (Γ[i]?).isSome = true) : i < Γ.length := by
  obtain ⟨s, e⟩ := Option.isSome_iff_exists.mp h
  exact (List.getElem?_eq_some_iff.mp e).1
theorem et_yes {Γ : List Sl} : Et Γ tYes true Γ := fun σ G H k Q q => q G H (.refl k.s) k
end WF

/-! ## text L3 -/
set_option maxHeartbeats 1000000
namespace PySem
open Builtin Builtin.Str
/-- enumerate(v), v by its iterator -/
theorem meets_enumerate_newB1 {v : Value} {o : Obj} {H : Heap → Prop} (B : Begins v o H) :
    Meets (Builtin.«enumerate.__new__» ⟨[.type "enumerate", v], []⟩) (fun _ R s => H s.heap ∧
      R (.ok (.ret (.ref (s.heap.push o).objs.size))) { s with heap := (s.heap.push o).push { cls := .type "enumerate", data := .fields #[.none, .bool false, .ref s.heap.objs.size, rawInt 0, .none, .none] } }) :=
  .of_wp fun prog w A R s h => by
    obtain ⟨hp, g, d, tk, os⟩ := s; obtain ⟨h1, h⟩ := h
    have hsub := sub_enumerate
    have q1 : ∀ {A' : Around} {E : Value → Shared → Prop} {Q : Value → Shared → Prop}, Q (.ref hp.objs.size) ⟨hp.push o, g, d, tk, os⟩ → wpAny (model prog w) A' (pyIter v) Q E ⟨hp, g, d, tk, os⟩ :=
      fun q => B.iter prog w _ _ ⟨hp, g, d, tk, os⟩ _ h1 q
    wp_walk using q1
    refine wpAny_stack_any fun st => wpAny_pure ?_
    split
    · rename_i c _ _ _ _ _
      cases (c == Value.type "enumerate")
      · wp_walk using q1
        exact ⟨_, rfl, h⟩
      · wp_walk using q1
        exact ⟨_, rfl, h⟩
    · wp_walk using q1
      exact ⟨_, rfl, h⟩
theorem enum_begins1 {prog : Program} {w : World} {A : Around} {E : Value → Shared → Prop} {s : Shared} {v : Value} {o : Obj} {H : Heap → Prop} {Q : Value → Shared → Prop} (B : Begins v o H) (h1 : H s.heap)
    (h : ∀ h', IsEnum h' (s.heap.objs.size + 1) s.heap.objs.size 0 .none → h'.get? s.heap.objs.size = some o → h'.objs.size = s.heap.objs.size + 2 →
      (∀ b o, s.heap.get? b = some o → h'.get? b = some o) → Q (.ref (s.heap.objs.size + 1)) { s with heap := h' }) :
    wpAny (model prog w) A (call (.type "enumerate") [v]) Q E s := by
  refine callType_new F.called_enumerate (by decide) (F.typeCall_enumerate_1 _) (F.newCall_enumerate_1 _) (fun obj => F.args_object_init_2 obj _) F.entry_enumerate_new
    (meets_enumerate_newB1 B) ⟨h1, ?_⟩
  have hz : (s.heap.push o).objs.size = s.heap.objs.size + 1 := Heap.size_push ..
  show _ ∧ _
  rw [hz]
  have he : IsEnum ((s.heap.push o).push { cls := .type "enumerate", data := .fields #[.none, .bool false, .ref s.heap.objs.size, rawInt 0, .none, .none] }) (s.heap.objs.size + 1) s.heap.objs.size 0 .none := by
    have := Heap.get?_push_size (s.heap.push o) (o := { cls := .type "enumerate", data := .fields #[.none, .bool false, .ref s.heap.objs.size, rawInt 0, .none, .none] }) rfl
    rw [hz] at this; exact this
  refine ⟨⟨_, he, rfl⟩, h _ he (Heap.get?_push_of_some _ (Heap.get?_push_size _ B.free)) (by rw [Heap.size_push, hz]) fun b o x => Heap.get?_push_of_some _ (Heap.get?_push_of_some _ x)⟩
end PySem
namespace WF
open PySem PySem.Spec PyProof.Rows L2
/-! ### enumerate of a tuple, of a text -/
def Itet (K : PySem.W.Frag) (a : Addr) : It :=
  ⟨fun i H => ∃ (xs : List V) (x : V), SqT K H a xs ∧ xs[i]? = some x, fun i H v H' => ∃ T x, v = .ref T ∧ H T = none ∧ H' = upd H T (.tup [.int (i : Nat), x]) ∧ ∀ xs, SqT K H a xs → xs[i]? = some x, fun i H => ∃ xs : List V, SqT K H a xs ∧ xs.length ≤ i⟩
def Ites (z : Str) : It :=
  ⟨fun i _ => i < z.cps.size, fun i H v H' => ∃ T c, z.cps[i]? = some c ∧ v = .ref T ∧ H T = none ∧ H' = upd H T (.tup [.int (i : Nat), .str ⟨#[c]⟩]), fun i _ => z.cps.size ≤ i⟩
theorem turn_enumT {P : Program} {w : World} {K : PySem.W.Frag} {elts : List Expr} {kk : Nat} {tpos : Pos} (a e it : Addr) :
    Turn P w K (.Tuple elts kk tpos) (Itet K a) [e, it] e (fun i h => (∃ old, IsEnum h e it ((i : Nat) : Int) old) ∧ h.IsTupleIter it a i ∧ e ≠ it) where
  mem := by simp
  obj := fun i h st b hb => by
    obtain ⟨⟨old, he⟩, ⟨o, ho, hc, hd⟩, _⟩ := st
    have e' : b = e ∨ b = it := by simpa using hb
    rcases e' with z | z
    · rw [z]; exact ⟨_, he, fun v q => nomatch q⟩
    · rw [z]; exact ⟨o, ho, fun v q => by rw [hd] at q; cases q⟩
  keep := fun i h h' st k => let ⟨⟨old, he⟩, hi, hne⟩ := st; ⟨⟨old, k e (by simp) _ he⟩, hi.at fun o q => k it (by simp) o q, hne⟩
  item := by
    intro X hP hw hK hc i pins s σ H E I hf st hg
    subst hP hw hK
    obtain ⟨⟨old, he⟩, hit, hne⟩ := st
    obtain ⟨xs, x, hq, hx⟩ := hg
    obtain ⟨its, rv, p, hz⟩ := I.tuple hq
    obtain ⟨u, hu, ru⟩ := rv.get hx
    have hel : e < s.heap.objs.size := Heap.lt_size he
    have hil : it < s.heap.objs.size := by obtain ⟨_, q, _⟩ := hit; exact Heap.lt_size q
    have hai : a ≠ it := fun z => by
      obtain ⟨o1, q1, q2, _⟩ := p
      obtain ⟨o2, q3, q4, _⟩ := hit
      rw [z, q3] at q1
      cases q1
      rw [q4] at q2
      injection q2 with q2
      exact absurd q2 (by decide)
    have hae : e ∉ [it, a] := fun z => by
      rcases List.mem_cons.mp z with z | z
      · exact hne z
      · obtain ⟨o1, q1, q2, _⟩ := p
        rw [← List.mem_singleton.mp z, he] at q1
        cases q1
        injection q2 with q2
        exact absurd q2 (by decide)
    have hD := Draws.tuple (prog := X.prog) (w := X.w) (A := X.A.in1) (I.ok.hd hc) it a hai its.toArray
    refine wpAny_pyNext_enum_itemD hD he ⟨hit, p⟩ (by simpa using (List.getElem?_eq_some_iff.mp hu).1) hne hae fun y h' tk hP ho hs' hT hsz hk => ?_
    have ey : y = u := by
      have q : its.toArray[i]? = some y := hP
      have q2 : its[i]? = some y := by simpa using q
      rw [hu] at q2
      exact (Option.some.inj q2).symm
    subst ey
    obtain ⟨hit', _⟩ := hs'
    refine ⟨_, rfl, wpAny_letOwnedTupleGo_enum (s := { s with heap := h', toks := tk + 1 }) ho fun h'' he' sb => ?_⟩
    have hT2 : h''.get? s.heap.objs.size = some { cls := .type "tuple", data := .seq #[.int i tk, y] } := (sb.2 _ (Nat.ne_of_gt hel)).trans hT
    have new : ObjOk X.prog X.w (upd H s.heap.objs.size (.tup [.int (i : Nat), x])) h'' s.heap.objs.size (.tup [.int (i : Nat), x]) :=
      ⟨by show 2 ≤ sizeLine; decide, [.int i tk, y], .cons ⟨_, rfl⟩ (.cons ru .nil), ⟨_, hT2, rfl, _, rfl⟩⟩
    have I1 : Inv X pins σ (upd H s.heap.objs.size (.tup [.int (i : Nat), x])) { s with heap := h'', toks := tk + 1 } :=
      I.turnedNew (ch := [e, it]) (fun b ob hb q => (sb.2 b (fun z => hb (by simp [z]))).trans (hk b ob (fun z => hb (by simp [z])) (fun z => hb (by simp [z])) q)) hf (Nat.le_refl _) new
    refine ⟨.ref s.heap.objs.size, _, I1, rfl, ⟨_, x, rfl, I.hok.fresh (Nat.le_refl _), rfl, fun ys hy => by rw [I.tuple_inj hy hq]; exact hx⟩, ⟨⟨y, ?_⟩, hit'.at fun o q => (sb.2 it (Ne.symm hne)).trans q, hne⟩, fun b hb => ?_⟩
    · have e1 : ((i + 1 : Nat) : Int) = (i : Int) + 1 := by omega
      rw [e1]; exact he'
    · have hb' : b < s.heap.objs.size := by
        have e' : b = e ∨ b = it := by simpa using hb
        rcases e' with z | z
        · rw [z]; exact hel
        · rw [z]; exact hil
      rw [upd_ne (Nat.ne_of_lt hb')]
      exact (hf b hb).1
  done := by
    intro X hP hw hK hc i pins s σ H E I hf st hg
    subst hP hw hK
    obtain ⟨⟨old, he⟩, hit, hne⟩ := st
    obtain ⟨xs, hq, hx⟩ := hg
    obtain ⟨its, rv, p, hz⟩ := I.tuple hq
    obtain ⟨f0, f1, f2, f3, f4, f5⟩ := hf it (by simp)
    have hl := rv.length
    have hai : a ≠ it := fun z => by
      obtain ⟨o1, q1, q2, _⟩ := p
      obtain ⟨o2, q3, q4, _⟩ := hit
      rw [z, q3] at q1
      cases q1
      rw [q4] at q2
      injection q2 with q2
      exact absurd q2 (by decide)
    have hend : ∀ {Q : Option Value → Shared → Prop}, (∀ h', Heap.ExtBut it s.heap h' → Q none { s with heap := h' }) → wpAny (model X.prog X.w) X.A (pyNext (.ref e)) Q E s := fun {Q} hQ => by
      have hT : s.TypeIs (.ref e) "enumerate" := ⟨_, he, rfl⟩
      unfold pyNext
      refine wpAny_bind (wpAny_attempt (wpAny_callSpecial?_slot (name := Str.ofString "__next__") hT F.slot_enumerate_next
        (wpAny_call_entry F.slot_enumerate_next hT F.entry_enumerate_next ?_ (F.args_enumerate_next_1 _))))
      show wpAny _ _ (field (.ref e) 2 >>= _) _ _ _
      refine wpAny_bind (wpAny_field he rfl (x := .ref it) rfl ?_)
      refine wpAny_bind (wpAny_nextOf_tuple_end (I.ok.hd hc) hit p (by simp; omega) fun h' x he' hx' => ?_)
      obtain ⟨o, ho, hc'⟩ := hx'
      refine wpAny_bind (wpAny_isInstance (T := "StopIteration") (b := true) ⟨o, ho, hc'⟩ isSubtype_stop ?_)
      exact wpAny_pure (hQ _ he')
    exact hend fun h' eb => ⟨rfl, I.turned (t' := s.toks) (fun b o hb q => eb b o hb q) f0 f1 f3 f4 f5⟩
  self := fun A i s Q E st h => let ⟨⟨_, he⟩, _⟩ := st; wpAny_pyIter_enum he h
theorem turn_enumS {P : Program} {w : World} {K : PySem.W.Frag} {elts : List Expr} {kk : Nat} {tpos : Pos} (z : Str) (t : Tok) (e it : Addr) :
    Turn P w K (.Tuple elts kk tpos) (Ites z) [e, it] e (fun i h => (∃ old, IsEnum h e it ((i : Nat) : Int) old) ∧ h.IsStrIter it (strIterType z) z t i ∧ e ≠ it) where
  mem := by simp
  obj := fun i h st b hb => by
    obtain ⟨⟨old, he⟩, ⟨o, ho, hc, hd⟩, _⟩ := st
    have e' : b = e ∨ b = it := by simpa using hb
    rcases e' with z | z
    · rw [z]; exact ⟨_, he, fun v q => nomatch q⟩
    · rw [z]; exact ⟨o, ho, fun v q => by rw [hd] at q; cases q⟩
  keep := fun i h h' st k => let ⟨⟨old, he⟩, ⟨o, ho, hc, hd⟩, hne⟩ := st; ⟨⟨old, k e (by simp) _ he⟩, ⟨o, k it (by simp) _ ho, hc, hd⟩, hne⟩
  item := by
    intro X hP hw hK hc i pins s σ H E I hf st hg
    subst hP hw hK
    obtain ⟨⟨old, he⟩, hit, hne⟩ := st
    have hg : i < z.cps.size := hg
    have hel : e < s.heap.objs.size := Heap.lt_size he
    have hil : it < s.heap.objs.size := by obtain ⟨_, q, _⟩ := hit; exact Heap.lt_size q
    have hD := Draws.text (prog := X.prog) (w := X.w) (A := X.A.in1) (I.ok.hd hc) it z t
    refine wpAny_pyNext_enum_itemD hD he hit hg hne (by simpa using hne) fun y h' tk hP ho hit' hT hsz hk => ?_
    obtain ⟨c, u, hcz, rfl⟩ := hP
    refine ⟨_, rfl, wpAny_letOwnedTupleGo_enum (s := { s with heap := h', toks := tk + 1 }) ho fun h'' he' sb => ?_⟩
    have hT2 : h''.get? s.heap.objs.size = some { cls := .type "tuple", data := .seq #[.int i tk, .str ⟨#[c]⟩ u] } := (sb.2 _ (Nat.ne_of_gt hel)).trans hT
    have new : ObjOk X.prog X.w (upd H s.heap.objs.size (.tup [.int (i : Nat), .str ⟨#[c]⟩])) h'' s.heap.objs.size (.tup [.int (i : Nat), .str ⟨#[c]⟩]) :=
      ⟨by show 2 ≤ sizeLine; decide, [.int i tk, .str ⟨#[c]⟩ u], .cons ⟨_, rfl⟩ (.cons ⟨_, rfl⟩ .nil), ⟨_, hT2, rfl, _, rfl⟩⟩
    have I1 : Inv X pins σ (upd H s.heap.objs.size (.tup [.int (i : Nat), .str ⟨#[c]⟩])) { s with heap := h'', toks := tk + 1 } :=
      I.turnedNew (ch := [e, it]) (fun b ob hb q => (sb.2 b (fun z => hb (by simp [z]))).trans (hk b ob (fun z => hb (by simp [z])) (fun z => hb (by simp [z])) q)) hf (Nat.le_refl _) new
    refine ⟨.ref s.heap.objs.size, _, I1, rfl, ⟨_, c, hcz, rfl, I.hok.fresh (Nat.le_refl _), rfl⟩, ⟨⟨.str ⟨#[c]⟩ u, ?_⟩, ?_, hne⟩, fun b hb => ?_⟩
    · have e1 : ((i + 1 : Nat) : Int) = (i : Int) + 1 := by omega
      rw [e1]; exact he'
    · obtain ⟨o, q1, q2, q3⟩ := hit'
      exact ⟨o, (sb.2 it (Ne.symm hne)).trans q1, q2, q3⟩
    · have hb' : b < s.heap.objs.size := by
        have e' : b = e ∨ b = it := by simpa using hb
        rcases e' with z | z
        · rw [z]; exact hel
        · rw [z]; exact hil
      rw [upd_ne (Nat.ne_of_lt hb')]
      exact (hf b hb).1
  done := by
    intro X hP hw hK hc i pins s σ H E I hf st hg
    subst hP hw hK
    obtain ⟨⟨old, he⟩, hit, hne⟩ := st
    have hg : z.cps.size ≤ i := hg
    obtain ⟨f0, f1, f2, f3, f4, f5⟩ := hf it (by simp)
    have hz : z.cps[i]? = none := by simpa using hg
    have hend : ∀ {Q : Option Value → Shared → Prop}, (∀ h', Heap.ExtBut it s.heap h' → Q none { s with heap := h' }) → wpAny (model X.prog X.w) X.A (pyNext (.ref e)) Q E s := fun {Q} hQ => by
      have hT : s.TypeIs (.ref e) "enumerate" := ⟨_, he, rfl⟩
      unfold pyNext
      refine wpAny_bind (wpAny_attempt (wpAny_callSpecial?_slot (name := Str.ofString "__next__") hT F.slot_enumerate_next
        (wpAny_call_entry F.slot_enumerate_next hT F.entry_enumerate_next ?_ (F.args_enumerate_next_1 _))))
      show wpAny _ _ (field (.ref e) 2 >>= _) _ _ _
      refine wpAny_bind (wpAny_field he rfl (x := .ref it) rfl ?_)
      cases ha : z.cps.all (· < 128)
      · simp only [strIterType, ha, Bool.false_eq_true, if_false] at hit
        refine wpAny_bind (wpAny_nextOf_wide_end (I.ok.hd hc) hit hz fun h' x he' hx' => ?_)
        obtain ⟨o, ho, hc'⟩ := hx'
        refine wpAny_bind (wpAny_isInstance (T := "StopIteration") (b := true) ⟨o, ho, hc'⟩ isSubtype_stop ?_)
        exact wpAny_pure (hQ _ he')
      · simp only [strIterType, ha, if_true] at hit
        refine wpAny_bind (wpAny_nextOf_ascii_end (I.ok.hd hc) hit hz fun h' x he' hx' => ?_)
        obtain ⟨o, ho, hc'⟩ := hx'
        refine wpAny_bind (wpAny_isInstance (T := "StopIteration") (b := true) ⟨o, ho, hc'⟩ isSubtype_stop ?_)
        exact wpAny_pure (hQ _ he')
    exact hend fun h' eb => ⟨rfl, I.turned (t' := s.toks) (fun b o hb q => eb b o hb q) f0 f1 f3 f4 f5⟩
  self := fun A i s Q E st h => let ⟨⟨_, he⟩, _⟩ := st; wpAny_pyIter_enum he h
def iEnumT (K : PySem.W.Frag) (ta : TA) : TI := fun σ H R => ta σ H fun vs H1 => ∃ a xs, vs = [.ref a] ∧ SqT K H1 a xs ∧ R (Itet K a) H1
def iEnumS (ta : TA) : TI := fun σ H R => ta σ H fun vs H1 => ∃ z, vs = [.str z] ∧ R (Ites z) H1
section
variable {X : Cx} {e : Expr} {ta : TA} {p pos tpos : Pos} {elts : List Expr} {kk : Nat}
theorem piET (K : PySem.W.Frag) (hK : X.K = K) (hg : Gl X "enumerate") (hm : X.mg "enumerate" = none) (ha : PA X [e] ta) (hs : starEach [e] X.env = [(false, eval e X.env)] := by rfl) :
    PI X (.Tuple elts kk tpos) (.Call (.Name "enumerate" p) [e] [] pos) (iEnumT K ta) := by
  subst hK
  refine ⟨fun pins s σ H R I h => ?_⟩
  refine Call_ (ld_blt I hg hm boot_enumerate (PyProof.Rows.callWith_type1 (thn (ha.run pos pins s σ H _ I h) fun us s1 ⟨vs, H1, I1, r1, q1⟩ => ?_) hs rfl))
  obtain ⟨a, xs, ex, hq, q⟩ := q1
  subst ex
  cases r1 with
  | cons r rr =>
    cases rr
    cases r
    obtain ⟨its, rv, p', hz⟩ := I1.tuple hq
    refine enum_begins1 (begins_tuple a its.toArray) p' fun h' he hit hsz hk => wpAny_pyIter_enum he ?_
    have I2 : L2.Inv X pins σ H1 { s1 with heap := h' } := I1.kept (t' := s1.toks) hk
    refine ⟨s1.heap.objs.size + 1, [s1.heap.objs.size + 1, s1.heap.objs.size], _, _, H1, rfl, I2, turn_enumT a (s1.heap.objs.size + 1) s1.heap.objs.size, ⟨⟨.none, he⟩, ⟨_, hit, rfl, rfl⟩, Nat.succ_ne_self _⟩, fun b hb => ?_, q⟩
    have e' : b = s1.heap.objs.size + 1 ∨ b = s1.heap.objs.size := by simpa using hb
    have hle : s1.heap.objs.size ≤ b := by
      rcases e' with z | z
      · rw [z]; exact Nat.le_add_right _ _
      · rw [z]; exact Nat.le_refl _
    exact I1.fpOk hle (I1.hok.fresh hle)
theorem piES (hg : Gl X "enumerate") (hm : X.mg "enumerate" = none) (ha : PA X [e] ta) (hs : starEach [e] X.env = [(false, eval e X.env)] := by rfl) :
    PI X (.Tuple elts kk tpos) (.Call (.Name "enumerate" p) [e] [] pos) (iEnumS ta) := by
  refine ⟨fun pins s σ H R I h => ?_⟩
  refine Call_ (ld_blt I hg hm boot_enumerate (PyProof.Rows.callWith_type1 (thn (ha.run pos pins s σ H _ I h) fun us s1 ⟨vs, H1, I1, r1, q1⟩ => ?_) hs rfl))
  obtain ⟨z, ex, q⟩ := q1
  subst ex
  cases r1 with
  | cons r rr =>
    cases rr
    obtain ⟨t, rfl⟩ := r
    refine call_enumerate_str fun h' he hit hsz hk => wpAny_pyIter_enum he ?_
    have I2 : L2.Inv X pins σ H1 { s1 with heap := h' } := I1.kept (t' := s1.toks) hk
    refine ⟨s1.heap.objs.size + 1, [s1.heap.objs.size + 1, s1.heap.objs.size], _, _, H1, rfl, I2, turn_enumS z t (s1.heap.objs.size + 1) s1.heap.objs.size, ⟨⟨.none, he⟩, hit, Nat.succ_ne_self _⟩, fun b hb => ?_, q⟩
    have e' : b = s1.heap.objs.size + 1 ∨ b = s1.heap.objs.size := by simpa using hb
    have hle : s1.heap.objs.size ≤ b := by
      rcases e' with z | z
      · rw [z]; exact Nat.le_add_right _ _
      · rw [z]; exact Nat.le_refl _
    exact I1.fpOk hle (I1.hok.fresh hle)
end
/-! ### what they give, by data -/
section
variable {K : PySem.W.Frag} {Γ Γ1 : List Sl} {ta : TE}
theorem ei_enumT {ds : List PyData} (h : Ev Γ ta (D K (.tuple ds)) Γ1) : EvI Γ (iEnumT K (tCons ta tNil)) (enP K ds) Γ1 := fun σ G H k R q =>
  h σ G H k _ fun x G1 H1 m1 k1 p1 => by
    obtain ⟨a, vs, rfl, h1, h2⟩ := dp_tup p1
    refine ⟨a, vs, rfl, sqT_up k1.s h1, q _ G1 H1 m1 k1 fun G2 H2 s1 s2 i => ⟨fun X hX => ?_, fun hX => ?_⟩⟩
    · obtain ⟨d, e, rfl⟩ := enP_get hX
      obtain ⟨v, e1, e2⟩ := dpAll_get (dpAll_up s1 _ _ h2) e
      refine ⟨⟨vs, v, sqT_up (s1.trans s2) h1, e1⟩, fun y H3 ⟨T, x, z1, z2, z3, z4⟩ => ?_⟩
      subst z1 z3
      have := z4 vs (sqT_up (s1.trans s2) h1)
      rw [e1] at this
      cases this
      have e3 : Ext G2 H2 (upd G2 T (.tup [.int (i : Nat), v])) (upd H2 T (.tup [.int (i : Nat), v])) := .new s2 z2
      exact ⟨_, e3, .tup (.inl (.inl upd_same)) (.cons (.int _) (.cons (dp_up e3.g _ _ e2) .nil))⟩
    · have := List.getElem?_eq_none_iff.mp hX
      rw [enP_len] at this
      exact ⟨vs, sqT_up (s1.trans s2) h1, by rw [dpAll_len h2]; exact this⟩
theorem ei_enumS {z : Str} (h : Ev Γ ta (D K (.str z)) Γ1) : EvI Γ (iEnumS (tCons ta tNil)) (enP K (z.cps.toList.map fun c => .str ⟨#[c]⟩)) Γ1 := fun σ G H k R q =>
  h σ G H k _ fun x G1 H1 m1 k1 p1 => by
    refine ⟨z, by rw [dp_str p1], q _ G1 H1 m1 k1 fun G2 H2 s1 s2 i => ⟨fun X hX => ?_, fun hX => ?_⟩⟩
    · obtain ⟨d, e, rfl⟩ := enP_get hX
      rw [List.getElem?_map] at e
      cases ec : z.cps.toList[i]? with
      | none => rw [ec] at e; cases e
      | some c =>
        rw [ec] at e
        cases e
        have hi : i < z.cps.size := by
          have := (List.getElem?_eq_some_iff.mp ec).1
          simpa using this
        refine ⟨hi, fun y H3 ⟨T, c', z0, z1, z2, z3⟩ => ?_⟩
        subst z1 z3
        have e' : z.cps[i]? = some c := by simpa using ec
        rw [e'] at z0
        cases z0
        have e3 : Ext G2 H2 (upd G2 T (.tup [.int (i : Nat), .str ⟨#[c]⟩])) (upd H2 T (.tup [.int (i : Nat), .str ⟨#[c]⟩])) := .new s2 z2
        exact ⟨_, e3, .tup (.inl (.inl upd_same)) (.cons (.int _) (.cons (.str _) .nil))⟩
    · have := List.getElem?_eq_none_iff.mp hX
      rw [enP_len, List.length_map] at this
      show z.cps.size ≤ i
      simpa using this
end
end WF

/-! ## text L4 -/
set_option maxHeartbeats 1000000
namespace WF
open PySem PySem.Spec PyProof.Rows L2
section
variable {X : Cx}
/-! ### x += a text -/
def ipS : TIp := fun x y H Q => ∃ i j, x = V.str i ∧ y = V.str j ∧ i.length + j.length ≤ sizeLine ∧ Q (V.str (i ++ j)) H
theorem ip_addS : PIp X .Add ipS := by
  intro pins s σ H x y v u Q I rx ry h
  exact iop_add_str pins s σ H x y v u Q I rx ry h
/-! ### a datum in a list or a tuple of data -/
def rInT (K : PySem.W.Frag) : R2 := fun x y H Q => ∃ d ds, Dp K H x d ∧ Dp K H y (.tuple ds) ∧ SeqAt.shaped d = true ∧ SeqAt.shaped (.tuple ds) = true ∧ Q (.bl (ds.any fun z => PyData.eqv z d)) H
theorem op_inT (hu : X.A.units + 65 < cLine) : OpR X (compareOp .In) (rInT X.K) := by
  intro pins s σ H x y v u Q I rx ry h
  obtain ⟨d, ds, hd, he, sd, se, q⟩ := h
  obtain ⟨as, r1⟩ := Dp.reads I d x v hd rx
  obtain ⟨bs, r2⟩ := Dp.reads I (.tuple ds) y u he ry
  exact SeqAt.in_tuple_reads r2 r1 (SeqAt.canLay_of_shaped se) (SeqAt.canLay_of_shaped sd) (PyProof.Rows.room_in_shaped sd hu) ⟨.bl _, H, I, rfl, q⟩
theorem oInTD (K : PySem.W.Frag) (hK : X.K = K) (hu : X.A.units + 65 < cLine) : OpR X (compareOp .In) (rInT K) := hK ▸ op_inT hu
/-! ### a text's signs in a display -/
def tStarS (te : TE) (t : TA) : TA := fun σ H Q => te σ H fun x H1 => ∃ z : Str, x = V.str z ∧ z.length ≤ sizeLine ∧ t σ H1 fun ys H2 => Q ((z.cps.toList.map fun c => V.str ⟨#[c]⟩) ++ ys) H2
theorem vals_signs {z : Str} {acc : List Value} (hl : acc.length = z.cps.toList.length) (h : ∀ (j : Nat) (v : Value), acc[j]? = some v → ∃ c u, z.cps[j]? = some c ∧ v = Value.str ⟨#[c]⟩ u) : Vals (z.cps.toList.map fun c => V.str ⟨#[c]⟩) acc := by
  have key : ∀ (cs : List Nat) (acc : List Value), acc.length = cs.length → (∀ (j : Nat) (v : Value), acc[j]? = some v → ∃ c u, cs[j]? = some c ∧ v = Value.str ⟨#[c]⟩ u) → Vals (cs.map fun c => V.str ⟨#[c]⟩) acc := by
    intro cs
    induction cs with
    | nil =>
      intro acc hl _
      cases acc with
      | nil => exact .nil
      | cons _ _ => simp at hl
    | cons c cs ih =>
      intro acc hl h
      cases acc with
      | nil => simp at hl
      | cons v acc =>
        refine .cons ?_ (ih acc (by simpa using hl) fun j v e => ?_)
        · obtain ⟨c', u, e1, e2⟩ := h 0 v rfl
          cases e1
          exact ⟨u, e2⟩
        · exact h (j + 1) v e
  exact key _ _ hl fun j v e => by
    obtain ⟨c, u, e1, e2⟩ := h j v e
    exact ⟨c, u, by simpa using e1, e2⟩
theorem star_str {pins : List (Addr × Obj)} {σ : L2.St} {H : Hp} {s : Shared} {z : Str} {t : Tok} {E : Value → Shared → Prop} {Q : List Value → Shared → Prop} (hc : X.calm = true) (I : Inv X pins σ H s) (hz : z.length ≤ sizeLine) (hQ : ∀ us s', Inv X pins σ H s' → Vals (z.cps.toList.map fun c => V.str ⟨#[c]⟩) us → Q us s') :
    PySem.W.StarOf (model X.prog X.w) X.A E (.str z t) Q s := by
  have q : wpAny (model X.prog X.w) X.A (collect (.str z t)) Q E s := by
    refine wpAny_collect_str (I.ok.hd hc) z t (fun s' acc hk hg hd ho hacc => ?_) hz
    have I2 : Inv X pins σ H { s with heap := s'.heap, toks := s'.toks } := I.kept (t' := s'.toks) hk
    have es : s' = { s with heap := s'.heap, toks := s'.toks } := by
      cases s'
      cases s
      simp only at hg hd ho
      subst hg hd ho
      rfl
    rw [es]
    refine hQ _ _ I2 (vals_signs ?_ fun j v e => ?_)
    · rw [Array.length_toList, hacc.1]
      simp
    · exact hacc.2 j v (by rw [← Array.getElem?_toList]; exact e)
  unfold PySem.W.StarOf notIterableAtAll
  exact wpAny_bind (wpAny_specialOf (T := "str") (v := .str z t) rfl F.slot_str_iter.lookup (wpAny_pure ⟨rfl, q⟩))
theorem paStarS {e : Expr} {es : List Expr} {te : TE} {t : TA} {p : Pos} (hc : X.calm = true) (he : PE X e te) (hr : PA X es t) (hs : starEach (.Starred e p :: es) X.env = (true, eval e X.env) :: starEach es X.env := by rfl) : PA X (.Starred e p :: es) (tStarS te t) := by
  refine ⟨fun pos pins s σ H Q I h => ?_⟩
  refine PySem.W.items_star (thn (he.run pins s σ H _ I h) fun v s1 ⟨y, H1, I1, ry, z, ey, hz, q⟩ => ?_) hs
  subst ey
  obtain ⟨t0, rfl⟩ := ry
  refine star_str hc I1 hz fun us s2 I2 rv => ?_
  exact thn (hr.run pos pins s2 σ H1 _ I2 q) fun ws s3 ⟨vs, H3, I3, r3, q3⟩ => ⟨_ ++ vs, H3, I3, rv.append r3, q3⟩
end
section
variable {K : PySem.W.Frag} {Γ Γ1 Γ2 : List Sl} {ta tb te : TE} {tas : TA} {d : PyData}
theorem ev_inTD {ds : List PyData} (ha : Ev Γ ta (D K d) Γ1) (hb : Ev Γ1 tb (D K (.tuple ds)) Γ2) (h1 : SeqAt.shaped d = true) (h2 : SeqAt.shaped (.tuple ds) = true) : Ev Γ (tOp (rInT K) ta tb) (D K (.bool (ds.any fun z => PyData.eqv z d))) Γ2 :=
  ev_two0 ha hb fun u y G H s p1 p2 Q q => ⟨d, ds, dp_up s _ _ p1, dp_up s _ _ p2, h1, h2, q _ (.bl _)⟩
theorem dpAll_signs {G : Hp} : ∀ cs : List Nat, DpAll K G (cs.map fun c => V.str ⟨#[c]⟩) (cs.map fun c => PyData.str ⟨#[c]⟩)
  | [] => .nil
  | c :: cs => .cons (.str _) (dpAll_signs cs)
theorem ed_starS {z : Str} {ds : List PyData} (h : Ev Γ te (D K (.str z)) Γ1) (hz : z.length ≤ 100000) (hr : EvD K Γ1 tas ds Γ2) : EvD K Γ (tStarS te tas) ((z.cps.toList.map fun c => PyData.str ⟨#[c]⟩) ++ ds) Γ2 := fun σ G H k Q q =>
  h σ G H k _ fun x G1 H1 m1 k1 p1 => ⟨z, dp_str p1, sz_of hz, hr σ G1 H1 k1 _ fun xs G2 H2 m2 k2 p2 => q _ G2 H2 (m1.trans m2) k2 (dpAll_app (dpAll_signs _) p2)⟩
/-- x += a text, x a name of the def -/
theorem go_augS {i : Nat} {x y : Str} (hx : Γ[i]? = some (.pr (D K (.str x)))) (h : Ev Γ te (D K (.str y)) Γ1) (hi : i < Γ1.length) (hz : x.length + y.length ≤ 100000) : Go Γ (tAug i te ipS) (Γ1.set i (.pr (D K (.str (x ++ y))))) := fun σ G H k E q => by
  obtain ⟨v, e1, e2⟩ := k.p i _ hx
  cases dp_str e2
  refine ⟨_, e1, h σ G H k _ fun w G1 H1 m1 k1 p1 => ⟨x, y, rfl, dp_str p1, sz_of hz, ?_⟩⟩
  exact q _ G1 H1 m1.put (k1.put hi (.str _))
end
end WF

/-! ## text L4b -/
set_option maxHeartbeats 1000000
namespace WF
open PySem PySem.Spec PyProof.Rows L2
/-! ### sorted(a list of data) -/
section
variable {X : Cx}
/-- values that stand for data -/
def StV (K : PySem.W.Frag) (H : Hp) (d : PyData) : Value → Prop := fun v => ∃ x : V, RelV x v ∧ Dp K H x d
theorem stv_each {K : PySem.W.Frag} {H : Hp} : ∀ {vs : List V} {us : List Value} {ds : List PyData}, Vals vs us → DpAll K H vs ds → PySem.W.EachIs (fun v d => StV K H d v) us ds
  | _, _, _, .nil, h => by cases h; exact .nil
  | _, _, _, .cons r rr, h => by
    cases h with
    | cons h1 h2 => exact .cons ⟨_, r, h1⟩ (stv_each rr h2)
theorem each_stv {K : PySem.W.Frag} {H : Hp} : ∀ {us : List Value} {ds : List PyData}, PySem.W.EachIs (fun v d => StV K H d v) us ds → ∃ vs, Vals vs us ∧ DpAll K H vs ds
  | _, _, .nil => ⟨[], .nil, .nil⟩
  | _, _, .cons ⟨x, r, h⟩ t => let ⟨vs, r', h'⟩ := each_stv t; ⟨x :: vs, .cons r r', .cons h h'⟩
def rSort (K : PySem.W.Frag) : List V → Hp → VK → Prop := fun xs H Q => ∃ (G : Hp) (a : Addr) (ds : List PyData), Same G H ∧ xs = [V.ref a] ∧ Dp K G (V.ref a) (.list ds) ∧ PySem.W.AllAlike ds ∧ PySem.W.Sortable ds ∧ (∀ d ∈ ds, d.depth ≤ 60) ∧
  ∀ vs p, DpAll K G vs (ds.mergeSort (PySem.W.dataLe false id)) → H p = Option.none → Q (.ref p) (upd H p (.lst vs))
theorem call_sortL (hu : X.A.units + 65 < cLine) : CallR X (.builtin "sorted") (rSort X.K) := by
  intro pins s σ H xs us Q I r h
  obtain ⟨G, a, ds, sm, rfl, hd, hal, hk, hdp, q⟩ := h
  obtain ⟨u, rfl, rx⟩ := vals1 r
  cases rx
  cases hd with
  | lst hq hds =>
    obtain ⟨its, rv, pl, hz⟩ := I.list (sm.seq hq)
    have e0 : PySem.W.EachIs (fun v d => StV X.K G d v) its ds := stv_each rv hds
    have er : PySem.W.EachIs (fun v (b : PyData) => ∃ as, Reads s.heap v (id b) as) its ds := e0.mono fun v d ⟨x, r, h⟩ => Dp.reads I d x v (dp_up sm _ _ h) r
    have hl : its.length = ds.length := e0.length
    refine PySem.W.sorted_data (enc := id) pl.isList e0 er (by rw [List.map_id]; exact hal) (by rw [List.map_id]; exact hk) (by rw [← hl]; have := rv.length; omega) (fun b hb => by have := hdp b hb; show X.A.units + 2 + b.depth < _; omega) fun out ho eo => ?_
    obtain ⟨vs', rv', hv'⟩ := each_stv eo
    obtain ⟨c, hc⟩ := PyProof.Rows.sortedAll_at s.heap its (List.toArray out)
    have hlen : vs'.length ≤ sizeLine := by
      have := rv'.length
      have h1 := rv.length
      omega
    exact ⟨.ref (s.heap.objs.size + 1), upd H (s.heap.objs.size + 1) (.lst vs'), I.laid (t' := s.toks) (fun b o e => PyProof.Rows.sortedAll_old e) (Nat.le_succ _) (show ObjOk X.prog X.w _ _ _ (.lst vs') from ⟨hlen, out, c, rv', hc⟩), rfl, q _ _ hv' (I.hok.fresh (Nat.le_succ _))⟩
theorem cSortedD (K : PySem.W.Frag) (hK : X.K = K) (hu : X.A.units + 65 < cLine) : CallR X (.builtin "sorted") (rSort K) := hK ▸ call_sortL hu
/-! ### text[i].replace('a', 'b' if c else 'd') -/
def tRepIf (ta tb : TE) (tc : TT) (y z1 z2 : Str) : TE := fun σ H Q => ta σ H fun x H1 => tb σ H1 fun i H2 => ∃ (z : Str) (n : Int) (c : Nat), x = V.str z ∧ i = V.int n ∧ z.length ≤ sizeLine ∧ atI z.cps.toList n = some c ∧
  (Txt.replace ⟨#[c]⟩ y z1).length ≤ 100 ∧ tc σ H2 fun b H3 => Q (.str (Txt.replace ⟨#[c]⟩ y (if b then z1 else z2))) H3
theorem pe_repIf {a b c : Expr} {ta tb : TE} {tc : TT} {y z1 z2 : Str} {j k1 k2 : Nat} {p0 p1 p2 p3 spos apos pos : Pos} (ha : PE X a ta) (hb : PE X b tb) (hs : PlainIx b) (hc : PT X c tc) (h1 : (y == z1) = false := by decide) (h2 : (y == z2) = false := by decide) (hl1 : z1.length ≤ 1000 := by decide) (hl2 : z2.length ≤ 1000 := by decide)
    (hst : starEach [.Constant (.str y) j p0, .IfExp c (.Constant (.str z1) k1 p1) (.Constant (.str z2) k2 p2) p3] X.env = [(false, eval (.Constant (.str y) j p0) X.env), (false, eval (.IfExp c (.Constant (.str z1) k1 p1) (.Constant (.str z2) k2 p2) p3) X.env)] := by rfl)
    (hbase : attributeBase (.Subscript a b spos) "replace" X.env (eval (.Subscript a b spos) X.env) = eval (.Subscript a b spos) X.env := by rfl) (hline : (apos.endLine == pos.line) = true := by rfl) :
    PE X (.Call (.Attribute (.Subscript a b spos) "replace" apos) [.Constant (.str y) j p0, .IfExp c (.Constant (.str z1) k1 p1) (.Constant (.str z2) k2 p2) p3] [] pos) (tRepIf ta tb tc y z1 z2) := by
  refine ⟨fun pins s σ H Q I h => ?_⟩
  refine PySem.Call_method2 hbase hst hline (Subscript_ (binT ha hb I h fun v u s2 x y' H2 I2 rx ry q => ?_))
  obtain ⟨z, n, c', rfl, rfl, hz, he, hlen, q⟩ := q
  obtain ⟨t, rfl⟩ := rx
  obtain ⟨t', rfl⟩ := ry
  obtain ⟨j', g1, g2, g3, g4, g5⟩ := atI_get he
  have hl : z.cps.toList.length = z.length := by simp [Str.length]
  rw [hl] at g1 g4 g5
  have hn := line63
  refine tail_any (typeIs_str s2 z t) slot_str_getitem.lookup (getItem_str (c := c') (by
    have e1 : decide (n < -(2 ^ 63 : Int)) = false := decide_eq_false (by omega)
    have e2 : decide (n ≥ 2 ^ 63) = false := decide_eq_false (by omega)
    rw [e1, e2, Bool.or_false]) (by rw [g1]; simpa using g2) ?_) (hs _ _)
  refine ⟨"str", _, PySem.F.plainAttrs_str, PySem.F.slot_str_replace, PySem.F.type_str_replace, typeIs_str _ _ _, (fun _ e => nomatch e), Calls.callWith_builtin rfl (Calls.evalArgs_plain (Calls.spliced_cons ?_))⟩
  refine Calls.Constant_str (Calls.spliced_cons ?_)
  refine wpAny_IfExp (wpAny_mono (PySem.wpAny_toks (hc.run pins { s2 with toks := s2.toks + 1 + 1 } σ H2 _ (I2.tok _) q)) (fun d s3 q3 => ?_) fun _ _ z => z.2)
  obtain ⟨hk, H3, I3, q3⟩ := q3
  have hk' : s2.toks + 2 ≤ s3.toks := hk
  have big : ∀ z' : Str, z'.length ≤ 1000 → (⟨#[c']⟩ : Str).length + ((⟨#[c']⟩ : Str).length + 1) * z'.length ≤ 16777216 := fun z' hz' => by
    show 1 + (1 + 1) * z'.length ≤ _
    omega
  cases d with
  | true =>
    refine Calls.Constant_str (Calls.spliced_nil ?_)
    exact PySem.SC.replace (by show s2.toks + 1 ≠ 0; omega) (by show s3.toks ≠ 0; omega) (by show s2.toks + 1 ≠ s3.toks; omega) h1 (big _ hl1) fun t' k => ⟨.str (Txt.replace ⟨#[c']⟩ y z1), H3, I3.tok k, ⟨t', rfl⟩, q3⟩
  | false =>
    refine Calls.Constant_str (Calls.spliced_nil ?_)
    exact PySem.SC.replace (by show s2.toks + 1 ≠ 0; omega) (by show s3.toks ≠ 0; omega) (by show s2.toks + 1 ≠ s3.toks; omega) h2 (big _ hl2) fun t' k => ⟨.str (Txt.replace ⟨#[c']⟩ y z2), H3, I3.tok k, ⟨t', rfl⟩, q3⟩
end
end WF

/-! ## text L4c -/
set_option maxHeartbeats 1000000
namespace WF
open PySem PySem.Spec PyProof.Rows L2
/-! ### def f(a): return (len(a), a), called on its own -/
theorem reads_nil {h : Heap} {v : Value} {d : PyData} {as : List Addr} (r : Reads h v d as) (e : as = []) : Reads h v d [] := e ▸ r
theorem sized_run {CX : CXT} {P : Program} {w : World} {K : PySem.W.Frag} {mg : Str → Option Value} {base : Heap} {k : Nat} {f : Addr} {fd : FuncData} {nm a0 : Str} {st : Stmt} {N : List Str} {kk : Nat} {p1 p2 p3 cpos tpos rpos : Pos}
    (F : C8.Fun K nm nm st f fd) (b : Binds K fd [a0] []) (S : FnScope N [a0] (C8.fnScope st))
    (hbd : C8.fnBody st = [.Return (some (.Tuple [.Call (.Name "len" p1) [.Name a0 p2] [] cpos, .Name a0 p3] kk tpos)) rpos])
    (hl : mg "len" = none) (h0 : (C8.fnScope st).names.lookup a0 = some .local) (hg : ∀ s cdv, (envOfC nm (C8.fnScope st) s f cdv).kindOf "len" = some .globalImplicit) (d0 : (a0 == ("__debug__" : Str)) = false)
    {A : Around} {outer : List Env} {s : Shared} {H : Hp} {p : Addr} {its : List Value} {d : PyData} (hr : Room (k + 1) A) (e0 : Env0 P w K mg base A outer s H) (ht : IsTup s.heap p its.toArray) (hz : its.length ≤ sizeLine) (rd : Reads s.heap (.ref p) d []) :
    wpAny (model P w) A (call (.ref f) [.ref p]) (PySem.W.KeyPure (.tuple [.int (its.length : Nat), d]) s) (fun _ _ => False) s := by
  obtain ⟨oc, od, dV, kV, doc, pm, an, cdv, ct, osl, rfl, lk, hcd⟩ := F.ex
  have KX : K.In s.heap := e0.mod.kin.keeps fun b o e => (e0.bs b o e).1
  have lim : s.heap.NoLimit := e0.mod.nolimit.keeps fun b o e => (e0.bs b o e).1
  have hkind : ∀ v ∈ [a0].zip [Value.ref p], (C8.fnScope st).names.lookup v.1 = some .local ∨ ((C8.fnScope st).names.lookup v.1 = some .cell ∧ ((cellsFrom (s.heap.objs.size + 1) (C8.fnScope st).names []).lookup v.1).isSome = true) := fun ⟨n, v⟩ hy => by
    rcases S.par n (List.of_mem_zip hy).1 with q | q
    · exact .inl q
    · exact .inr ⟨q, PySem.W.cellsFrom_some _ _ _ (.inl q)⟩
  refine wpAny_call (codeAny_call_function hr.depth (KX _ _ lk) rfl S.co S.gen rfl (PySem.W.codeRec_of KX hcd) (b s [.ref p] KX rfl _ _ _ _ ?_))
  refine wpAny_newFunctionEnv_cells S.kind hkind fun env he s1 xx => ?_
  subst he
  refine ⟨lim.keeps xx.toInCall.keep, codeAny_func ?_⟩
  have rv : Vals [V.ref p] [Value.ref p] := .cons rfl .nil
  have I : Inv (cxOf CX P w K mg base N nm (C8.fnScope st) f cdv A outer s H E0) [] (start N [.ref p]) H s1 := inv_start S hr.hd e0 rfl rv xx
  have hn := xx.toInCall.ns
  have nd : [a0].Nodup := by simp
  have m0 := bindL_get (kindOf := (envOfC nm (C8.fnScope st) s.heap.objs.size f cdv).kindOf) (x := a0) (v := Value.ref p) (P := [a0]) (vs := [.ref p]) (i := 0) (m := fun _ => none) nd rfl rfl h0
  obtain ⟨h1, tk, es1, hk1⟩ := xx.done
  rw [hbd]
  have nm0 : ∀ {Q : Value → Shared → Prop} {E : Value → Shared → Prop} {pp : Pos} {s2 : Shared}, (∀ b o, s1.heap.get? b = some o → s2.heap.get? b = some o) → Q (.ref p) s2 → wpAny (model P w) (A.deeper (envOfC nm (C8.fnScope st) s.heap.objs.size f cdv)) (eval (.Name a0 pp) (envOfC nm (C8.fnScope st) s.heap.objs.size f cdv)) Q E s2 := fun hk q =>
    wpAny_Name (wpAny_loadName_local S.kind h0 (hn.keeps hk) m0 q) d0
  have hn63 := line63
  refine wpAny_execs_cons (wpAny_Return_some (wpAny_Tuple_spliced (Calls.spliced_cons (wpAny_Call_Name_kw (ld_blt I (hg _ _) hl boot_len (PyProof.Rows.callWith_builtin1 (Calls.spliced_cons (nm0 (fun _ _ e => e) (Calls.spliced_nil ?_))) rfl rfl))))))
  have ht1 : IsTup s1.heap p its.toArray := ht.keeps xx.toInCall.keep
  refine PyProof.Rows.len_tuple ht1 (by simp only [List.size_toArray] <;> omega) ?_
  refine Calls.spliced_cons (nm0 (fun _ _ e => e) (Calls.spliced_nil ⟨by show 2 ≤ sizeLine; decide, ?_⟩))
  subst es1
  have e9 : ∀ b o, s.heap.get? b = some o → (h1.push { cls := .type "tuple", data := .seq [Value.int (its.toArray.size : Nat) (tk + 1), Value.ref p].toArray }).get? b = some o := fun b o e => Heap.get?_push_of_some _ (xx.toInCall.keep b o e)
  refine ⟨_, _, rfl, e9, ?_⟩
  have hR : Reads (h1.push { cls := .type "tuple", data := .seq [Value.int (its.toArray.size : Nat) (tk + 1), Value.ref p].toArray }) (.ref h1.objs.size) (.tuple [.int (its.toArray.size : Nat), d]) ([] ++ ([] ++ [])) :=
    .tuple (Heap.get?_push_size _ rfl) rfl rfl (.cons (.int _ _) (.cons (PyProof.Rows.Reads.keeps e9 rd) .nil))
  simpa using hR
/-- what is promised of sized -/
def SzOk (P : Program) (w : World) (K : PySem.W.Frag) (mg : Str → Option Value) (base : Heap) (k : Nat) (f : Addr) : Prop :=
  ∀ {A : Around} {outer : List Env} {s : Shared} {H : Hp} {p : Addr} {its : List Value} {d : PyData}, Room k A → Env0 P w K mg base A outer s H → IsTup s.heap p its.toArray → its.length ≤ sizeLine → Reads s.heap (.ref p) d [] →
    wpAny (model P w) A (call (.ref f) [.ref p]) (PySem.W.KeyPure (.tuple [.int (its.length : Nat), d]) s) (fun _ _ => False) s
theorem readsAll_ints_nil {h : Heap} : ∀ {ns : List Int} {vs : List Value} {as : List Addr}, ReadsAll h vs (ns.map PyData.int) as → as = []
  | [], _, _, r => by
    cases r
    rfl
  | n :: ns, _, _, r => by
    cases r with
    | cons h1 h2 =>
      cases h1
      exact readsAll_ints_nil h2
/-- the key of a lot -/
def szKey (ns : List Int) : PyData := .tuple [.int (ns.length : Nat), .tuple (ns.map .int)]
def rSortK (P : Program) (w : World) (K : PySem.W.Frag) (mg : Str → Option Value) (base : Heap) (k : Nat) : List V → List V → Hp → VK → Prop := fun vs zs H Q => ∃ (G : Hp) (a f : Addr) (ls : List (List Int)), Same G H ∧ vs = [V.ref a] ∧ zs = [V.ref f] ∧ SzOk P w K mg base k f ∧
  Dp K G (V.ref a) (.list (ls.map fun ns => .tuple (ns.map .int))) ∧ ∀ xs p, DpAll K G xs ((ls.mergeSort (PySem.W.dataLe false szKey)).map fun ns => .tuple (ns.map .int)) → H p = Option.none → Q (.ref p) (upd H p (.lst xs))
section
variable {X : Cx} {k : Nat}
theorem dpAll_map {K : PySem.W.Frag} {H : Hp} {α : Type} (g : α → PyData) : ∀ {us : List Value} {xs : List α}, PySem.W.EachIs (fun v x => StV K H (g x) v) us xs → ∃ vs, Vals vs us ∧ DpAll K H vs (xs.map g)
  | _, _, .nil => ⟨[], .nil, .nil⟩
  | _, _, .cons ⟨x, r, h⟩ t => let ⟨vs, r', h'⟩ := dpAll_map g t; ⟨x :: vs, .cons r r', .cons h h'⟩
theorem stv_eachMap {K : PySem.W.Frag} {H : Hp} {α : Type} (g : α → PyData) : ∀ {vs : List V} {us : List Value} {xs : List α}, Vals vs us → DpAll K H vs (xs.map g) → PySem.W.EachIs (fun v x => StV K H (g x) v) us xs
  | _, _, [], .nil, h => .nil
  | _, _, _ :: _, .nil, h => by cases h
  | _, _, [], .cons _ _, h => by cases h
  | _, _, x :: xs, .cons r rr, h => by
    cases h with
    | cons h1 h2 => exact .cons ⟨_, r, h1⟩ (stv_eachMap g rr h2)
theorem alike_key (x y : List Int) : PySem.W.alike (szKey x) (szKey y) = true := by
  simp [szKey, PySem.W.alike, PySem.W.alikeAll, PySem.W.alike_ints]
theorem depth_key (x : List Int) : (szKey x).depth ≤ 10 := by
  simp only [szKey, PyData.depth, PyData.depthAll, PySem.W.depth_ints]
  decide
theorem cr_sortK (hr : Room (k + 2) X.A) : CallRK X (.builtin "sorted") [Str.ofString "key"] (rSortK X.prog X.w X.K X.mg X.base k) := by
  intro pins s σ H vs zs us ws Q I r rz h
  obtain ⟨G, a, f, ls, sm, rfl, rfl, hf, hd, q⟩ := h
  obtain rfl := Vals.ref1 r
  obtain ⟨w1, rfl, e1⟩ := vals1 rz
  obtain rfl : w1 = Value.ref f := e1
  cases hd with
  | lst hq hds =>
    obtain ⟨its, rv, pl, hz⟩ := I.list (sm.seq hq)
    have e0 : PySem.W.EachIs (fun v ns => StV X.K G ((fun ns : List Int => PyData.tuple (ns.map .int)) ns) v) its ls := stv_eachMap _ rv hds
    have hl : its.length = ls.length := e0.length
    have hlz := rv.length
    have hun := hr.un
    refine PySem.W.sorted_key_data (b := false) szKey pl.isList e0 (PySem.W.AllAlike.of alike_key) (PySem.W.Sortable.tuples fun x => ⟨_, _, rfl⟩) (by omega) (fun x _ => by have := depth_key x; omega) (PyProof.Rows.ksk_s1 _ _) (fun _ => PyProof.Rows.ksk_l1 _ _) (fun _ => PyProof.Rows.ksk_t1 _ _)
      (fun v ns ⟨x, rx, hx⟩ _ h' tk hk => ?_) fun out c h' tk hk hnone hat hol eo => ?_
    · have I1 : Inv X pins σ H { s with heap := h', toks := tk } := I.kept hk
      have hx := dp_up sm _ _ hx
      obtain ⟨as, rd⟩ := Dp.reads I1 _ _ _ hx rx
      have rd0 : Reads h' v (.tuple (ns.map .int)) [] := by
        cases rd with
        | tuple g1 g2 g3 g4 => exact .tuple g1 g2 g3 (by have e := readsAll_ints_nil g4; rw [e] at g4; exact g4)
      cases hx with
      | tup hq2 ha2 =>
        cases rx
        obtain ⟨its2, rv2, pt2, hz2⟩ := I1.tuple hq2
        have hl2 := rv2.length
        have e : its2.length = ns.length := by rw [← hl2, dpAll_len ha2, List.length_map]
        have z := hf (A := X.A.in1.in1) (outer := X.stack) (s := { s with heap := h', toks := tk }) (H := H) (p := _) (its := its2) (d := .tuple (ns.map .int)) hr.in1.in1 I1.env0.in1.in1 pt2 (by rw [← hl2]; exact hz2) rd0
        rw [e] at z
        exact z
    · obtain ⟨vs', rv', hv'⟩ := dpAll_map (fun ns : List Int => PyData.tuple (ns.map .int)) eo
      have hlen : vs'.length ≤ sizeLine := by
        have := rv'.length
        omega
      exact ⟨.ref (s.heap.objs.size + 1), upd H (s.heap.objs.size + 1) (.lst vs'), I.laid (t' := tk) hk (Nat.le_succ _) (show ObjOk X.prog X.w _ _ _ (.lst vs') from ⟨hlen, out, c, rv', hat⟩), rfl, q _ _ hv' (I.hok.fresh (Nat.le_succ _))⟩
end
end WF

/-! ## text L4d -/
set_option maxHeartbeats 1000000
namespace WF
open PySem PySem.Spec PyProof.Rows L2
/-! ### sorted(d), d with tuples of ints as keys -/
def tI (ks : List Int) : PyData := .tuple (ks.map .int)
def rSortDT (K : PySem.W.Frag) : List V → Hp → VK → Prop := fun xs H Q => ∃ (G : Hp) (a : Addr) (kvs : List (List Key × V)) (kss : List (List Int)), Same G H ∧ xs = [V.ref a] ∧ Rd H a (.dT kvs) ∧ kvs.map (·.1) = kss.map (·.map Sum.inl) ∧ (∀ ks ∈ kss, ks ≠ []) ∧ (∀ b ys, H b = some (.tup ys) → G b = some (.tup ys)) ∧
  ∀ vs p, DpAll K G vs ((kss.mergeSort (PySem.W.dataLe false tI)).map tI) → H p = Option.none → Q (.ref p) (upd H p (.lst vs))
section
variable {X : Cx}
theorem kV_ints : ∀ ns : List Int, (ns.map (Sum.inl : Int → Key)).map kV = ns.map V.int
  | [] => rfl
  | n :: ns => congrArg (V.int n :: ·) (kV_ints ns)
theorem dpAll_int {K : PySem.W.Frag} {H : Hp} : ∀ ns : List Int, DpAll K H (ns.map V.int) (ns.map PyData.int)
  | [] => .nil
  | n :: ns => .cons (.int n) (dpAll_int ns)
theorem keys_stv {K : PySem.W.Frag} {H G : Hp} (hup : ∀ b ys, H b = some (.tup ys) → G b = some (.tup ys)) : ∀ {kvs : List (List Key × V)} {xs : List (List Key × Addr × Value)} {kss : List (List Int)}, KT H kvs xs → kvs.map (·.1) = kss.map (·.map Sum.inl) → PySem.W.EachIs (fun v ks => StV K G (tI ks) v) (xs.map fun x => Value.ref x.2.1) kss
  | [], _, [], r, _ => by cases r; exact .nil
  | [], _, _ :: _, _, e => by cases e
  | _ :: _, _, [], _, e => by cases e
  | kv :: kvs, _, ks :: kss, r, e => by
    cases r with
    | @cons p x ps xs h t =>
      have e1 : kv.1 = ks.map Sum.inl := (List.cons.inj e).1
      have e2 := (List.cons.inj e).2
      refine .cons ⟨V.ref x.2.1, rfl, ?_⟩ (keys_stv hup t e2)
      have h2 : H x.2.1 = some (.tup (kv.1.map kV)) := h.2.1
      rw [e1, kV_ints] at h2
      exact .tup (.inl (.inl (hup _ _ h2))) (dpAll_int ks)
theorem tI_alike (x y : List Int) : PySem.W.alike (tI x) (tI y) = true := by
  simp [tI, PySem.W.alike, PySem.W.alike_ints]
theorem tI_depth (x : List Int) : (tI x).depth ≤ 10 := by
  simp only [tI, PyData.depth, PySem.W.depth_ints]
  decide
theorem reads_tI {h : Heap} {v : Value} {as : List Addr} {x : List Int} (r : Reads h v (tI x) as) : as = [] := by
  cases r with
  | tuple g1 g2 g3 g4 => exact readsAll_ints_nil g4
theorem call_sortDT (hc : X.calm = true) (hu : X.A.units + 65 < cLine) : CallR X (.builtin "sorted") (rSortDT X.K) := by
  intro pins s σ H xs us Q I r h
  obtain ⟨G, d, kvs, kss, sm, rfl, hd, hks, hne, hup, q⟩ := h
  obtain ⟨u, rfl, rx⟩ := r.one
  cases rx
  obtain ⟨z, hs, ks, pr, o, es, ep, ho, hx, hdt, he, hn⟩ := (show ObjOk X.prog X.w H s.heap d (.dT kvs) from hd.ok I.hok)
  have l1 : es.size = ks.length := size_of_entries he
  have l2 : kvs.length = ks.length := Paired.length pr
  have l3 : kvs.length = kss.length := by have := congrArg List.length hks; simpa using this
  refine Calls.call_function_entry PyProof.Rows.kind_sorted PyProof.Rows.plain_sorted PyProof.Rows.entry_sorted (PyProof.Rows.args_sorted1 _) ?_
  unfold Builtin.«sorted»
  refine wpAny_bind (m := checkCount "sorted" 1 1 _) (wpAny_pure ?_)
  refine wpAny_bind (PySem.W.kdu_collect (A := X.A.in1) (kdl_raw hs hx hdt) (I.ok.hd hc) ho (by omega) fun h' tk acc kp it => ?_)
  have ea : acc.toList = ks.map fun x => Value.ref x.2.1 := by
    have hl : acc.toList.length = ks.length := by rw [Array.length_toList, it.1]; exact l1
    apply List.ext_getElem?
    intro j
    rw [List.getElem?_map]
    cases hj : acc.toList[j]? with
    | none =>
      have h1 := List.getElem?_eq_none_iff.mp hj
      rw [List.getElem?_eq_none (by omega)]
      all_goals rfl
    | some v =>
      obtain ⟨en, hen, hv⟩ := it.2 j v (by rw [← Array.getElem?_toList]; exact hj)
      have qe := entry_at he j
      rw [hen] at qe
      cases hb : ks[j]? with
      | none =>
        rw [hb] at qe
        exact nomatch (show some en = none from qe)
      | some b =>
        rw [hb] at qe
        have e2 : en = entryOfKey (tupleKind (mixKind X.prog X.w)) b := Option.some.inj qe
        rw [hv, e2]
        all_goals rfl
  have I1 : Inv X pins σ H { s with heap := h', toks := tk } := I.kept kp
  have e0 : PySem.W.EachIs (fun v ks => StV X.K G (tI ks) v) acc.toList kss := by rw [ea]; exact keys_stv hup pr hks
  have hal : acc.toList.length = kss.length := e0.length
  refine wpAny_bind (wpAny_newList ?_ (by show acc.toList.length ≤ _; omega))
  have hoL : (h'.push (seqObj "list" acc.toList.toArray 0)).get? h'.objs.size = some (seqObj "list" acc.toList.toArray 0) := Heap.get?_push_size _ rfl
  show wpAny _ _ _ _ _ { s with heap := h'.push (seqObj "list" acc.toList.toArray 0), toks := tk }
  have hold : ∀ b o, h'.get? b = some o → (h'.push (seqObj "list" acc.toList.toArray 0)).get? b = some o := fun b o e => Heap.get?_push_of_some _ e
  have er : PySem.W.EachIs (fun v (b : List Int) => ∃ as, Reads (h'.push (seqObj "list" acc.toList.toArray 0)) v (tI b) as ∧ h'.objs.size ∉ as) acc.toList kss := e0.mono fun v b ⟨x, rx, hx⟩ => by
    obtain ⟨as, rd⟩ := Dp.reads I1 _ _ _ (dp_up sm _ _ hx) rx
    refine ⟨as, PyProof.Rows.Reads.keeps hold rd, ?_⟩
    rw [reads_tI rd]
    simp
  refine wpAny_bind (wpAny_holding (PySem.W.list_sort_data (enc := tI) (s := { s with heap := h'.push (seqObj "list" acc.toList.toArray 0), toks := tk }) hoL e0 er (PySem.W.AllAlike.of tI_alike) (.inl fun d hd => ?_) (by omega) (fun b _ => by have := tI_depth b; show X.A.units + 1 + 1 + _ < _; omega) fun out hol eo => ?_))
  · obtain ⟨b, hb, rfl⟩ := List.mem_map.mp hd
    cases b with
    | nil => exact absurd rfl (hne _ hb)
    | cons n ns => exact ⟨_, _, rfl⟩
  obtain ⟨e', he'⟩ := PyProof.Rows.sortedHeap_at (vs := acc.toList) (out := List.toArray out) hoL
  obtain ⟨vs', rv', hv'⟩ := dpAll_map tI eo
  have hlen : vs'.length ≤ sizeLine := by
    have := rv'.length
    omega
  refine wpAny_pure ⟨_, rfl, .ref h'.objs.size, upd H h'.objs.size (.lst vs'), I1.laid (t' := tk) (fun b u e => ?_) (Nat.le_refl _)
    (show ObjOk X.prog X.w _ _ _ (.lst vs') from ⟨hlen, out, e', rv', he'⟩), rfl, q _ _ hv' (I1.hok.fresh (Nat.le_refl _))⟩
  have hb : b < h'.objs.size := Heap.lt_size e
  rw [PyProof.Rows.sortedHeap_old (Nat.ne_of_lt hb) (by rw [size_push']; exact Nat.lt_succ_of_lt hb)]
  exact Heap.get?_push_of_some _ e
theorem cSortedDT (K : PySem.W.Frag) (hK : X.K = K) (hc : X.calm = true) (hu : X.A.units + 65 < cLine) : CallR X (.builtin "sorted") (rSortDT K) := hK ▸ call_sortDT hc hu
end
end WF

/-! ## text L4e -/
set_option maxHeartbeats 1000000
namespace WF
open PySem PySem.Spec PyProof.Rows L2
/-! ### len(e), e an instance whose class has its own __len__ -/
def rLenB (C : Addr) (sp : Sp) : List V → Hp → VK → Prop := fun xs H Q => ∃ (a dx : Addr) (fs : List (Str × V)), xs = [V.ref a] ∧ H a = some (.ins C dx fs) ∧ sp [V.ref a] H (fun v H' => ∃ n : Nat, v = .int n ∧ n ≤ 1000 ∧ Q (.int n) H') E0
structure LenB (P : Program) (w : World) (K : PySem.W.Frag) (mg : Str → Option Value) (base : Heap) (k : Nat) (C : Addr) (sp : Sp) : Prop where
  ex : ∃ (f : Addr) (fd : FuncData) (ps : List Str), Meth K C "__len__" f ∧ FnOk P w K mg base CX0 k f fd ps sp ∧ Binds K fd ps []
open Builtin
section
variable {X : Cx} {k : Nat} {C : Addr} {sp : Sp}
theorem call_lenB (L : LenB X.prog X.w X.K X.mg X.base k C sp) (hr : Room (k + 1) X.A) : CallR X (.builtin "len") (rLenB C sp) := by
  intro pins s σ H xs us Q I r h
  obtain ⟨f, fd, ps, me, F, hb⟩ := L.ex
  obtain ⟨a, dx, fs, rfl, ea, h⟩ := h
  obtain ⟨u, rfl, rx⟩ := vals1 r
  cases rx
  obtain ⟨mA, O, _, _, _, _⟩ := ins_get I.hok ea
  obtain ⟨od, J, _⟩ := O.look
  refine Calls.call_function_entry PySem.kind_len PySem.plain_len PySem.entry_len (PySem.args_len1 _) ?_
  unfold Builtin.«len»
  refine wpAny_bind (m := oneArg "len" _) (wpAny_pure ?_)
  have hl : ([Value.ref a] : List Value).length = ps.length := by rw [← F.len _ _ _ _ h]; rfl
  refine wpAny_bind (m := callSpecial? (.ref a) (PySem.Str.ofString "__len__")) (PySem.W.special_fn I.kIn J me.at_ (beq_iff_eq.mp me.fn) (wpAny_call (codeAny_mono (F.run X.A.in1 X.stack s H ⟨[.ref a], []⟩ [.ref a] [.ref a] _ E0 hr.in1 I.env0.in1 (by have := hb s [.ref a] I.kIn (by rw [List.append_nil]; exact hl); rw [List.append_nil] at this; exact this) (.cons rfl .nil) h) fun r s' hq => ?_)))
  cases r with
  | error er => exact pass0 (X := X) pins σ H s er s' I hq
  | ok fl =>
    cases fl with
    | ret u =>
      obtain ⟨v, H', I3, rv, n, rfl, hn, q3⟩ := I.after hq
      obtain ⟨t, rfl⟩ := rv
      refine wpAny_bind (wpAny_holding (wpAny_pure ?_))
      refine wpAny_bind (wpAny_letGo ?_)
      show wpAny _ _ (if ((n : Nat) : Int) < 0 then _ else _) _ _ _
      rw [if_neg (by omega)]
      show wpAny _ _ (if ((n : Nat) : Int) ≥ 2 ^ 63 then _ else _) _ _ _
      rw [if_neg (by omega)]
      exact wpAny_bind (wpAny_mkInt (wpAny_pure ⟨_, rfl, .int (n : Nat), H', I3.tok _, ⟨_, rfl⟩, q3⟩))
    | next => exact False.elim hq
    | brk => exact False.elim hq
    | cont => exact False.elim hq
end
end WF

/-! ## text L5 -/
set_option maxHeartbeats 1000000
namespace WF
open PySem PySem.Spec PyProof.Rows L2
theorem in65 {k : Nat} {A : Around} (hr : Room k A) : A.units + 65 < cLine := by
  have := hr.un
  omega
/-- a property's getter -/
structure PropC (P : Program) (w : World) (K : PySem.W.Frag) (mg : Str → Option Value) (base : Heap) (k : Nat) (C : Addr) (f : Str) (sp : Sp) : Prop where
  ex : ∃ (p g : Addr) (fd : FuncData) (ps : List Str), PropOf K C f p g ∧ FnOk P w K mg base CX0 k g fd ps sp ∧ Binds K fd ps []
section
variable {X : Cx} {k j : Nat} {C : Addr} {f : Str} {sp : Sp} {e : Expr} {pos : Pos} {ta : TE}
theorem pe_propC (L : PropC X.prog X.w X.K X.mg X.base k C f sp) (c : Cls X.K C) (hr : Room j X.A) (hj : k + 1 ≤ j) (he : PE X e ta) (hab : attributeBase e f X.env (eval e X.env) = eval e X.env) : PE X (.Attribute e f pos) (tProp C sp [] E0 ta) := by
  obtain ⟨p, g, fd, ps, hp, F, hb⟩ := L.ex
  exact pe_prop he c hp F (hr.mono hj) hb .nil pass0 hab
end
/-! ### a def by its body, the reading chosen by the arguments -/
section
variable {P : Program} {w : World} {K : PySem.W.Frag} {mg : Str → Option Value} {base : Heap} {α : Type} {args : α → List Pr} {pre : α → Prop} {r : α → Pr} {x : Str} {st : Stmt} {f : Addr} {fd : FuncData} {N ps : List Str} {k : Nat}
theorem cal_Fa {n : Nat} (F : C8.Def K mg x st f fd) (b : Binds K fd ps []) (S : FnScope N ps (C8.fnScope st)) (hn : ∀ a, (args a).length = ps.length) (hN : N.length = ps.length + n)
    (hb : ∀ a, pre a → ∀ (cdv : Value) (A : Around) (outer : List Env) (s : Shared) (H : Hp) (E : XK), Room k (A.deeper (envOfC x (C8.fnScope st) s.heap.objs.size f cdv)) →
      ∃ t, PSs (cxOf CX0 P w K mg base N x (C8.fnScope st) f cdv A outer s H E).nox (C8.fnBody st) t ∧ Rt ((args a).map Sl.pr ++ List.replicate n .no) t (r a) []) : C8.Cal P w K mg base (k + 1) x (spF args pre r) [] := by
  refine C8.cal0 F b .nil S (spF_len hn) fun cdv A outer s H vs Q E hr h => ?_
  obtain ⟨G, a, sm, e, hp, q⟩ := h
  obtain ⟨t, h1, h2⟩ := hb a hp cdv A outer s H E hr
  exact ⟨t, h1, h2 (L2.start N vs) G H (kn_start sm e (by rw [hN, hn])) { nx := fun _ H' => Q .non H', rt := Q } fun v σ' G' H' m _ p => q v G' H' (m.toExt noOwn_start) p⟩
theorem cal_Ga {n : Nat} {Γ' : α → List Sl} (F : C8.Def K mg x st f fd) (b : Binds K fd ps []) (S : FnScope N ps (C8.fnScope st)) (hn : ∀ a, (args a).length = ps.length) (hN : N.length = ps.length + n)
    (hb : ∀ a, pre a → ∀ (cdv : Value) (A : Around) (outer : List Env) (s : Shared) (H : Hp) (E : XK), Room k (A.deeper (envOfC x (C8.fnScope st) s.heap.objs.size f cdv)) →
      ∃ t, PSs (cxOf CX0 P w K mg base N x (C8.fnScope st) f cdv A outer s H E).nox (C8.fnBody st) t ∧ Go ((args a).map Sl.pr ++ List.replicate n .no) t (Γ' a)) : C8.Cal P w K mg base (k + 1) x (spF args pre fun _ => D K .none) [] := by
  refine C8.cal0 F b .nil S (spF_len hn) fun cdv A outer s H vs Q E hr h => ?_
  obtain ⟨G, a, sm, e, hp, q⟩ := h
  obtain ⟨t, h1, h2⟩ := hb a hp cdv A outer s H E hr
  exact ⟨t, h1, h2 (L2.start N vs) G H (kn_start sm e (by rw [hN, hn])) { nx := fun _ H' => Q .non H', rt := Q } fun σ' G' H' m _ => q .non G' H' (m.toExt noOwn_start) .non⟩
end
end WF

/-! ## text L6 -/
set_option maxHeartbeats 1000000
namespace WF
open PySem PySem.Spec PyProof.Rows L2
/-! ### tracked tuples, dicts of one's own -/
def DT (K : PySem.W.Frag) (ds : List PyData) : Pr := ⟨fun G v => ∃ a vs, v = .ref a ∧ G a = some (.tup vs) ∧ DpAll K G vs ds, fun e ⟨a, vs, h1, h2, h3⟩ => ⟨a, vs, h1, e _ _ h2, dpAll_up e _ _ h3⟩⟩
theorem DT.dp {K : PySem.W.Frag} {G : Hp} {v : V} {ds : List PyData} (h : (DT K ds).p G v) : Dp K G v (.tuple ds) := by
  obtain ⟨a, vs, rfl, h2, h3⟩ := h
  exact .tup (.inl (.inl h2)) h3
/-- a dict with int keys -/
def oK (ns : List Int) : Ob := ⟨fun _ u => ∃ kvs : List (Key × V), u = .dK kvs ∧ kvs.map (·.1) = ns.map (fun n => (Sum.inl n : Key)), fun _ h => h, fun ⟨_, h, _⟩ _ e => by rw [h] at e; cases e⟩
/-- a dict with tuples of ints as keys -/
def oT (kss : List (List Int)) : Ob := ⟨fun _ u => ∃ kvs : List (List Key × V), u = .dT kvs ∧ kvs.map (·.1) = kss.map (fun ks => ks.map fun n => (Sum.inl n : Key)), fun _ h => h, fun ⟨_, h, _⟩ _ e => by rw [h] at e; cases e⟩
def addK {α : Type} [DecidableEq α] (ns : List α) (n : α) : List α := if n ∈ ns then ns else ns ++ [n]
section
variable {K : PySem.W.Frag} {Γ Γ1 Γ2 Γ3 Γ' : List Sl} {te ta tb tc ty tv : TE} {tt tu : TT} {P P1 P2 : Pr} {ts tr tz : TS} {tas : TA} {Ps : List Pr} {d d1 d2 : PyData} {O : Ob}
theorem ev_dt {ds : List PyData} (h : Ev Γ te (DT K ds) Γ') : Ev Γ te (D K (.tuple ds)) Γ' := h.imp fun _ _ p => DT.dp p
theorem ev_tupleOfT {ds : List PyData} (h : Ev Γ ta (D K (.list ds)) Γ1) : Ev Γ (tCB (fun xs H Q => ∃ p ys, xs = [V.ref p] ∧ ((SqL K H p ys ∧ ∀ l, H l = none → Q (.ref l) (upd H l (.tup ys))) ∨ (SqT K H p ys ∧ Q (.ref p) H))) (tCons ta tNil)) (DT K ds) Γ1 := fun σ G H k Q q =>
  h σ G H k _ fun x G1 H1 m1 k1 p1 => by
    obtain ⟨a, vs, rfl, h1, h2⟩ := dp_list p1
    refine ⟨a, vs, rfl, .inl ⟨k1.s.seq h1, fun p hp => ?_⟩⟩
    have e : Ext G1 H1 (upd G1 p (.tup vs)) (upd H1 p (.tup vs)) := .new k1.s hp
    exact q _ _ _ (m1.trans (.ext e)) (k1.ext e) ⟨p, vs, rfl, upd_same, dpAll_up e.g _ _ h2⟩
theorem any_keys {κ : Type} [DecidableEq κ] {kvs : List (κ × V)} {ns : List κ} (h : kvs.map (·.1) = ns) (n : κ) : (kvs.any fun kv => decide (kv.1 = n)) = decide (n ∈ ns) := by
  subst h
  induction kvs with
  | nil => rfl
  | cons kv kvs ih =>
    rw [List.any_cons, ih, List.map_cons]
    by_cases e : kv.1 = n
    · simp [e]
    · have e' : ¬ n = kv.1 := fun z => e z.symm
      simp [e, e']
theorem map_put {κ : Type} [DecidableEq κ] (n : κ) (v : V) : ∀ kvs : List (κ × V), (kvs.map fun kv => if kv.1 = n then (kv.1, v) else kv).map (·.1) = kvs.map (·.1)
  | [] => rfl
  | kv :: kvs => by
    have ih := map_put n v kvs
    show (if kv.1 = n then (kv.1, v) else kv).1 :: (kvs.map fun kv => if kv.1 = n then (kv.1, v) else kv).map (·.1) = kv.1 :: kvs.map (·.1)
    rw [ih]
    by_cases e : kv.1 = n
    · rw [if_pos e]
    · rw [if_neg e]
theorem put_keys {κ : Type} [DecidableEq κ] {kvs : List (κ × V)} {ns : List κ} (h : kvs.map (·.1) = ns) (n : κ) (v : V) : (putK kvs n v).map (·.1) = addK ns n := by
  unfold putK addK
  rw [any_keys h]
  by_cases e : n ∈ ns
  · rw [decide_eq_true e, if_pos rfl, if_pos e, map_put, h]
  · rw [decide_eq_false e, if_neg Bool.false_ne_true, if_neg e, List.map_append, h]
    rfl
theorem addK_map {α β : Type} [DecidableEq α] [DecidableEq β] (g : α → β) (hg : ∀ a b, g a = g b → a = b) (ns : List α) (n : α) : addK (ns.map g) (g n) = (addK ns n).map g := by
  unfold addK
  by_cases e : n ∈ ns
  · rw [if_pos e, if_pos (List.mem_map.mpr ⟨n, e, rfl⟩)]
  · rw [if_neg e, if_neg, List.map_append]
    · rfl
    · intro z
      obtain ⟨m, h1, h2⟩ := List.mem_map.mp z
      rw [hg _ _ h2] at h1
      exact e h1
/-- {n: True} -/
theorem en_disp {n : Int} {b : Bool} (h : Ev Γ ta (D K (.int n)) Γ) : EvN Γ (tDisp [(ta, tC (.bl b))]) (oK [n]) Γ := fun σ G H k Q q => by
  intro p hp
  have e : Ext G H G (upd H p (.dK [])) := .mut k.s hp
  refine h σ G (upd H p (.dK [])) (k.ext e) _ fun x G1 H1 m1 k1 p1 => ?_
  have hp1 : H1 p = some (.dK []) := m1.h p _ upd_same (k.noOwn hp)
  refine ⟨hp1, [(Sum.inl n, .bl b)], by rw [dp_int p1]; rfl, by show 1 ≤ 15; decide, ?_⟩
  have hg1 : G1 p = none := m1.f p (k.s.free hp) ⟨_, upd_same, fun _ e => nomatch e⟩ (k.noOwn hp)
  have m2 : Mv Γ G H Γ G1 (upd H1 p (.dK (mergeK [] [(Sum.inl n, .bl b)]))) := ((Mv.ext e).trans m1).upd hp hg1
  exact q p _ G1 _ m2 (k1.upd hg1 (k.noOwn hp)) hp upd_same hg1 ⟨_, rfl, rfl⟩ (k.noOwn hp)
/-- e not in d -/
theorem ev_notinK {i : Nat} {a : Addr} {ns : List Int} {n : Int} (h : Ev Γ ta (D K (.int n)) Γ1) (h1 : Γ1[i]? = some (.own a (oK ns))) : Ev Γ (tDNotIn ta (tVar i)) (D K (.bool (!decide (n ∈ ns)))) Γ1 := fun σ G H k Q q =>
  h σ G H k _ fun x G1 H1 m1 k1 p1 => by
    obtain ⟨e1, hg, u, hu, kvs, rfl, hk⟩ := k1.o i a _ h1
    refine ⟨.ref a, e1, a, _, rfl, (by rw [dp_int p1]; exact DGet.k (k := Sum.inl n) hu), ?_⟩
    have e : (valV kvs (Sum.inl n)).isSome = decide (n ∈ ns) := by
      rw [← valV_any, any_keys hk]
      apply decide_eq_decide.mpr
      constructor
      · intro z
        obtain ⟨m, z1, z2⟩ := List.mem_map.mp z
        cases z2
        exact z1
      · intro z
        exact List.mem_map.mpr ⟨n, z, rfl⟩
    rw [e]
    exact q _ G1 H1 m1 k1 (.bl _)
theorem inl_inj (a b : Int) (h : (Sum.inl a : Key) = Sum.inl b) : a = b := by cases h; rfl
/-- d[e] = v -/
theorem go_putK {i : Nat} {a : Addr} {ns : List Int} {n : Int} (hv : Ev Γ tv P Γ1) (h0 : Γ1[i]? = some (.own a (oK ns))) (hy : Ev Γ1 ty (D K (.int n)) Γ2) (h2 : Γ2[i]? = some (.own a (oK ns))) (hz : ns.length < 100000) : Go Γ (sDPut (tVar i) ty tv) (Γ2.set i (.own a (oK (addK ns n)))) := fun σ G H k E q =>
  hv σ G H k _ fun x G1 H1 m1 k1 p1 => by
    obtain ⟨e1, _⟩ := k1.o i a _ h0
    refine ⟨.ref a, e1, hy σ G1 H1 k1 _ fun y G2 H2 m2 k2 p2 => ?_⟩
    obtain ⟨_, hg, u, hu, kvs, rfl, hk⟩ := k2.o i a _ h2
    have hl : kvs.length = ns.length := by have := congrArg List.length hk; simpa using this
    refine ⟨a, _, rfl, (by rw [dp_int p2]; exact DPut.k (k := Sum.inl n) (v := x) hu (sz_lt (by rw [hl]; exact hz))), ?_⟩
    exact q σ G2 _ ((m1.trans m2).trans (.chg k2 h2)) (k2.chg h2 ⟨_, rfl, by rw [put_keys hk]; exact addK_map _ inl_inj ns n⟩)
theorem en_newT : EvN Γ tDNewT (oT []) Γ := fun σ G H k Q q p hp => by
  have e : Ext G H G (upd H p (.dT [])) := .mut k.s hp
  exact q p (.dT []) G _ (.ext e) (k.ext e) hp upd_same (k.s.free hp) ⟨[], rfl, rfl⟩ (k.noOwn hp)
theorem inls_inj : ∀ (a b : List Int), (a.map fun n => (Sum.inl n : Key)) = (b.map fun n => (Sum.inl n : Key)) → a = b
  | [], [], _ => rfl
  | [], _ :: _, h => by cases h
  | _ :: _, [], h => by cases h
  | x :: a, y :: b, h => by
    have h1 := (List.cons.inj h).1
    have h2 := inls_inj a b (List.cons.inj h).2
    cases h1
    rw [h2]
/-- d[t] = v, t a tuple of ints -/
theorem go_putT {i : Nat} {a : Addr} {kss : List (List Int)} {ns : List Int} (hv : Ev Γ tv P Γ1) (h0 : Γ1[i]? = some (.own a (oT kss))) (hy : Ev Γ1 ty (DT K (ns.map .int)) Γ2) (h2 : Γ2[i]? = some (.own a (oT kss))) (hz : kss.length < 100000) : Go Γ (sDPut (tVar i) ty tv) (Γ2.set i (.own a (oT (addK kss ns)))) := fun σ G H k E q =>
  hv σ G H k _ fun x G1 H1 m1 k1 p1 => by
    obtain ⟨e1, _⟩ := k1.o i a _ h0
    refine ⟨.ref a, e1, hy σ G1 H1 k1 _ fun y G2 H2 m2 k2 p2 => ?_⟩
    obtain ⟨_, hg, u, hu, kvs, rfl, hk⟩ := k2.o i a _ h2
    obtain ⟨b, vs, rfl, hb, hvs⟩ := p2
    have hl : kvs.length = kss.length := by have := congrArg List.length hk; simpa using this
    rw [dpAll_ints hvs, ← kV_ints] at hb
    refine ⟨a, _, rfl, DPut.t (v := x) hu (k2.s _ _ hb) (sz_lt (by rw [hl]; exact hz)), ?_⟩
    exact q σ G2 _ ((m1.trans m2).trans (.chg k2 h2)) (k2.chg h2 ⟨_, rfl, by rw [put_keys hk]; exact addK_map (fun ks : List Int => ks.map fun n => (Sum.inl n : Key)) inls_inj kss ns⟩)
/-- sorted(d) -/
theorem en_sortK {i : Nat} {a : Addr} {ns : List Int} (ms : List Int) (h : Γ[i]? = some (.own a (oK ns))) (hz : ns.length < 64) (hs : ∀ ys : List Int, ys.Perm ns → ys.Pairwise (· ≤ ·) → ys = ms) :
    EvN Γ (tCB (fun xs H Q => ∃ (a : Addr) (kvs : List (Key × V)) (ks : List Int), xs = [.ref a] ∧ Rd H a (.dK kvs) ∧ kvs.map (·.1) = ks.map Sum.inl ∧ ks.length < 64 ∧ ∀ (ys : List Int) (p : Addr), ys.Perm ks → ys.Pairwise (· ≤ ·) → H p = none → Q (.ref p) (upd H p (.lst (ys.map V.int)))) (tCons (tVar i) tNil)) (oL K (ms.map .int)) Γ := fun σ G H k Q q => by
  obtain ⟨e1, hg, u, hu, kvs, rfl, hk⟩ := k.o i a _ h
  refine ⟨.ref a, e1, a, kvs, ns, rfl, .inl hu, hk, hz, fun ys p h1 h2 hp => ?_⟩
  rw [hs ys h1 h2]
  exact en_of (O := oL K (ms.map .int)) (.refl k.s) k ⟨_, rfl, dpAll_int ms⟩ q p hp
/-- all tuples that stand are known -/
def upT (G H : Hp) : Hp := fun b => match G b with
  | some o => some o
  | none => match H b with
    | some (.tup xs) => some (.tup xs)
    | _ => none
theorem upT_g {G H : Hp} : Same G (upT G H) := fun b o e => by
  unfold upT
  rw [e]
theorem upT_s {G H : Hp} (s : Same G H) : Same (upT G H) H := fun b o e => by
  unfold upT at e
  cases g : G b with
  | some u =>
    rw [g] at e
    cases e
    exact s b _ g
  | none =>
    rw [g] at e
    dsimp only at e
    cases h : H b with
    | none => rw [h] at e; cases e
    | some u =>
      rw [h] at e
      cases u <;> first | (cases e; rfl) | cases e
theorem upT_t {G H : Hp} {b : Addr} {xs : List V} (s : Same G H) (h : H b = some (.tup xs)) : upT G H b = some (.tup xs) := by
  unfold upT
  cases g : G b with
  | some u =>
    have := s b u g
    rw [h] at this
    exact this.symm
  | none =>
    dsimp only
    rw [h]
theorem upT_f {G H : Hp} {b : Addr} (g : G b = none) (n : NT H b) : upT G H b = none := by
  unfold upT
  rw [g]
  dsimp only
  obtain ⟨u, hu, ht⟩ := n
  rw [hu]
  cases u <;> first | rfl | exact absurd rfl (ht _)
theorem Ext.upT {G H : Hp} (s : Same G H) : Ext G H (upT G H) H := ⟨upT_g, Same.refl H, upT_s s, fun p g n => upT_f g n⟩
theorem en_sortT {i : Nat} {a : Addr} {kss : List (List Int)} (h : Γ[i]? = some (.own a (oT kss))) (hz : ∀ ks ∈ kss, ks ≠ []) : EvN Γ (tCB (rSortDT K) (tCons (tVar i) tNil)) (oL K ((kss.mergeSort (PySem.W.dataLe false tI)).map tI)) Γ := fun σ G H k Q q => by
  obtain ⟨e1, hg, u, hu, kvs, rfl, hk⟩ := k.o i a _ h
  have e := Ext.upT k.s
  refine ⟨.ref a, e1, upT G H, a, kvs, kss, upT_s k.s, rfl, .inl hu, hk, hz, fun b xs hb => upT_t k.s hb, fun vs p h1 hp => ?_⟩
  exact en_of (O := oL K ((kss.mergeSort (PySem.W.dataLe false tI)).map tI)) (.ext e) (k.ext e) ⟨_, rfl, h1⟩ q p hp
end
end WF

/-! ## text L6b -/
set_option maxHeartbeats 1000000
namespace WF
open PySem PySem.Spec PyProof.Rows L2
section
variable {K : PySem.W.Frag} {Γ Γ1 Γ2 Γ3 Γ' : List Sl} {te ta tb tc ty tv : TE} {tt tu : TT} {P P1 P2 : Pr} {ts tr tz tw : TS} {tas : TA} {Ps : List Pr} {d d1 d2 d3 : PyData} {O : Ob} {g : TG}
/-! ### sorted -/
theorem sort_map {β : Type} (enc : β → PyData) (xs : List β) : (xs.map enc).mergeSort (PySem.W.dataLe false id) = (xs.mergeSort (PySem.W.dataLe false enc)).map enc := by
  symm
  apply List.map_mergeSort
  intro a _ b _
  rfl
theorem en_sort {β : Type} {enc : β → PyData} {xs : List β} (h : Ev Γ ta (D K (.list (xs.map enc))) Γ1) (hal : ∀ b b', PySem.W.alike (enc b) (enc b') = true) (hs : (∀ b ∈ xs, ∃ x r, enc b = .tuple (x :: r)) ∨ ∀ b ∈ xs, enc b ≠ .none ∧ ∀ ys, enc b ≠ .tuple ys) (hd : ∀ b ∈ xs, (enc b).depth ≤ 60) :
    EvN Γ (tCB (rSort K) (tCons ta tNil)) (oL K ((xs.mergeSort (PySem.W.dataLe false enc)).map enc)) Γ1 := fun σ G H k Q q =>
  h σ G H k _ fun x G1 H1 m1 k1 p1 => by
    obtain ⟨a, vs, rfl, h1, h2⟩ := dp_list p1
    refine ⟨G1, a, xs.map enc, k1.s, rfl, .lst h1 h2, PySem.W.AllAlike.of hal, ?_, ?_, fun vs p hv hp => ?_⟩
    · rcases hs with hs | hs
      · refine .inl fun d hd => ?_
        obtain ⟨b, hb, rfl⟩ := List.mem_map.mp hd
        exact hs b hb
      · refine .inr fun d hd => ?_
        obtain ⟨b, hb, rfl⟩ := List.mem_map.mp hd
        exact hs b hb
    · intro d hd'
      obtain ⟨b, hb, rfl⟩ := List.mem_map.mp hd'
      exact hd b hb
    · rw [sort_map] at hv
      exact en_of (O := oL K ((xs.mergeSort (PySem.W.dataLe false enc)).map enc)) m1 k1 ⟨_, rfl, hv⟩ q p hp
/-- sorted(xs, key=f) -/
theorem en_sortKey {Pg : Program} {w : World} {mg : Str → Option Value} {base : Heap} {j : Nat} {fS : Addr} {ls : List (List Int)} (zk : SzOk Pg w K mg base j fS) (h : Ev Γ ta (D K (.list (ls.map tI))) Γ1) :
    EvN Γ (tCKw (rSortK Pg w K mg base j) (tCons ta tNil) (tCons (tC (.ref fS)) tNil)) (oL K ((ls.mergeSort (PySem.W.dataLe false szKey)).map tI)) Γ1 := fun σ G H k Q q =>
  h σ G H k _ fun x G1 H1 m1 k1 p1 => by
    obtain ⟨a, vs, rfl, h1, h2⟩ := dp_list p1
    exact ⟨G1, a, fS, ls, k1.s, rfl, rfl, zk, .lst h1 h2, fun xs p hv hp => en_of (O := oL K ((ls.mergeSort (PySem.W.dataLe false szKey)).map tI)) m1 k1 ⟨_, rfl, hv⟩ q p hp⟩
/-! ### isinstance -/
def tyD : PyData → Value
  | .none => .type "NoneType"
  | .bool _ => .type "bool"
  | .int _ => .type "int"
  | .str _ => .type "str"
  | .list _ => .type "list"
  | .tuple _ => .type "tuple"
  | .dict _ => .type "dict"
theorem tyx_of {H : Hp} : ∀ {d : PyData} {v : V}, Dp K H v d → TyX K H v (tyD d)
  | .none, _, h => by cases h; exact .base .non
  | .bool b, _, h => by cases h; exact .base (.bl b)
  | .int i, _, h => by cases h; exact .base (.int i)
  | .str z, _, h => by cases h; exact .base (.str z)
  | .list _, _, h => by
    cases h with
    | lst hs _ =>
      rcases hs with (hs | ⟨o, hs⟩) | ⟨o, its, n, hk, hc, _⟩
      · exact .base (.lst hs)
      · exact .base (.frz hs)
      · exact .kList hk hc
  | .tuple _, _, h => by
    cases h with
    | tup hs _ =>
      rcases hs with (hs | ⟨o, hs⟩) | ⟨o, its, n, hk, hc, _⟩
      · exact .base (.tup hs)
      · exact .fTuple hs
      · exact .kTuple hk hc
  | .dict _, _, h => by cases h
theorem ev_isi {n : String} {b : Bool} (h : Ev Γ ta (D K d) Γ1) (hk : PySem.W.kitOne K (tyD d) (.type n) = some b) : Ev Γ (tCB (rIsi K) (tCons ta (tCons (tC (.ty n)) tNil))) (D K (.bool b)) Γ1 := fun σ G H k Q q =>
  h σ G H k _ fun x G1 H1 m1 k1 p1 => ⟨x, .ty n, tyD d, .type n, b, rfl, .ty n, tyx_of (dp_up k1.s _ _ p1), hk, q _ G1 H1 m1 k1 (.bl b)⟩
theorem ev_isiT2 {n1 n2 : String} {b : Bool} (h : Ev Γ ta (D K d) Γ1) (hk : PySem.W.kitAny K (tyD d) [.type n1, .type n2] = some b) : Ev Γ (tCB (rIsiT K) (tCons ta (tCons (tTup (tCons (tC (.ty n1)) (tCons (tC (.ty n2)) tNil))) tNil))) (D K (.bool b)) Γ1 := fun σ G H k Q q =>
  h σ G H k _ fun x G1 H1 m1 k1 p1 => ⟨by show 2 ≤ sizeLine; decide, fun p hp => by
    have e : Ext G1 H1 (upd G1 p (.tup [.ty n1, .ty n2])) (upd H1 p (.tup [.ty n1, .ty n2])) := .new k1.s hp
    exact ⟨x, p, [.ty n1, .ty n2], tyD d, [.type n1, .type n2], b, rfl, upd_same, .cons (.ty _) (.cons (.ty _) .nil), tyx_of (dp_up (k1.s.trans e.h) _ _ p1), hk, q _ _ _ (m1.trans (.ext e)) (k1.ext e) (.bl b)⟩⟩
theorem kit_int_int : PySem.W.kitOne K (.type "int") (.type "int") = some true := rfl
theorem kit_int_bool : PySem.W.kitOne K (.type "int") (.type "bool") = some false := by kernel_rfl
/-! ### is None, -, //, ** -/
theorem ev_isN (h : Ev Γ ta (D K d) Γ1) : Ev Γ (tOp (fun x y H Q => y = .non ∧ Q (.bl (decide (x = .non))) H) ta (tC .non)) (D K (.bool (match d with | .none => true | _ => false))) Γ1 := fun σ G H k Q q =>
  h σ G H k _ fun x G1 H1 m1 k1 p1 => ⟨rfl, by
    cases d with
    | none => cases dp_none p1; exact q _ G1 H1 m1 k1 (.bl _)
    | bool b => cases dp_bool p1; exact q _ G1 H1 m1 k1 (.bl _)
    | int b => cases dp_int p1; exact q _ G1 H1 m1 k1 (.bl _)
    | str b => cases dp_str p1; exact q _ G1 H1 m1 k1 (.bl _)
    | list b => obtain ⟨a, vs, rfl, _⟩ := dp_list p1; exact q _ G1 H1 m1 k1 (.bl _)
    | tuple b => obtain ⟨a, vs, rfl, _⟩ := dp_tup p1; exact q _ G1 H1 m1 k1 (.bl _)
    | dict b => cases p1⟩
theorem ev_notN (h : Ev Γ ta (D K d) Γ1) : Ev Γ (tOp (fun x y H Q => y = .non ∧ Q (.bl (!decide (x = .non))) H) ta (tC .non)) (D K (.bool (match d with | .none => false | _ => true))) Γ1 := fun σ G H k Q q =>
  h σ G H k _ fun x G1 H1 m1 k1 p1 => ⟨rfl, by
    cases d with
    | none => cases dp_none p1; exact q _ G1 H1 m1 k1 (.bl _)
    | bool b => cases dp_bool p1; exact q _ G1 H1 m1 k1 (.bl _)
    | int b => cases dp_int p1; exact q _ G1 H1 m1 k1 (.bl _)
    | str b => cases dp_str p1; exact q _ G1 H1 m1 k1 (.bl _)
    | list b => obtain ⟨a, vs, rfl, _⟩ := dp_list p1; exact q _ G1 H1 m1 k1 (.bl _)
    | tuple b => obtain ⟨a, vs, rfl, _⟩ := dp_tup p1; exact q _ G1 H1 m1 k1 (.bl _)
    | dict b => cases p1⟩
theorem ev_neg {i : Int} (h : Ev Γ ta (D K (.int i)) Γ1) : Ev Γ (tUn (rU fun i => .int (-i)) ta) (D K (.int (-i))) Γ1 := fun σ G H k Q q =>
  h σ G H k _ fun x G1 H1 m1 k1 p1 => ⟨i, dp_int p1, q _ G1 H1 m1 k1 (.int _)⟩
theorem ev_fdiv {i j : Int} (ha : Ev Γ ta (D K (.int i)) Γ1) (hb : Ev Γ1 tb (D K (.int j)) Γ2) (hc : CDiv i j) : Ev Γ (tOp (rI CDiv fun i j => .int (i / j)) ta tb) (D K (.int (i / j))) Γ2 :=
  ev_two0 ha hb fun x y G H _ p1 p2 Q q => ⟨i, j, dp_int p1, dp_int p2, hc, q _ (.int _)⟩
theorem ev_pow {i j : Int} (ha : Ev Γ ta (D K (.int i)) Γ1) (hb : Ev Γ1 tb (D K (.int j)) Γ2) (hc : CPow i j) : Ev Γ (tOp (rI CPow fun i j => .int (i ^ j.toNat)) ta tb) (D K (.int (i ^ j.toNat))) Γ2 :=
  ev_two0 ha hb fun x y G H _ p1 p2 Q q => ⟨i, j, dp_int p1, dp_int p2, hc, q _ (.int _)⟩
/-! ### text[i].replace(..), join -/
theorem ev_repIf {z : Str} {n : Int} {c : Nat} {b : Bool} {y z1 z2 : Str} (ha : Ev Γ ta (D K (.str z)) Γ1) (hb : Ev Γ1 tb (D K (.int n)) Γ2) (hz : z.length ≤ 100000) (hc : atI z.cps.toList n = some c) (hl : (Txt.replace ⟨#[c]⟩ y z1).length ≤ 100) (ht : Et Γ2 tt b Γ3) :
    Ev Γ (tRepIf ta tb tt y z1 z2) (D K (.str (Txt.replace ⟨#[c]⟩ y (if b then z1 else z2)))) Γ3 := fun σ G H k Q q =>
  ha σ G H k _ fun x G1 H1 m1 k1 p1 => hb σ G1 H1 k1 _ fun i G2 H2 m2 k2 p2 => ⟨z, n, c, dp_str p1, dp_int p2, sz_of hz, hc, hl, ht σ G2 H2 k2 _ fun G3 H3 m3 k3 => q _ G3 H3 ((m1.trans m2).trans m3) k3 (.str _)⟩
theorem ev_join {z : Str} {zs : List Str} (ha : Ev Γ ta (D K (.str z)) Γ1) (hb : Ev Γ1 tb (D K (.list (zs.map .str))) Γ2) (hz : (zs.map (·.length)).sum + zs.length * z.length ≤ 100000) :
    Ev Γ (tM1 (fun x xs H Q => ∃ a p, ∃ ys : List Str, x = .str a ∧ xs = [.ref p] ∧ (SqL K H p (ys.map V.str) ∨ SqT K H p (ys.map V.str)) ∧ (ys.map (·.length)).sum + ys.length * a.length ≤ 16777216 ∧ Q (.str (Txt.join a ys)) H) ta tb) (D K (.str (Txt.join z zs))) Γ2 := fun σ G H k Q q =>
  ha σ G H k _ fun x G1 H1 m1 k1 p1 => ⟨⟨z, dp_str p1⟩, hb σ G1 H1 k1 _ fun y G2 H2 m2 k2 p2 => by
    obtain ⟨a, vs, rfl, h1, h2⟩ := dp_list p2
    rw [dpAll_strs h2] at h1
    exact ⟨z, a, zs, dp_str p1, rfl, .inl (k2.s.seq h1), by omega, q _ G2 H2 (m1.trans m2) k2 (.str _)⟩⟩
/-! ### targets -/
theorem tg_triple {j l m : Nat} (hj : j < Γ.length) (hl : l < Γ.length) (hm : m < Γ.length) (h : Go (((Γ.set j (.pr (D K d1))).set l (.pr (D K d2))).set m (.pr (D K d3))) tw Γ') : Tg Γ (gTup K 3 (gCons (gName j) (gCons (gName l) (gCons (gName m) gNil)))) (D K (.tuple [d1, d2, d3])) tw Γ' := fun σ G H x k p E q => by
  obtain ⟨a, xs, rfl, h1, h2⟩ := dp_tup p
  have hv := dpAll_len h2
  refine ⟨a, xs, rfl, sqT_up k.s h1, by rw [hv]; rfl, ?_⟩
  cases h2 with
  | cons q1 h2 =>
    cases h2 with
    | cons q2 h2 =>
      cases h2 with
      | cons q3 h2 =>
        cases h2
        refine ⟨_, _, rfl, _, _, rfl, _, _, rfl, rfl, ?_⟩
        exact h _ G H (((k.put hj q1).put (by rw [List.length_set]; exact hl) q2).put (by rw [List.length_set, List.length_set]; exact hm) q3) E fun σ' G' H' m' k' => q σ' G' H' (m'.wk0 fun p z => own_set p (own_set p (own_set p z))) k'
theorem go_asgT {X : Pr} (h : Ev Γ te X Γ1) (ht : Tg Γ1 g X tNext Γ') : Go Γ (tAsg te g) Γ' := fun σ G H k E q =>
  h σ G H k _ fun x G1 H1 m1 k1 p1 => ht σ G1 H1 x k1 p1 E fun σ2 G2 H2 m2 k2 => q σ2 G2 H2 (m1.trans m2) k2
/-! ### chains of int comparisons -/
theorem rI0_go {f : Int → Int → V} {i j : Int} : ∀ x y G H, Same G H → (D K (.int i)).p G x → (D K (.int j)).p G y → ∀ Q : VK, Q (f i j) H → rI0 f x y H Q := fun x y G H _ p1 p2 Q q => ⟨i, j, dp_int p1, dp_int p2, q⟩
theorem ev_chLeLe {i j l : Int} (h1 : Ev Γ ta (D K (.int i)) Γ1) (h2 : Ev Γ1 tb (D K (.int j)) Γ2) (h3 : Ev Γ2 tc (D K (.int l)) Γ2) :
    Ev Γ (tChain (rI0 fun i j => .bl (decide (i ≤ j))) (rI0 fun i j => .bl (decide (i ≤ j))) ta tb tc) (D K (.bool (decide (i ≤ j) && decide (j ≤ l)))) Γ2 := ev_chain h1 h2 (rI0_go (K := K) (f := fun i j => .bl (decide (i ≤ j)))) (fun _ => h3) fun _ => rI0_go (K := K) (f := fun i j => .bl (decide (i ≤ j)))
theorem ev_chLtLe {i j l : Int} (h1 : Ev Γ ta (D K (.int i)) Γ1) (h2 : Ev Γ1 tb (D K (.int j)) Γ2) (h3 : Ev Γ2 tc (D K (.int l)) Γ2) :
    Ev Γ (tChain (rI0 fun i j => .bl (decide (i < j))) (rI0 fun i j => .bl (decide (i ≤ j))) ta tb tc) (D K (.bool (decide (i < j) && decide (j ≤ l)))) Γ2 := ev_chain h1 h2 (rI0_go (K := K) (f := fun i j => .bl (decide (i < j)))) (fun _ => h3) fun _ => rI0_go (K := K) (f := fun i j => .bl (decide (i ≤ j)))
end
end WF

/-! ## text L6c -/
set_option maxHeartbeats 1000000
namespace WF
open PySem PySem.Spec PyProof.Rows L2
/-! ### a def whose first argument is an object of its own that it changes -/
def spR {α : Type} (O0 : α → Ob) (args : α → List Pr) (pre : α → Prop) (O1 : α → Ob) (r : α → Pr) : Sp := fun vs H Q _ => ∃ (G : Hp) (a : α) (x : Addr) (ws : List V), vs = V.ref x :: ws ∧ Same G H ∧ G x = none ∧ (∃ u, H x = some u ∧ (O0 a).o G u) ∧ Each (args a) G ws ∧ pre a ∧
  ∀ v G' H', Mv [.own x (O0 a)] G H [.own x (O1 a)] G' H' → G' x = none → (∃ u, H' x = some u ∧ (O1 a).o G' u) → (r a).p G' v → Q v H'
theorem spR_len {α : Type} {O0 O1 : α → Ob} {args : α → List Pr} {pre : α → Prop} {r : α → Pr} {n : Nat} (hn : ∀ a, (args a).length + 1 = n) (vs : List V) (H : Hp) (Q : VK) (E : XK) (h : spR O0 args pre O1 r vs H Q E) : vs.length = n := by
  obtain ⟨G, a, x, ws, rfl, s, hx, hu, e, _⟩ := h
  rw [List.length_cons, e.len, hn]
theorem own_one {x p : Addr} {O : Ob} : Own [.own x O] p ↔ p = x := by
  constructor
  · rintro ⟨i, O', h⟩
    cases i with
    | zero => cases h; rfl
    | succ i => simp at h
  · rintro rfl
    exact ⟨0, O, rfl⟩
theorem startR_get {Ps : List Pr} {x : Addr} {O : Ob} {n i : Nat} {s : Sl} (h : (Sl.own x O :: (Ps.map Sl.pr ++ List.replicate n .no))[i]? = some s) : (i = 0 ∧ s = .own x O) ∨ s = .no ∨ ∃ P j, i = j + 1 ∧ s = .pr P ∧ Ps[j]? = some P := by
  cases i with
  | zero => cases h; exact .inl ⟨rfl, rfl⟩
  | succ i =>
    have h : (Ps.map Sl.pr ++ List.replicate n .no)[i]? = some s := h
    by_cases hi : i < Ps.length
    · rw [List.getElem?_append_left (by rw [List.length_map]; exact hi), List.getElem?_map, List.getElem?_eq_getElem hi] at h
      cases h
      exact .inr (.inr ⟨_, i, rfl, rfl, by simp [hi]⟩)
    · rw [List.getElem?_append_right (by rw [List.length_map]; omega)] at h
      exact .inr (.inl (List.eq_of_mem_replicate (List.mem_of_getElem? h)))
theorem kn_startR {Ps : List Pr} {ws : List V} {G H : Hp} {N : List Str} {n : Nat} {x : Addr} {O : Ob} (s : Same G H) (hx : G x = none) (hu : ∃ u, H x = some u ∧ O.o G u) (e : Each Ps G ws) (hN : N.length = Ps.length + 1 + n) :
    Kn (Sl.own x O :: (Ps.map Sl.pr ++ List.replicate n .no)) (L2.start N (.ref x :: ws)) G H := by
  have hl := e.len
  have hst : L2.start N (V.ref x :: ws) = some (V.ref x) :: (ws.map some ++ List.replicate n none) := by
    unfold L2.start
    rw [List.length_cons, hl, hN, Nat.add_sub_cancel_left]
    rfl
  rw [hst]
  refine ⟨by simp [hl], s, fun i P h => ?_, fun i a O' h => ?_, fun i j a O1 O2 h h' => ?_⟩
  · rcases startR_get h with ⟨_, z⟩ | z | ⟨P', j, rfl, z, w⟩
    · cases z
    · cases z
    · cases z
      obtain ⟨v, e1, e2⟩ := e.get w
      refine ⟨v, ?_, e2⟩
      have hv := (List.getElem?_eq_some_iff.mp e1).1
      show (ws.map some ++ List.replicate n none)[j]? = _
      rw [List.getElem?_append_left (by rw [List.length_map]; exact hv), List.getElem?_map, e1]
      rfl
  · rcases startR_get h with ⟨rfl, z⟩ | z | ⟨P', j, rfl, z, w⟩
    · cases z
      exact ⟨rfl, hx, hu⟩
    · cases z
    · cases z
  · rcases startR_get h with ⟨rfl, z⟩ | z | ⟨P', j, rfl, z, w⟩
    · rcases startR_get h' with ⟨rfl, z'⟩ | z' | ⟨P', j, rfl, z', w⟩
      · rfl
      · cases z'
      · cases z'
    · cases z
    · cases z
theorem own_startR {Ps : List Pr} {x : Addr} {O : Ob} {n : Nat} (p : Addr) (h : Own (Sl.own x O :: (Ps.map Sl.pr ++ List.replicate n .no)) p) : Own [Sl.own x O] p := by
  obtain ⟨i, O', h⟩ := h
  rcases startR_get h with ⟨rfl, z⟩ | z | ⟨P', j, rfl, z, w⟩
  · cases z; exact ⟨0, O, rfl⟩
  · cases z
  · cases z
section
variable {P : Program} {w : World} {K : PySem.W.Frag} {mg : Str → Option Value} {base : Heap} {α : Type} {args : α → List Pr} {pre : α → Prop} {r : α → Pr} {O0 O1 : α → Ob} {x : Str} {st : Stmt} {f : Addr} {fd : FuncData} {N ps : List Str} {k : Nat}
theorem fin_R {a : α} {y : Addr} {n : Nat} {ws : List V} {G H : Hp} {t : TS} {Q : VK} (s : Same G H) (hx : G y = none) (hu : ∃ u, H y = some u ∧ (O0 a).o G u) (e : Each (args a) G ws) (hN : N.length = (args a).length + 1 + n)
    (ht : Rt (Sl.own y (O0 a) :: ((args a).map Sl.pr ++ List.replicate n .no)) t (r a) [.own y (O1 a)])
    (q : ∀ v G' H', Mv [.own y (O0 a)] G H [.own y (O1 a)] G' H' → G' y = none → (∃ u, H' y = some u ∧ (O1 a).o G' u) → (r a).p G' v → Q v H') : t { nx := fun _ H' => Q .non H', rt := Q } (L2.start N (.ref y :: ws)) H :=
  ht (L2.start N (.ref y :: ws)) G H (kn_startR s hx hu e hN) { nx := fun _ H' => Q .non H', rt := Q } fun v σ' G' H' m k' p => by
    obtain ⟨_, g1, g2⟩ := k'.o 0 y (O1 a) rfl
    exact q v G' H' (m.wk0 own_startR) g1 g2 p
theorem fin_RG {a : α} {y : Addr} {n : Nat} {ws : List V} {G H : Hp} {t : TS} {Q : VK} {Γ' : List Sl} (s : Same G H) (hx : G y = none) (hu : ∃ u, H y = some u ∧ (O0 a).o G u) (e : Each (args a) G ws) (hN : N.length = (args a).length + 1 + n)
    (ht : Go (Sl.own y (O0 a) :: ((args a).map Sl.pr ++ List.replicate n .no)) t Γ') (hw : Wk Γ' [.own y (O1 a)])
    (q : ∀ v G' H', Mv [.own y (O0 a)] G H [.own y (O1 a)] G' H' → G' y = none → (∃ u, H' y = some u ∧ (O1 a).o G' u) → (D K .none).p G' v → Q v H') : t { nx := fun _ H' => Q .non H', rt := Q } (L2.start N (.ref y :: ws)) H :=
  (ht.wk hw) (L2.start N (.ref y :: ws)) G H (kn_startR s hx hu e hN) { nx := fun _ H' => Q .non H', rt := Q } fun σ' G' H' m k' => by
    obtain ⟨_, g1, g2⟩ := k'.o 0 y (O1 a) rfl
    exact q .non G' H' (m.wk0 own_startR) g1 g2 .non
theorem cal_R {n : Nat} (F : C8.Def K mg x st f fd) (b : Binds K fd ps []) (S : FnScope N ps (C8.fnScope st)) (hn : ∀ a, (args a).length + 1 = ps.length) (hN : N.length = ps.length + n)
    (hb : ∀ (cdv : Value) (A : Around) (outer : List Env) (s : Shared) (H : Hp) (E : XK), Room k (A.deeper (envOfC x (C8.fnScope st) s.heap.objs.size f cdv)) →
      ∃ t, PSs (cxOf CX0 P w K mg base N x (C8.fnScope st) f cdv A outer s H E).nox (C8.fnBody st) t ∧ ∀ a, pre a → ∀ y, Rt (Sl.own y (O0 a) :: ((args a).map Sl.pr ++ List.replicate n .no)) t (r a) [.own y (O1 a)]) : C8.Cal P w K mg base (k + 1) x (spR O0 args pre O1 r) [] := by
  refine C8.cal0 F b .nil S (spR_len hn) fun cdv A outer s H vs Q E hr h => ?_
  obtain ⟨t, h1, h2⟩ := hb cdv A outer s H E hr
  refine ⟨t, h1, ?_⟩
  obtain ⟨G, a, y, ws, rfl, sm, hx, hu, e, hp, q⟩ := h
  exact fin_R (O0 := O0) (O1 := O1) (args := args) sm hx hu e (by rw [hN, ← hn a]) (h2 a hp y) q
theorem mak_R {qual : Str} {C : Addr} {n : Nat} {Γ' : α → Addr → List Sl} (M : Mk K C f) (hm : mg x = some (.ref C)) (F : C8.Fun K "__init__" qual st f fd) (b : Binds K fd ps []) (S : FnScope N ps (C8.fnScope st)) (hn : ∀ a, (args a).length + 1 = ps.length) (hN : N.length = ps.length + n)
    (hw : ∀ a y, Wk (Γ' a y) [.own y (O1 a)])
    (hb : ∀ (cdv : Value) (A : Around) (outer : List Env) (s : Shared) (H : Hp) (E : XK), Room k (A.deeper (envOfC qual (C8.fnScope st) s.heap.objs.size f cdv)) →
      ∃ t, PSs (cxOf CX0 P w K mg base N qual (C8.fnScope st) f cdv A outer s H E).nox (C8.fnBody st) t ∧ ∀ a, pre a → ∀ y, Go (Sl.own y (O0 a) :: ((args a).map Sl.pr ++ List.replicate n .no)) t (Γ' a y)) : C8.Mak P w K mg base (k + 1) x C (spR O0 args pre O1 fun _ => D K .none) [] := by
  refine C8.mak0 M hm F b .nil S (spR_len hn) fun cdv A outer s H vs Q E hr h => ?_
  obtain ⟨t, h1, h2⟩ := hb cdv A outer s H E hr
  refine ⟨t, h1, ?_⟩
  obtain ⟨G, a, y, ws, rfl, sm, hx, hu, e, hp, q⟩ := h
  exact fin_RG (O0 := O0) (O1 := O1) (args := args) sm hx hu e (by rw [hN, ← hn a]) (h2 a hp y) (hw a y) q
end
/-! ### calls of such defs -/
section
variable {K : PySem.W.Frag} {Γ Γ1 Γ2 Γ3 Γ' : List Sl} {te ta tb tc ty tv : TE} {tt tu : TT} {P P1 P2 : Pr} {ts tr tz tw : TS} {tas : TA} {Ps : List Pr} {d d1 d2 d3 : PyData} {O : Ob} {g : TG}
theorem ev_callR {α : Type} {O0 O1 : α → Ob} {args : α → List Pr} {pre : α → Prop} {r : α → Pr} {E : XK} {i : Nat} {y : Addr} {Ox : Ob} (a : α) (h0 : Γ[i]? = some (.own y Ox)) (h : EvA Γ tas (args a) Γ1) (h1 : Γ1[i]? = some (.own y (O0 a))) (hp : pre a) :
    Ev Γ (tCall (spR O0 args pre O1 r) [] E (tCons (tVar i) tas)) (r a) (Γ1.set i (.own y (O1 a))) := fun σ G H k Q q => by
  obtain ⟨e1, _⟩ := k.o i y _ h0
  refine ⟨.ref y, e1, h σ G H k _ fun vs G1 H1 m1 k1 p1 => ?_⟩
  obtain ⟨e2, g1, u, hu, ho⟩ := k1.o i y _ h1
  have hi : i < Γ1.length := (List.getElem?_eq_some_iff.mp h1).1
  refine ⟨G1, a, y, vs, by rw [List.append_nil], k1.s, g1, ⟨u, hu, ho⟩, p1, hp, fun v G2 H2 m2 gy ⟨u2, hu2, ho2⟩ pv => ?_⟩
  have mm : Mv Γ1 G1 H1 (Γ1.set i (.own y (O1 a))) G2 H2 := by
    have m3 : Mv Γ1 G1 H1 [.own y (O1 a)] G2 H2 := m2.wk0 fun p z => by rw [own_one.mp z]; exact ⟨i, _, h1⟩
    exact ⟨m3.g, m3.h, m3.n, m3.s, m3.f, fun p z => .inl (own_chg h1 p z)⟩
  refine q v G2 H2 (m1.trans mm) ⟨by rw [List.length_set]; exact k1.l, m2.s, fun j P z => ?_, fun j b O z => ?_, fun j j' b O O' z z' => ?_⟩ pv
  · rcases get_set _ z with ⟨_, z⟩ | ⟨_, z⟩
    · cases z
    · obtain ⟨v, q1, q2⟩ := k1.p j P z
      exact ⟨v, q1, P.up m2.g q2⟩
  · rcases get_set _ z with ⟨ej, w⟩ | ⟨hj, w⟩
    · subst ej
      cases w
      exact ⟨e2, gy, u2, hu2, ho2⟩
    · obtain ⟨q1, q2, u3, q3, q4⟩ := k1.o j b O w
      have hb : ¬ Own [Sl.own y (O0 a)] b := fun z2 => hj (by
        have e9 := own_one.mp z2
        subst e9
        exact k1.d j i _ _ _ w h1)
      exact ⟨q1, m2.f b q2 ⟨u3, q3, O.nt q4⟩ hb, u3, m2.h b u3 q3 hb, O.up m2.g q4⟩
  · have z1 : ∃ O, Γ1[j]? = some (.own b O) := by
      rcases get_set _ z with ⟨ej, w⟩ | ⟨hj, w⟩
      · subst ej; cases w; exact ⟨_, h1⟩
      · exact ⟨_, w⟩
    have z2 : ∃ O, Γ1[j']? = some (.own b O) := by
      rcases get_set _ z' with ⟨ej, w⟩ | ⟨hj, w⟩
      · subst ej; cases w; exact ⟨_, h1⟩
      · exact ⟨_, w⟩
    obtain ⟨O3, z1⟩ := z1
    obtain ⟨O4, z2⟩ := z2
    exact k1.d j j' b O3 O4 z1 z2
/-! ### boards -/
/-- a new board -/
def oI (C : Addr) : Ob := ⟨fun _ u => ∃ dx, u = .ins C dx [], fun _ h => h, fun ⟨_, h⟩ _ e => by rw [h] at e; cases e⟩
def oB (K : PySem.W.Frag) (C : Addr) (d : PyData) : Ob := ⟨fun G u => ∃ dx v, u = .ins C dx [("table", v)] ∧ Dp K G v d, fun e ⟨dx, v, h, q⟩ => ⟨dx, v, h, dp_up e _ _ q⟩, fun ⟨_, _, h, _⟩ _ e => by rw [h] at e; cases e⟩
/-- a board with these cells -/
def Br (K : PySem.W.Frag) (C : Addr) (cs : List (List Nat)) : Pr := ⟨fun G v => ∃ a dx y, v = .ref a ∧ G a = some (.ins C dx [("table", y)]) ∧ Dp K G y (eC cs), fun e ⟨a, dx, y, h1, h2, h3⟩ => ⟨a, dx, y, h1, e _ _ h2, dp_up e _ _ h3⟩⟩
abbrev spBoard (K : PySem.W.Frag) (C : Addr) (pre : List (List Nat) → Prop) : Sp := spR (α := List (List Nat)) (fun _ => oI C) (fun cs => [D K (eC cs)]) pre (fun cs => oB K C (eC cs)) (fun _ => D K .none)
theorem ev_board {C : Addr} {E : XK} {pre : List (List Nat) → Prop} {cs : List (List Nat)} (h : Ev Γ ta (D K (eC cs)) Γ1) (hp : pre cs) : Ev Γ (tMake C (spBoard K C pre) [] E (tCons ta tNil)) (Br K C cs) Γ1 := fun σ G H k Q q =>
  h σ G H k _ fun v G1 H1 m1 k1 p1 => fun x dx hx hdx hne => by
    have e1 : Ext G1 H1 G1 (upd H1 dx (.own x)) := .mut k1.s hdx
    have hx' : upd H1 dx (.own x) x = none := by rw [upd_ne (Ne.symm hne)]; exact hx
    have e2 : Ext G1 (upd H1 dx (.own x)) G1 (upd (upd H1 dx (.own x)) x (.ins C dx [])) := .mut e1.s hx'
    have e3 := e1.trans e2
    refine ⟨G1, cs, x, [v], rfl, e3.s, k1.s.free hx, ⟨_, upd_same, dx, rfl⟩, ⟨p1, trivial⟩, hp, fun w G2 H2 m gx ⟨u, hu, ho⟩ pw => ?_⟩
    cases dp_none pw
    refine ⟨rfl, ?_⟩
    have mm : Ext G1 H1 G2 H2 := by
      refine ⟨m.g, fun p o hp' => m.h p o (e3.h p o hp') fun z => ?_, m.s, fun p g n => m.f p g ?_ fun z => ?_⟩
      · rw [own_one.mp z, hx] at hp'
        cases hp'
      · obtain ⟨u, hu, ht⟩ := n
        exact ⟨u, e3.h p u hu, ht⟩
      · rw [own_one.mp z] at n
        exact n.ne hx
    have e4 := mm.freeze hx hu
    have hu2 := ho
    obtain ⟨dx', y, rfl, hd⟩ := ho
    exact q (.ref x) _ H2 (m1.trans (.ext e4)) (k1.ext e4) ⟨x, dx', y, rfl, upd_same, dp_up (same_freeze mm.s hu) _ _ hd⟩
theorem ev_table {C : Addr} {cs : List (List Nat)} (c : Cls K C) (n : NoAttr K C "table") (h : Ev Γ ta (Br K C cs) Γ1) : Ev Γ (tFld K ta "table") (D K (eC cs)) Γ1 := fun σ G H k Q q =>
  h σ G H k _ fun v G1 H1 m1 k1 ⟨a, dx, y, e, ha, hd⟩ => ⟨a, C, dx, _, y, e, k1.s _ _ ha, c, n, rfl, q y G1 H1 m1 k1 hd⟩
theorem ev_prop {C : Addr} {E : XK} {pre : List (List Nat) → Prop} {r : List (List Nat) → Pr} {cs : List (List Nat)} (h : Ev Γ ta (Br K C cs) Γ1) (hp : pre cs) : Ev Γ (tProp C (spF (α := List (List Nat)) (fun cs => [Br K C cs]) pre r) [] E ta) (r cs) Γ1 := fun σ G H k Q q =>
  h σ G H k _ fun v G1 H1 m1 k1 ⟨a, dx, y, e, ha, hd⟩ => ⟨a, dx, _, e, k1.s _ _ ha, G1, cs, k1.s, ⟨⟨a, dx, y, rfl, ha, hd⟩, trivial⟩, hp, fun v G2 H2 e2 p => q v G2 H2 (m1.trans (.ext e2)) (k1.ext e2) p⟩
theorem ev_lenB {C : Addr} {pre : List (List Nat) → Prop} {f : List (List Nat) → Nat} {cs : List (List Nat)} (h : Ev Γ ta (Br K C cs) Γ1) (hp : pre cs) (hf : f cs ≤ 1000) : Ev Γ (tCB (rLenB C (spF (α := List (List Nat)) (fun cs => [Br K C cs]) pre fun cs => D K (eN (f cs)))) (tCons ta tNil)) (D K (eN (f cs))) Γ1 := fun σ G H k Q q =>
  h σ G H k _ fun v G1 H1 m1 k1 ⟨a, dx, y, e, ha, hd⟩ => ⟨a, dx, _, by rw [e], k1.s _ _ ha, G1, cs, k1.s, ⟨⟨a, dx, y, rfl, ha, hd⟩, trivial⟩, hp, fun v G2 H2 e2 p => ⟨f cs, dp_int p, hf, q _ G2 H2 (m1.trans (.ext e2)) (k1.ext e2) (.int _)⟩⟩
theorem ev_isB {C : Addr} {cs : List (List Nat)} (h : Ev Γ ta (Br K C cs) Γ1) : Ev Γ (tCB (fun xs H Q => ∃ a dx fs, xs = [V.ref a, V.ref C] ∧ H a = some (.ins C dx fs) ∧ Q (.bl true) H) (tCons ta (tCons (tC (.ref C)) tNil))) (D K (.bool true)) Γ1 := fun σ G H k Q q =>
  h σ G H k _ fun v G1 H1 m1 k1 ⟨a, dx, y, e, ha, hd⟩ => ⟨a, dx, _, by rw [e], k1.s _ _ ha, q _ G1 H1 m1 k1 (.bl _)⟩
/-- self.table = e -/
theorem go_fld {C : Addr} {i : Nat} {x : Addr} (c : Cls K C) (n : NoAttr K C "table") (h : Ev Γ tv (D K d) Γ1) (h1 : Γ1[i]? = some (.own x (oI C))) : Go Γ (sFld K (tVar i) tv "table") (Γ1.set i (.own x (oB K C d))) := fun σ G H k E q =>
  h σ G H k _ fun v G1 H1 m1 k1 p1 => by
    obtain ⟨e1, hg, u, hu, dx, rfl⟩ := k1.o i x _ h1
    exact ⟨.ref x, e1, x, C, dx, [], rfl, hu, c, n, by decide, q σ G1 _ (m1.trans (.chg k1 h1)) (k1.chg h1 ⟨dx, v, rfl, p1⟩)⟩
end
end WF

/-! ## text L6d -/
set_option maxHeartbeats 1000000
namespace WF
open PySem PySem.Spec PyProof.Rows L2
theorem set_id {Γ : List Sl} {i : Nat} {s : Sl} (h : Γ[i]? = some s) : Γ.set i s = Γ := by
  apply List.ext_getElem?
  intro j
  by_cases e : i = j
  · subst e
    rw [List.getElem?_set_self (List.getElem?_eq_some_iff.mp h).1, h]
  · rw [List.getElem?_set_ne e]
theorem wipeG_no {Γ : List Sl} {i : Nat} : ∀ {vs : List Nat}, i ∈ vs → i < Γ.length → (wipeG Γ vs)[i]? = some .no
  | v :: vs, h, hl => by
    show ((wipeG Γ vs).set v .no)[i]? = some .no
    by_cases e : v = i
    · subst e
      rw [List.getElem?_set_self (by rw [wipeG_len]; exact hl)]
    · rw [List.getElem?_set_ne e]
      exact wipeG_no ((List.mem_cons.mp h).resolve_left (fun z => e z.symm)) hl
section
variable {K : PySem.W.Frag} {Γ : List Sl} {wi wi1 : TI} {tt1 : TT} {te : TE}
theorem en_lc2 {α β : Type} {xs : List α} {ys : List β} {A : α → Pr} {B : β → Pr} {F : α → β → Option PyData} {vs : List Nat} {j l : Nat} (h : EvI Γ wi (xs.map A) Γ) (hn : nOwn Γ vs = true) (hj : j ∈ vs) (hl : l ∈ vs) (hjl : j ≠ l) (lj : j < Γ.length) (ll : l < Γ.length) (hz : xs.length * ys.length ≤ 100000)
    (hi : ∀ x ∈ xs, EvI ((wipeG Γ vs).set j (.pr (A x))) wi1 (ys.map B) ((wipeG Γ vs).set j (.pr (A x))))
    (hs : ∀ x ∈ xs, ∀ y ∈ ys, ∃ b d, F x y = (if b then some d else none) ∧ Et (((wipeG Γ vs).set j (.pr (A x))).set l (.pr (B y))) tt1 b (((wipeG Γ vs).set j (.pr (A x))).set l (.pr (B y))) ∧
      (b = true → Ev (((wipeG Γ vs).set j (.pr (A x))).set l (.pr (B y))) te (D K d) (((wipeG Γ vs).set j (.pr (A x))).set l (.pr (B y))))) :
    EvN Γ (tLc2 wi (gName j) tYes wi1 (gName l) tt1 te vs [l]) (oL K (xs.flatMap fun x => ys.filterMap (F x))) Γ := fun σ G H k Q q =>
  h σ G H k _ fun J G1 H1 m1 k1 ok => fun Dl hD => by
    have gD : G1 Dl = none := k1.s.free hD
    have nO : ¬ Own Γ Dl := k1.noOwn hD
    have e0 : Ext G1 H1 G1 (upd H1 Dl (.lst [])) := .mut k1.s hD
    have wj : ((wipeG Γ vs))[j]? = some .no := wipeG_no hj lj
    have ownx : ∀ {x : α} (p : Addr), Own ((wipeG Γ vs).set j (.pr (A x))) p → Own Γ p := fun p z => own_wipe p (own_set p z)
    have ownx' : ∀ {x : α} (p : Addr), Own Γ p → Own ((wipeG Γ vs).set j (.pr (A x))) p := fun p z => by
      obtain ⟨i, O, z⟩ := own_unwipe hn p z
      refine ⟨i, O, ?_⟩
      rw [List.getElem?_set_ne]
      · exact z
      · intro e
        subst e
        rw [wj] at z
        cases z
    refine ⟨fun i m H' => m = xs.length - i ∧ i ≤ xs.length ∧ ∃ G' ds, Mv Γ G1 H1 Γ G' H' ∧ Kn Γ σ G' H' ∧ G' Dl = none ∧ H' Dl = some (.lst ds) ∧ DpAll K G' ds ((xs.take i).flatMap fun x => ys.filterMap (F x)),
      ⟨_, rfl, Nat.zero_le _, G1, [], .ext e0, k1.ext e0, gD, upd_same, .nil⟩, ?_⟩
    rintro i m H' ⟨rfl, hi', G', ds, m', k', gD', hD', dp⟩
    obtain ⟨go, stop⟩ := ok G' H' m'.g k'.s i
    by_cases hlt : i < xs.length
    · have hxm : xs[i] ∈ xs := List.getElem_mem hlt
      obtain ⟨g1, g2⟩ := go (A xs[i]) (by simp [hlt])
      refine .inr ⟨g1, fun H2 => ∃ G2 ds2, Mv Γ G1 H1 Γ G2 H2 ∧ Kn Γ σ G2 H2 ∧ G2 Dl = none ∧ H2 Dl = some (.lst ds2) ∧ DpAll K G2 ds2 ((xs.take (i + 1)).flatMap fun x => ys.filterMap (F x)), fun H2 ⟨G2, ds2, z⟩ => ⟨_, by omega, rfl, hlt, G2, ds2, z⟩, fun x H3 y => ?_⟩
      obtain ⟨G3, e3, p3⟩ := g2 x H3 y
      have k3 : Kn (wipeG Γ vs) (L2.wipe σ vs) G3 H3 := (k'.ext e3).wipe vs
      have hD3 : H3 Dl = some (.lst ds) := e3.h _ _ hD'
      have gD3 : G3 Dl = none := e3.f Dl gD' ⟨_, hD', fun _ e => nomatch e⟩
      have k4 : Kn ((wipeG Γ vs).set j (.pr (A xs[i]))) ((L2.wipe σ vs).set j (some x)) G3 H3 := k3.put (by rw [wipeG_len]; exact lj) p3
      refine ⟨by rw [wipe_set hj]; exact wipe_self vs, ?_⟩
      rw [show ∀ (σ : L2.St) (H : Hp) (Q : Bool → Hp → Prop), tYes σ H Q = Q true H from fun _ _ _ => rfl, if_pos rfl]
      refine hi xs[i] hxm _ G3 H3 k4 _ fun J1 G5 H5 m5 k5 ok1 => ?_
      have lx : l < ((wipeG Γ vs).set j (.pr (A xs[i]))).length := by rw [List.length_set, wipeG_len]; exact ll
      have wl : ((wipeG Γ vs).set j (.pr (A xs[i])))[l]? = some .no := by rw [List.getElem?_set_ne hjl]; exact wipeG_no hl ll
      have nOx : ¬ Own ((wipeG Γ vs).set j (.pr (A xs[i]))) Dl := fun z => nO (ownx _ z)
      refine ⟨fun i1 m H' => m = ys.length - i1 ∧ i1 ≤ ys.length ∧ ∃ G' ds, Mv Γ G1 H1 ((wipeG Γ vs).set j (.pr (A xs[i]))) G' H' ∧ Kn ((wipeG Γ vs).set j (.pr (A xs[i]))) ((L2.wipe σ vs).set j (some x)) G' H' ∧ G' Dl = none ∧ H' Dl = some (.lst ds) ∧ Same G5 G' ∧
        DpAll K G' ds (((xs.take i).flatMap fun x => ys.filterMap (F x)) ++ (ys.take i1).filterMap (F xs[i])), ⟨_, rfl, Nat.zero_le _, G5, ds, (m'.trans (.ext e3)).trans (m5.wk0 fun p z => ownx p z), k5, m5.f Dl gD3 ⟨_, hD3, fun _ e => nomatch e⟩ nOx, m5.h _ _ hD3 nOx, Same.refl _, ?_⟩, ?_⟩
      · show DpAll K G5 ds (_ ++ [])
        rw [List.append_nil]
        exact dpAll_up (e3.g.trans m5.g) _ _ dp
      rintro i1 mm H6 ⟨rfl, hi1, G6, ds6, m6, k6, gD6, hD6, g56, dp6⟩
      obtain ⟨go1, stop1⟩ := ok1 G6 H6 g56 k6.s i1
      by_cases hlt1 : i1 < ys.length
      · have hym : ys[i1] ∈ ys := List.getElem_mem hlt1
        obtain ⟨g7, g8⟩ := go1 (B ys[i1]) (by simp [hlt1])
        refine .inr ⟨g7, fun H2 => ∃ G' ds, Mv Γ G1 H1 ((wipeG Γ vs).set j (.pr (A xs[i]))) G' H2 ∧ Kn ((wipeG Γ vs).set j (.pr (A xs[i]))) ((L2.wipe σ vs).set j (some x)) G' H2 ∧ G' Dl = none ∧ H2 Dl = some (.lst ds) ∧ Same G5 G' ∧
          DpAll K G' ds (((xs.take i).flatMap fun x => ys.filterMap (F x)) ++ (ys.take (i1 + 1)).filterMap (F xs[i])), fun H2 ⟨G2, ds2, z⟩ => ⟨_, by omega, rfl, hlt1, G2, ds2, z⟩, fun y1 H9 yy => ?_⟩
        obtain ⟨G9, e9, p9⟩ := g8 y1 H9 yy
        obtain ⟨b, d, hF, het, hev⟩ := hs xs[i] hxm ys[i1] hym
        have hD9 : H9 Dl = some (.lst ds6) := e9.h _ _ hD6
        have gD9 : G9 Dl = none := e9.f Dl gD6 ⟨_, hD6, fun _ e => nomatch e⟩
        have kw : Kn ((wipeG Γ vs).set j (.pr (A xs[i]))) (L2.wipe ((L2.wipe σ vs).set j (some x)) [l]) G9 H9 := by
          have := (k6.ext e9).wipe [l]
          have e : wipeG ((wipeG Γ vs).set j (.pr (A xs[i]))) [l] = (wipeG Γ vs).set j (.pr (A xs[i])) := set_id wl
          rw [e] at this
          exact this
        have kp : Kn (((wipeG Γ vs).set j (.pr (A xs[i]))).set l (.pr (B ys[i1]))) ((L2.wipe ((L2.wipe σ vs).set j (some x)) [l]).set l (some y1)) G9 H9 := kw.put lx p9
        have own2 : ∀ p, Own (((wipeG Γ vs).set j (.pr (A xs[i]))).set l (.pr (B ys[i1]))) p → Own ((wipeG Γ vs).set j (.pr (A xs[i]))) p := fun p z => own_set p z
        have own2' : ∀ p, Own ((wipeG Γ vs).set j (.pr (A xs[i]))) p → Own (((wipeG Γ vs).set j (.pr (A xs[i]))).set l (.pr (B ys[i1]))) p := fun p ⟨i', O', z⟩ => ⟨i', O', by
          rw [List.getElem?_set_ne]
          · exact z
          · intro e
            subst e
            rw [wl] at z
            cases z⟩
        have back : ∀ G4 H4, Mv (((wipeG Γ vs).set j (.pr (A xs[i]))).set l (.pr (B ys[i1]))) G9 H9 (((wipeG Γ vs).set j (.pr (A xs[i]))).set l (.pr (B ys[i1]))) G4 H4 → Kn (((wipeG Γ vs).set j (.pr (A xs[i]))).set l (.pr (B ys[i1]))) ((L2.wipe ((L2.wipe σ vs).set j (some x)) [l]).set l (some y1)) G4 H4 →
            Mv Γ G1 H1 ((wipeG Γ vs).set j (.pr (A xs[i]))) G4 H4 ∧ Kn ((wipeG Γ vs).set j (.pr (A xs[i]))) ((L2.wipe σ vs).set j (some x)) G4 H4 ∧ G4 Dl = none ∧ H4 Dl = some (.lst ds6) ∧ Same G5 G4 ∧ DpAll K G4 ds6 (((xs.take i).flatMap fun x => ys.filterMap (F x)) ++ (ys.take i1).filterMap (F xs[i])) := fun G4 H4 m4 k4 => by
          have mx : Mv ((wipeG Γ vs).set j (.pr (A xs[i]))) G9 H9 ((wipeG Γ vs).set j (.pr (A xs[i]))) G4 H4 := (m4.wk0 own2).wk own2'
          refine ⟨(m6.trans (.ext e9)).trans mx, ?_, mx.f Dl gD9 ⟨_, hD9, fun _ e => nomatch e⟩ nOx, mx.h _ _ hD9 nOx, (g56.trans e9.g).trans m4.g, dpAll_up (e9.g.trans m4.g) _ _ dp6⟩
          have u1 := k4.unset
          rw [List.set_set, set_id wl] at u1
          have u2 : Kn ((wipeG Γ vs).set j (.pr (A xs[i]))) (((L2.wipe σ vs).set j (some x)).set l none) G4 H4 := u1
          have u3 := u2.unset
          rw [set_id wl] at u3
          exact u3
        have tk : (ys.take (i1 + 1)).filterMap (F xs[i]) = (ys.take i1).filterMap (F xs[i]) ++ (match F xs[i] ys[i1] with | some d => [d] | none => []) := by
          rw [List.take_add_one, List.getElem?_eq_getElem hlt1, List.filterMap_append]
          congr 1
          show ([ys[i1]] : List β).filterMap (F xs[i]) = _
          rw [List.filterMap_cons, List.filterMap_nil]
          cases F xs[i] ys[i1] <;> rfl
        refine ⟨by rw [wipe_set (by simp)]; exact wipe_self [l], het _ G9 H9 kp _ fun G4 H4 m4 k4 => ?_⟩
        cases b with
        | true =>
          rw [if_pos rfl]
          refine hev rfl _ G4 H4 k4 _ fun v G7 H7 m7 k7 p7 => ?_
          obtain ⟨z1, z2, z3, z5, zg, z6⟩ := back G7 H7 (m4.trans m7) k7
          have hlen : ds6.length < 100000 + 100000 := by
            rw [dpAll_len dp6, List.length_append]
            have h1 : ((ys.take i1).filterMap (F xs[i])).length ≤ ys.length := Nat.le_trans (List.length_filterMap_le _ _) (by rw [List.length_take]; exact Nat.min_le_right _ _)
            have h2 : ∀ us : List α, (us.flatMap fun x => ys.filterMap (F x)).length ≤ us.length * ys.length := fun us => by
              induction us with
              | nil => simp
              | cons u us ih =>
                rw [List.flatMap_cons, List.length_append, List.length_cons, Nat.succ_mul]
                have := List.length_filterMap_le (F u) ys
                omega
            have h3 := h2 (xs.take i)
            have h4 : (xs.take i).length ≤ xs.length := by rw [List.length_take]; exact Nat.min_le_right _ _
            have h5 := Nat.mul_le_mul_right ys.length h4
            have h6 : 1 * ys.length ≤ xs.length * ys.length := Nat.mul_le_mul_right _ (by omega)
            have h7 : ((ys.take i1).filterMap (F xs[i])).length ≤ i1 := Nat.le_trans (List.length_filterMap_le _ _) (by rw [List.length_take]; exact Nat.min_le_left _ _)
            omega
          refine ⟨ds6, z5, Nat.lt_of_lt_of_le hlen (by decide), G7, ds6 ++ [v], z1.upd hD z3, z2.upd z3 nOx, z3, upd_same, zg, ?_⟩
          rw [tk, hF]
          rw [← List.append_assoc]
          exact dpAll_app z6 (dpAll_one p7)
        | false =>
          rw [if_neg Bool.false_ne_true]
          obtain ⟨z1, z2, z3, z5, zg, z6⟩ := back G4 H4 m4 k4
          refine ⟨G4, ds6, z1, z2, z3, z5, zg, ?_⟩
          rw [tk, hF]
          show DpAll K G4 ds6 (_ ++ (_ ++ []))
          rw [List.append_nil]
          exact z6
      · have e : i1 = ys.length := by omega
        subst e
        refine .inl ⟨stop1 (by simp), ?_⟩
        have mx : Mv Γ G1 H1 Γ G6 H6 := m6.wk (fun p z => ownx' p z)
        have u1 := k6.unset
        rw [List.set_set, set_id wj] at u1
        refine ⟨G6, ds6, mx, kn_unwipe k1 mx.g rfl (fun _ _ => rfl) hn u1, gD6, hD6, ?_⟩
        rw [List.take_length] at dp6
        rw [List.take_add_one, List.getElem?_eq_getElem hlt, List.flatMap_append]
        show DpAll K G6 ds6 (_ ++ (([xs[i]] : List α).flatMap fun x => ys.filterMap (F x)))
        rw [List.flatMap_cons, List.flatMap_nil, List.append_nil]
        exact dp6
    · have e : i = xs.length := by omega
      subst e
      rw [List.take_length] at dp
      exact .inl ⟨stop (by simp), q Dl (.lst ds) G' H' (m1.trans m') k' (m1.back hD) hD' gD' ⟨ds, rfl, dp⟩ nO⟩
end
end WF

/-! ## text M1 -/
namespace WF
open PySem PySem.Spec PyProof.Rows L2
/-! ### the program's functions in plain words: '.' 46, '<' 60, '>' 62, 'x' 120 -/
def rowsOf (cs : List (List Nat)) : Nat := cs.length
def colsOf (cs : List (List Nat)) : Nat := (cs.getD 0 []).length
def manyOf (cs : List (List Nat)) : Nat := rowsOf cs + colsOf cs
def signs : List Nat := [46, 60, 62, 120]
structure Good (cs : List (List Nat)) : Prop where
  r1 : 1 ≤ cs.length
  r5 : cs.length ≤ 5
  c1 : 1 ≤ colsOf cs
  c5 : colsOf cs ≤ 5
  ln : ∀ l ∈ cs, l.length = colsOf cs
  sg : ∀ l ∈ cs, ∀ c ∈ l, c ∈ signs
def stepsAt (many at_ : Nat) (p : Nat × Nat) : List (Nat × Nat) := (if p.1 ∈ [62, 120] then [(at_, many + p.2)] else []) ++ if p.1 ∈ [60, 120] then [(many + p.2, at_)] else []
def stepsRaw (cs : List (List Nat)) : List (Nat × Nat) := cs.zipIdx.flatMap fun l => l.1.zipIdx.flatMap (stepsAt cs.length l.2)
def stepsOf (cs : List (List Nat)) : List (Nat × Nat) := (stepsRaw cs).mergeSort (PySem.W.dataLe false eP)
def allLots : Nat → List (List Nat)
  | 0 => [[]]
  | n + 1 => allLots n ++ (allLots n).map (· ++ [n])
def closes (st : List (Nat × Nat)) (lot : List Nat) : Bool := st.all fun p => decide (p.1 ∈ lot) || !decide (p.2 ∈ lot)
def sizeKey (l : List Nat) : PyData := .tuple [eN l.length, eL l]
def lotsOf (cs : List (List Nat)) : List (List Nat) := ((allLots (manyOf cs)).filter (closes (stepsOf cs))).mergeSort (PySem.W.dataLe false sizeKey)
def liesIn (l o : List Nat) : Bool := l.all fun t => decide (t ∈ o)
/-- one turn of the search from a thread -/
def dfsAdd (here : Nat) (s : List Nat × List Nat) (p : Nat × Nat) : List Nat × List Nat := if p.1 = here ∧ p.2 ∉ s.1 then (s.1 ++ [p.2], s.2 ++ [p.2]) else s
def dfsTurn (st : List (Nat × Nat)) (s : List Nat × List Nat) : List Nat × List Nat := if s.2 = [] then s else st.foldl (dfsAdd (s.2.getLastD 0)) (s.1, s.2.dropLast)
def dfsAt (st : List (Nat × Nat)) (t : Nat) : Nat → List Nat × List Nat
  | 0 => ([t], [t])
  | i + 1 => dfsTurn st (dfsAt st t i)
def upN (l : List Nat) : List Nat := l.mergeSort fun a b => decide (a ≤ b)
/-- where thread t leads -/
def leadFrom (cs : List (List Nat)) (t : Nat) : List Nat := upN (dfsAt (stepsOf cs) t (2 * manyOf cs)).1
def leadsOf (cs : List (List Nat)) : List (List Nat) := (List.range (manyOf cs)).map (leadFrom cs)
/-! ### boards from lots -/
def eLo (b : Bool) (ls : List (List Nat)) : PyData := match b with
  | false => eLs ls
  | true => .tuple (ls.map eL)
def aheadOf (lots : List (List Nat)) (many : Nat) : List (List Nat) := (List.range many).map fun t => (List.range many).filter fun o => (lots.filter fun l => decide (t ∈ l)).all fun l => decide (o ∈ l)
def keepsIn (ah : List (List Nat)) (l : List Nat) : Bool := l.all fun t => liesIn (ah.getD t []) l
def areAll (lots ah : List (List Nat)) : Bool := decide (lots.length = ((allLots ah.length).filter (keepsIn ah)).length)
def signOf (a b : Bool) : Nat := [46, 60, 62, 120].getD (2 * (if a then 1 else 0) + (if b then 1 else 0)) 0
def boardOfSteps (R C : Nat) (st : List (Nat × Nat)) : List (List Nat) := (List.range R).map fun r => (List.range C).map fun c => signOf (decide ((r, R + c) ∈ st)) (decide ((R + c, r) ∈ st))
def canStep (R a b : Nat) : Bool := decide (a < R) != decide (b < R)
def rowsIn (R : Nat) (part : List Nat) : List Nat := part.filter fun o => decide (o < R)
def colsIn (R : Nat) (part : List Nat) : List Nat := part.filter fun o => decide (R ≤ o)
def ringAt (some others : List Nat) (m a : Nat) : List (Nat × Nat) := [(some.getD a 0, others.getD a 0), (others.getD a 0, some.getD ((a + 1) % m) 0)]
def ringOf (R : Nat) (part : List Nat) : List (Nat × Nat) :=
  if part.length = 1 then []
  else (List.range (min (rowsIn R part).length (colsIn R part).length)).flatMap (ringAt (rowsIn R part) (colsIn R part) (min (rowsIn R part).length (colsIn R part).length)) ++
    (((rowsIn R part).drop (min (rowsIn R part).length (colsIn R part).length)).flatMap fun r => [((colsIn R part).getD 0 0, r), (r, (colsIn R part).getD 0 0)]) ++
    (((colsIn R part).drop (min (rowsIn R part).length (colsIn R part).length)).flatMap fun c => [((rowsIn R part).getD 0 0, c), (c, (rowsIn R part).getD 0 0)])
def partOf (ah : List (List Nat)) (one : Nat) : List Nat := (ah.getD one []).filter fun o => decide (one ∈ ah.getD o [])
def partsRaw (ah : List (List Nat)) : List (List Nat) := (List.range ah.length).foldl (fun ps one => addK ps (partOf ah one)) []
def partsBy (ah : List (List Nat)) : List (List Nat) := (partsRaw ah).mergeSort (PySem.W.dataLe false eL)
def stepBetween (R : Nat) (one other : List Nat) : List (Nat × Nat) := (one.flatMap fun f => (other.filter (canStep R f)).map fun s => (f, s)).take 1
def underOf (ah parts : List (List Nat)) (part : List Nat) : List (List Nat) := parts.filter fun one => !decide (one = part) && decide (one.getD 0 0 ∈ ah.getD (part.getD 0 0) [])
def coverOf (ah under : List (List Nat)) (one : List Nat) : Bool := !((under.filter fun o => !decide (o = one)).any fun o => decide (one.getD 0 0 ∈ ah.getD (o.getD 0 0) []))
def neededSteps (R C : Nat) (lots : List (List Nat)) : List (Nat × Nat) :=
  ((partsBy (aheadOf lots (R + C))).flatMap (ringOf R)) ++ (partsBy (aheadOf lots (R + C))).flatMap fun part =>
    (underOf (aheadOf lots (R + C)) (partsBy (aheadOf lots (R + C))) part).flatMap fun one => if coverOf (aheadOf lots (R + C)) (underOf (aheadOf lots (R + C)) (partsBy (aheadOf lots (R + C))) part) one then stepBetween R one part else []
end WF

/-! ## text W0 -/
namespace WF
open PySem PySem.Spec PyProof.Rows L2
section
variable {K : PySem.W.Frag} {Γ Γ1 Γ2 Γ3 Γ' : List Sl} {te ta tb tc ty tv : TE} {tt tu : TT} {P P1 P2 : Pr} {ts tr tz tw : TS} {tas : TA} {d : PyData}
theorem ev_addN {i j : Nat} (ha : Ev Γ ta (D K (eN i)) Γ1) (hb : Ev Γ1 tb (D K (eN j)) Γ2) : Ev Γ (tOp (rI0 fun i j => .int (i + j)) ta tb) (D K (eN (i + j))) Γ2 := ev_add ha hb
theorem ev_subN {i j : Nat} (ha : Ev Γ ta (D K (eN i)) Γ1) (hb : Ev Γ1 tb (D K (eN j)) Γ2) (h : j ≤ i) : Ev Γ (tOp (rI0 fun i j => .int (i - j)) ta tb) (D K (eN (i - j))) Γ2 := (ev_sub ha hb).is (congrArg (fun z => D K (.int z)) (by omega))
theorem ev_ltN {i j : Nat} (ha : Ev Γ ta (D K (eN i)) Γ1) (hb : Ev Γ1 tb (D K (eN j)) Γ2) : Ev Γ (tOp (rI0 fun i j => .bl (decide (i < j))) ta tb) (D K (.bool (decide (i < j)))) Γ2 := (ev_lt ha hb).is (congrArg (fun b => D K (.bool b)) (decide_eq_decide.mpr (by omega)))
theorem ev_leN {i j : Nat} (ha : Ev Γ ta (D K (eN i)) Γ1) (hb : Ev Γ1 tb (D K (eN j)) Γ2) : Ev Γ (tOp (rI0 fun i j => .bl (decide (i ≤ j))) ta tb) (D K (.bool (decide (i ≤ j)))) Γ2 := (ev_le ha hb).is (congrArg (fun b => D K (.bool b)) (decide_eq_decide.mpr (by omega)))
theorem ev_gtN {i j : Nat} (ha : Ev Γ ta (D K (eN i)) Γ1) (hb : Ev Γ1 tb (D K (eN j)) Γ2) : Ev Γ (tOp (rI0 fun i j => .bl (decide (j < i))) ta tb) (D K (.bool (decide (j < i)))) Γ2 := (ev_gt ha hb).is (congrArg (fun b => D K (.bool b)) (decide_eq_decide.mpr (by omega)))
theorem ev_geN {i j : Nat} (ha : Ev Γ ta (D K (eN i)) Γ1) (hb : Ev Γ1 tb (D K (eN j)) Γ2) : Ev Γ (tOp (rI0 fun i j => .bl (decide (j ≤ i))) ta tb) (D K (.bool (decide (j ≤ i)))) Γ2 := (ev_ge ha hb).is (congrArg (fun b => D K (.bool b)) (decide_eq_decide.mpr (by omega)))
theorem ev_eqN {i j : Nat} (ha : Ev Γ ta (D K (eN i)) Γ1) (hb : Ev Γ1 tb (D K (eN j)) Γ2) : Ev Γ (tOp rEq ta tb) (D K (.bool (decide (i = j)))) Γ2 := (ev_eqI ha hb).is (congrArg (fun b => D K (.bool b)) (decide_eq_decide.mpr (by omega)))
theorem ev_neN {i j : Nat} (ha : Ev Γ ta (D K (eN i)) Γ1) (hb : Ev Γ1 tb (D K (eN j)) Γ2) : Ev Γ (tOp rNe ta tb) (D K (.bool (!decide (i = j)))) Γ2 := (ev_neI ha hb).is (congrArg (fun b => D K (.bool (!b))) (decide_eq_decide.mpr (by omega)))
theorem ev_mulN {i j : Nat} (ha : Ev Γ ta (D K (eN i)) Γ1) (hb : Ev Γ1 tb (D K (eN j)) Γ2) (hi : i < 100000) : Ev Γ (tOp (rI CMul fun i j => .int (i * j)) ta tb) (D K (eN (i * j))) Γ2 := (ev_mul ha hb (.inl (by omega))).is (congrArg (fun z => D K (.int z)) (Int.natCast_mul i j).symm)
theorem ev_modN {i j : Nat} (ha : Ev Γ ta (D K (eN i)) Γ1) (hb : Ev Γ1 tb (D K (eN j)) Γ2) (hj : 0 < j) : Ev Γ (tOp (rI (fun _ j => 0 < j) fun i j => .int (i % j)) ta tb) (D K (eN (i % j))) Γ2 := (ev_mod ha hb (by omega)).is (congrArg (fun z => D K (.int z)) (Int.natCast_emod i j).symm)
theorem ev_lenLN {α : Type} {enc : α → PyData} {xs : List α} (h : Ev Γ ta (D K (.list (xs.map enc))) Γ1) : Ev Γ (tCB (fun xs H Q => ∃ p ys, xs = [V.ref p] ∧ (SqL K H p ys ∨ SqT K H p ys) ∧ Q (V.int ys.length) H) (tCons ta tNil)) (D K (eN xs.length)) Γ1 := (ev_lenL h).is (by rw [List.length_map])
theorem ev_lenTN {α : Type} {enc : α → PyData} {xs : List α} (h : Ev Γ ta (D K (.tuple (xs.map enc))) Γ1) : Ev Γ (tCB (fun xs H Q => ∃ p ys, xs = [V.ref p] ∧ (SqL K H p ys ∨ SqT K H p ys) ∧ Q (V.int ys.length) H) (tCons ta tNil)) (D K (eN xs.length)) Γ1 := (ev_lenT h).is (by rw [List.length_map])
theorem ev_lenSN {z : List Nat} (h : Ev Γ ta (D K (eS z)) Γ1) (hz : z.length ≤ 100000) : Ev Γ (tCB (fun xs H Q => ∃ z, xs = [V.str z] ∧ z.length ≤ sizeLine ∧ Q (V.int z.length) H) (tCons ta tNil)) (D K (eN z.length)) Γ1 := (ev_lenS h (by simpa [Str.length] using hz)).is (by simp [Str.length])
theorem atI_nat {α : Type} {xs : List α} {i : Nat} {x : α} (h : xs[i]? = some x) : atI xs ((i : Nat) : Int) = some x := by
  have hi : i < xs.length := (List.getElem?_eq_some_iff.mp h).1
  have e : ixN xs.length (i : Int) = some i := by
    unfold ixN
    rw [if_pos (by omega)]
    rw [if_pos (by omega)]
    simp
  unfold atI
  rw [e]
  exact h
theorem ei_rngN {n : Nat} (h : Ev Γ ta (D K (eN n)) Γ1) (h1 : n ≤ 100000) : EvI Γ (iRng1 (tCons ta tNil)) ((List.range n).map fun i => D K (eN i)) Γ1 := by
  have := ei_rng1 h (by omega)
  have e : rgP K 0 ((n : Nat) : Int).toNat = (List.range n).map fun i => D K (eN i) := by
    unfold rgP
    rw [Int.toNat_natCast]
    apply List.map_congr_left
    intro i _
    rw [Int.zero_add]
  rw [← e]
  exact this
theorem ei_rngN2 {lo n : Nat} (h : Ev Γ ta (D K (eN lo)) Γ1) (h' : Ev Γ1 tb (D K (eN n)) Γ2) (h0 : lo ≤ 100000) (h1 : n ≤ 100000) : EvI Γ (iRng2 (tCons ta (tCons tb tNil))) ((List.range (n - lo)).map fun i => D K (eN (lo + i))) Γ2 := by
  have := ei_rng2 h h' (by omega)
  have e : rgP K (lo : Nat) (((n : Nat) : Int) - (lo : Nat)).toNat = (List.range (n - lo)).map fun i => D K (eN (lo + i)) := by
    unfold rgP
    have e2 : (((n : Nat) : Int) - (lo : Nat)).toNat = n - lo := by omega
    rw [e2]
    rfl
  rw [← e]
  exact this
theorem ev_ixLN {ds : List PyData} {i : Nat} (ha : Ev Γ ta (D K (.list ds)) Γ1) (hb : Ev Γ1 tb (D K (eN i)) Γ2) (h : ds[i]? = some d) : Ev Γ (tOp (rIxL K) ta tb) (D K d) Γ2 := ev_ixL ha hb (atI_nat h)
theorem ev_ixTN {ds : List PyData} {i : Nat} (ha : Ev Γ ta (D K (.tuple ds)) Γ1) (hb : Ev Γ1 tb (D K (eN i)) Γ2) (h : ds[i]? = some d) : Ev Γ (tOp (rIxT K) ta tb) (D K d) Γ2 := ev_ixT ha hb (atI_nat h)
theorem ev_ixSN {z : List Nat} {i c : Nat} (ha : Ev Γ ta (D K (eS z)) Γ1) (hb : Ev Γ1 tb (D K (eN i)) Γ2) (hz : z.length ≤ 100000) (h : z[i]? = some c) : Ev Γ (tOp rIxS ta tb) (D K (eS [c])) Γ2 := ev_ixS ha hb (by simpa [Str.length] using hz) (atI_nat (by simpa using h))
/-- items of a mapped list at a turn -/
theorem for_map {α : Type} {xs : List α} {A : α → Pr} {Q : Nat → Pr → Prop} (h : ∀ i x, xs[i]? = some x → Q i (A x)) : ∀ i X, (xs.map A)[i]? = some X → Q i X := fun i X e => by
  rw [List.getElem?_map] at e
  cases q : xs[i]? with
  | none => rw [q] at e; cases e
  | some x => rw [q] at e; cases e; exact h i x q
theorem go_forM {α : Type} {xs : List α} {A : α → Pr} {S : Nat → List Sl} {wi : TI} {g : TG} (h : EvI Γ wi (xs.map A) Γ1) (h0 : Wk Γ1 (S 0)) (hs : ∀ i x, xs[i]? = some x → Tg (S i) g (A x) tw (S (i + 1))) (hw : Wk (S xs.length) Γ') : Go Γ (tFor wi g tw) Γ' := by
  have := go_for (S := S) h h0 (for_map hs)
  rw [List.length_map] at this
  exact this.wk hw
theorem go_forE {α : Type} {xs : List α} {enc : α → PyData} {S : Nat → List Sl} {wi : TI} {g : TG} (h : EvI Γ wi (enP K (xs.map enc)) Γ1) (h0 : Wk Γ1 (S 0)) (hs : ∀ i x, xs[i]? = some x → Tg (S i) g (D K (.tuple [eN i, enc x])) tw (S (i + 1))) (hw : Wk (S xs.length) Γ') : Go Γ (tFor wi g tw) Γ' := by
  have := go_for (S := S) (tw := tw) (g := g) h h0 fun i X e => by
    obtain ⟨d, hd, rfl⟩ := enP_get e
    rw [List.getElem?_map] at hd
    cases q : xs[i]? with
    | none => rw [q] at hd; cases hd
    | some x => rw [q] at hd; cases hd; exact hs i x q
  rw [enP_len, List.length_map] at this
  exact this.wk hw
theorem ei_enumSN {z : List Nat} (h : Ev Γ ta (D K (eS z)) Γ1) : EvI Γ (iEnumS (tCons ta tNil)) (enP K (z.map fun c => eS [c])) Γ1 := by
  have := ei_enumS h
  exact this
theorem go_whileW {S : Nat → List Sl} {n : Nat} (h0 : Wk Γ (S 0)) (ht : ∀ i, i < n → Et (S i) tt true (S i)) (hb : ∀ i, i < n → Go (S i) tw (S (i + 1))) (he : Et (S n) tt false (S n)) (hw : Wk (S n) Γ') : Go Γ (tWhile tt tw) Γ' := (go_while h0 ht hb he).wk hw
theorem ei_listM {α : Type} {xs : List α} {enc : α → PyData} (h : Ev Γ ta (D K (.list (xs.map enc))) Γ1) : EvI Γ (iList K ta) (xs.map fun x => D K (enc x)) Γ1 := by
  have := ei_list h
  rw [List.map_map] at this
  exact this
theorem ei_tupM {α : Type} {xs : List α} {enc : α → PyData} (h : Ev Γ ta (D K (.tuple (xs.map enc))) Γ1) : EvI Γ (iTup K ta) (xs.map fun x => D K (enc x)) Γ1 := by
  have := ei_tup h
  rw [List.map_map] at this
  exact this
/-- a list of one's own, read: it stands still from now on, tracked -/
theorem ev_ownL {i : Nat} {a : Addr} {ds : List PyData} (h : Γ[i]? = some (.own a (oL K ds))) : Ev Γ (tVar i) (DL K ds) (Γ.set i (.pr (D K (.list ds)))) := fun σ G H k Q q => by
  obtain ⟨e1, hg, u, hu, vs, rfl, hd⟩ := k.o i a _ h
  have s1 : Same G (upd G a (.lst vs)) := same_upd hg
  have pd : Dp K (upd G a (.lst vs)) (.ref a) (.list ds) := .lst (.inl (.inl upd_same)) (dpAll_up s1 _ _ hd)
  refine ⟨.ref a, e1, q (.ref a) (upd G a (.lst vs)) H ⟨s1, fun _ _ h _ => h, fun _ h => h, same_updG k.s hu, fun p z w x => ?_, fun p z => .inl (own_set p z)⟩ ⟨by rw [List.length_set]; exact k.l, same_updG k.s hu, fun j P z => ?_, fun j b O z => ?_, fun j j' b O O' z z' => ?_⟩ ⟨a, vs, rfl, upd_same, dpAll_up s1 _ _ hd⟩⟩
  · rw [upd_ne (fun e => x ⟨i, _, by rw [e]; exact h⟩)]
    exact z
  · rcases get_set _ z with ⟨r, r2⟩ | ⟨_, r⟩
    · cases r2
      rw [r]
      exact ⟨_, e1, pd⟩
    · obtain ⟨v, z1, z2⟩ := k.p j P r
      exact ⟨v, z1, P.up s1 z2⟩
  · rcases get_set _ z with ⟨_, r⟩ | ⟨r0, r⟩
    · cases r
    · obtain ⟨z1, z2, u', z3, z4⟩ := k.o j b O r
      refine ⟨z1, ?_, u', z3, O.up s1 z4⟩
      rw [upd_ne (fun e => r0 (k.d j i b O _ r (by rw [e]; exact h)))]
      exact z2
  · rcases get_set _ z with ⟨_, r⟩ | ⟨_, r⟩
    · cases r
    · rcases get_set _ z' with ⟨_, r'⟩ | ⟨_, r'⟩
      · cases r'
      · exact k.d j j' b O O' r r'
theorem ev_min2N {i j : Nat} (h : Ev Γ ta (D K (eN i)) Γ1) (h2 : Ev Γ1 tb (D K (eN j)) Γ2) : Ev Γ (tCB (fun xs H Q => ∃ i j, xs = [V.int i, V.int j] ∧ Q (V.int (if j < i then j else i)) H) (tCons ta (tCons tb tNil))) (D K (eN (min i j))) Γ2 := (ev_min2 h h2).is (congrArg (fun z => D K (.int z)) (by
  split <;> omega))
theorem ev_pair {d1 d2 : PyData} (ha : Ev Γ ta (D K d1) Γ1) (hb : Ev Γ1 tb (D K d2) Γ2) : Ev Γ (tTup (tCons ta (tCons tb tNil))) (D K (.tuple [d1, d2])) Γ2 := ev_tup (ed_cons ha (ed_cons hb ed_nil)) (by show 2 ≤ 100000; decide)
theorem Wk.eq {Γ Γ' : List Sl} (h : Γ = Γ') : Wk Γ Γ' := h ▸ Wk.refl Γ
end
end WF

/-! ## text W2 -/
namespace WF
open PySem PySem.Spec PyProof.Rows L2
abbrev sp_is_from (K : PySem.W.Frag) (_ : Addr) : Sp := spF (α := Int × Int × Int) (fun a => [D K (.int a.1), D K (.int a.2.1), D K (.int a.2.2)]) (fun _ => True) (fun a => D K (.bool (decide (a.2.1 ≤ a.1) && decide (a.1 ≤ a.2.2))))
def GoodLine (l : List Nat) : Prop := 1 ≤ l.length ∧ l.length ≤ 5 ∧ ∀ c ∈ l, c ∈ signs
abbrev sp_is_line (K : PySem.W.Frag) (_ : Addr) : Sp := spF (α := List Nat) (fun l => [D K (eS l)]) GoodLine (fun _ => D K (.bool true))
abbrev sp_Board (K : PySem.W.Frag) (C : Addr) : Sp := spBoard K C Good
abbrev sp_cells (K : PySem.W.Frag) (C : Addr) : Sp := spF (α := List (List Nat)) (fun cs => [Br K C cs]) Good (fun cs => D K (eC cs))
abbrev sp_rows (K : PySem.W.Frag) (C : Addr) : Sp := spF (α := List (List Nat)) (fun cs => [Br K C cs]) Good (fun cs => D K (eN (rowsOf cs)))
abbrev sp_columns (K : PySem.W.Frag) (C : Addr) : Sp := spF (α := List (List Nat)) (fun cs => [Br K C cs]) Good (fun cs => D K (eN (colsOf cs)))
abbrev sp_len (K : PySem.W.Frag) (C : Addr) : Sp := spF (α := List (List Nat)) (fun cs => [Br K C cs]) Good (fun cs => D K (eN (manyOf cs)))
abbrev sp_need_board (K : PySem.W.Frag) (C : Addr) : Sp := spF (α := List (List Nat)) (fun cs => [Br K C cs]) Good (fun _ => D K .none)
section
variable {P : Program} {w : World} {K : PySem.W.Frag} {mg : Str → Option Value} {base : Heap} {C : Addr}
theorem fn_F {α : Type} {args : α → List Pr} {pre : α → Prop} {r : α → Pr} {x qual : Str} {st : Stmt} {f : Addr} {fd : FuncData} {N ps : List Str} {k n : Nat} (F : C8.Fun K x qual st f fd) (S : FnScope N ps (C8.fnScope st)) (hn : ∀ a, (args a).length = ps.length) (hN : N.length = ps.length + n)
    (hb : ∀ (cdv : Value) (A : Around) (outer : List Env) (s : Shared) (H : Hp) (E : XK), Room k (A.deeper (envOfC qual (C8.fnScope st) s.heap.objs.size f cdv)) →
      ∃ t, PSs (cxOf CX0 P w K mg base N qual (C8.fnScope st) f cdv A outer s H E).nox (C8.fnBody st) t ∧ ∀ a, pre a → Rt ((args a).map Sl.pr ++ List.replicate n .no) t (r a) []) : FnOk P w K mg base CX0 (k + 1) f fd ps (spF args pre r) := by
  refine C8.fn0 F S (spF_len hn) fun cdv A outer s H vs Q E hr h => ?_
  obtain ⟨t, h1, h2⟩ := hb cdv A outer s H E hr
  refine ⟨t, h1, ?_⟩
  obtain ⟨G, a, sm, e, hp, q⟩ := h
  exact h2 a hp (L2.start N vs) G H (kn_start sm e (by rw [hN, hn])) { nx := fun _ H' => Q .non H', rt := Q } fun v σ' G' H' m _ p => q v G' H' (m.toExt noOwn_start) p
theorem cal_is_from (T : Tx K mg C) {f : Addr} {fd : FuncData} (F : C8.Def K mg "is_from" (topS 9) f fd) (b : Binds K fd ["value", "low", "high"] [])  : C8.Cal P w K mg base 1 "is_from" (sp_is_from K C) [] := by
  have S : FnScope ["value", "low", "high"] ["value", "low", "high"] (C8.fnScope (topS 9)) := C8.fnScope_by (by decide +kernel)
  have nd := S.nd
  refine cal_F (n := 0) F b S (fun _ => rfl) rfl fun cdv A outer s H E hr => ⟨_, (pss_one (ps_ret (pe_and (pe_callB (cIsi K) (by rfl) T.b_isinstance (by decide +kernel) (pa_cons (pv 0) (pa_cons (pe_bltn (v := .ty "int") (by rfl) T.b_int (by decide +kernel) rfl) pa_nil))) (pe_and (pe_not (pe_callB (cIsi K) (by rfl) T.b_isinstance (by decide +kernel) (pa_cons (pv 0) (pa_cons (pe_bltn (v := .ty "bool") (by rfl) T.b_bool (by decide +kernel) rfl) pa_nil)))) (pe_one (pe_chain op_le op_le (pv 1) (pv 0) (pv 2))))))), ?_⟩
  rintro ⟨v, lo, hi⟩ _
  exact rt_ret ((ev_andV (b := decide (lo ≤ v) && decide (v ≤ hi)) (ev_isi (ev_var rfl) kit_int_int) fun _ => (ev_andV (b := decide (lo ≤ v) && decide (v ≤ hi)) (ev_notV (ev_isi (ev_var rfl) kit_int_bool)) fun _ => ev_chLeLe (ev_var rfl) (ev_var rfl) (ev_var rfl)).is rfl).is rfl) (Wk.nil _)
theorem cal_is_line (T : Tx K mg C) {f : Addr} {fd : FuncData} (F : C8.Def K mg "is_line" (topS 10) f fd) (b : Binds K fd ["value"] [])  : C8.Cal P w K mg base 1 "is_line" (sp_is_line K C) [] := by
  have S : FnScope ["value", "sign"] ["value"] (C8.fnScope (topS 10)) := C8.fnScope_by (by decide +kernel)
  have nd := S.nd
  refine cal_F (n := 1) F b S (fun _ => rfl) rfl fun cdv A outer s H E hr => ⟨_, (pss_one (ps_ret (pe_and (pe_callB (cIsi K) (by rfl) T.b_isinstance (by decide +kernel) (pa_cons (pv 0) (pa_cons (pe_bltn (v := .ty "str") (by rfl) T.b_str (by decide +kernel) rfl) pa_nil))) (pe_and (pe_chain op_le op_le pe_int (pe_callB call_len_str (by rfl) T.b_len (by decide +kernel) (pa_cons (pv 0) pa_nil)) (C8.pe_gc (by rfl) T.g_MOST_LINES)) (pe_one (pe_callB (cAll K rfl rfl) (by rfl) T.b_all (by decide +kernel) (pa_cons (pe_lc (own := [("sign", 1)]) (g := (gName 1)) rfl nd (pi_str (pv 0)) (blkOk_by (by kernel_rfl)) (fun _ _ _ _ _ => (pg_name (i := 1) nd rfl (by first | exact Or.inl rfl | exact Or.inr rfl))) (fun _ _ _ _ _ => pts_nil) (fun _ _ _ _ _ => (pe_cmpR op_in_sign (pv 1) (C8.pe_gc (by rfl) T.g_SIGNS) (by rfl)))) pa_nil))))))), ?_⟩
  rintro l ⟨h1, h5, hs⟩
  refine rt_ret ((ev_andV (ev_isi (ev_var rfl) rfl) fun _ => ev_andV (ev_chLeLe ev_int (ev_lenSN (ev_var rfl) (by omega)) ev_int) fun _ => ev_all (bs := l.map fun c => decide (c ∈ signs)) (Ev.is (ev_new (en_lc (xs := l) (A := fun c => D K (eS [c])) (F := fun c => if true then some (.bool (decide (c ∈ signs))) else none) (ei_str (ev_var rfl)) rfl rfl (by omega) fun c hc =>
    cg_name (by decide) (lt_some rfl) et_yes (fun _ => ev_inSign (c := c) (z := ".<>x") (ev_var rfl) ev_str) (fun h => nomatch h) (fun _ => rfl))) ?_)).is ?_) (Wk.nil _)
  · rw [filterMap_some, List.map_map]; rfl
  · have e : (l.map fun c => decide (c ∈ signs)).all id = true := by
      rw [List.all_map]
      exact List.all_eq_true.mpr fun c hc => decide_eq_true (hs c hc)
    rw [e]
    have e1 : decide ((1 : Int) ≤ (l.length : Nat)) = true := decide_eq_true (by omega)
    have e2 : decide (((l.length : Nat) : Int) ≤ 5) = true := decide_eq_true (by omega)
    rw [e1, e2]
    rfl
theorem cs_at0 {cs : List (List Nat)} (g : Good cs) : cs[0]? = some (cs.getD 0 []) := by
  have h1 := g.r1
  cases cs with
  | nil => exact absurd h1 (by decide)
  | cons c cs => rfl
theorem mak_Board (T : Tx K mg C) {f : Addr} {fd : FuncData} (M : Mk K C f) (hm : mg "Board" = some (.ref C)) (F : C8.Fun K "__init__" "Board.__init__" (inClass (topS 11) 0) f fd) (b : Binds K fd ["self", "cells"] []) (c_is_line : C8.Cal P w K mg base 1 "is_line" (sp_is_line K C) []) : C8.Mak P w K mg base 2 "Board" C (sp_Board K C) [] := by
  have S : FnScope ["self", "cells", "line"] ["self", "cells"] (C8.fnScope (inClass (topS 11) 0)) := C8.fnScope_by (by decide +kernel)
  have nd := S.nd
  refine mak_R (n := 1) (Γ' := fun cs y => [.own y (oB K C (eC cs)), .pr (D K (eC cs)), .no]) M hm F b S (fun _ => rfl) rfl (fun cs y => .cons (.inr rfl) (.nil _)) fun cdv A outer s H E hr => ⟨_, (pss_cons (ps_if (PW.pt (pw_or (pt_not (pt_val (pe_callB (cIsi K) (by rfl) T.b_isinstance (by decide +kernel) (pa_cons (pv 1) (pa_cons (pe_bltn (v := .ty "tuple") (by rfl) T.b_tuple (by decide +kernel) rfl) pa_nil))))) (pw_or1 (pt_not (pt_chain op_le op_le pe_int (pe_callB (cLen K) (by rfl) T.b_len (by decide +kernel) (pa_cons (pv 1) pa_nil)) (C8.pe_gc (by rfl) T.g_MOST_LINES)))))) (pss_one ps_never) pss_nil)
    (pss_cons (ps_if (pt_not (pt_val (pe_callB (cAll K rfl rfl) (by rfl) T.b_all (by decide +kernel) (pa_cons (pe_lc (own := [("line", 2)]) (g := (gName 2)) rfl nd (piT K rfl (pv 1)) (blkOk_by (by kernel_rfl)) (fun _ _ _ _ _ => (pg_name (i := 2) nd rfl (by first | exact Or.inl rfl | exact Or.inr rfl))) (fun _ _ _ _ _ => pts_nil) (fun _ _ _ _ _ => (C8.pe_c c_is_line hr (by decide) (by rfl) (pa_cons (pv 2) pa_nil)))) pa_nil)))) (pss_one ps_never) pss_nil)
    (pss_cons (ps_if (pt_not (pt_val (pe_callB (cAll K rfl rfl) (by rfl) T.b_all (by decide +kernel) (pa_cons (pe_lc (own := [("line", 2)]) (g := (gName 2)) rfl nd (piT K rfl (pv 1)) (blkOk_by (by kernel_rfl)) (fun _ _ _ _ _ => (pg_name (i := 2) nd rfl (by first | exact Or.inl rfl | exact Or.inr rfl))) (fun _ _ _ _ _ => pts_nil) (fun _ _ _ _ _ => (pe_cmpR op_eq (pe_callB call_len_str (by rfl) T.b_len (by decide +kernel) (pa_cons (pv 2) pa_nil)) (pe_callB call_len_str (by rfl) T.b_len (by decide +kernel) (pa_cons (pe_ix (ixT K) (pv 1) pe_int (fun _ _ => rfl)) pa_nil)) (nomark _)))) pa_nil)))) (pss_one ps_never) pss_nil)
    (pss_one (psFld K rfl (pv 0) (pv 1) rfl))))), ?_⟩
  intro cs g y
  have hl := g.r5
  have h1 := g.r1
  have e0 : cs[0]? = some (cs.getD 0 []) := by
    cases cs with
    | nil => exact absurd h1 (by decide)
    | cons c cs => rfl
  refine st_seq (st_skip (Et.is (et_or (et_not (et_B (ev_isi (ev_var rfl) rfl))) fun _ => et_not (et_test (ev_chLeLe ev_int (ev_lenTN (ev_var rfl)) ev_int))) ?_)) <|
    st_seq (st_skip (Et.is (et_not (et_B (ev_all (bs := cs.map fun _ => true) (Ev.is (ev_new (en_lc (xs := cs) (A := fun l => D K (eS l)) (F := fun c => if true then some (.bool true) else none) (ei_tup (ev_var rfl)) (by rw [List.map_map]; rfl) rfl (by omega) fun l hm =>
      cg_name (by decide) (lt_some rfl) et_yes (fun _ => ev_call (α := List Nat) l (ea_cons (ev_var rfl) ea_nil) ⟨by have := g.ln l hm; have := g.c1; omega, by have := g.ln l hm; have := g.c5; omega, g.sg l hm⟩) (fun h => nomatch h) (fun _ => rfl))) ?_)))) ?_)) <|
    st_seq (st_skip (Et.is (et_not (et_B (ev_all (bs := cs.map fun l => decide (l.length = colsOf cs)) (Ev.is (ev_new (en_lc (xs := cs) (A := fun l => D K (eS l)) (F := fun l => if true then some (.bool (decide (l.length = colsOf cs))) else none) (ei_tup (ev_var rfl)) (by rw [List.map_map]; rfl) rfl (by omega) fun l hm =>
      cg_name (by decide) (lt_some rfl) et_yes (fun _ => ev_eqN (ev_lenSN (ev_var rfl) (by have := g.ln l hm; have := g.c5; omega)) (ev_lenSN (ev_ixT (ev_var rfl) ev_int (atI_nat (i := 0) (by rw [List.getElem?_map, e0]; rfl))) (by have := g.c5; unfold colsOf at this; omega))) (fun h => nomatch h) (fun _ => rfl))) ?_)))) ?_)) <|
    st_seq (go_fld T.cl T.nT (ev_var rfl) rfl) st_next
  · have e1 : decide ((1 : Int) ≤ (cs.length : Nat)) = true := decide_eq_true (by omega)
    have e2 : decide (((cs.length : Nat) : Int) ≤ 5) = true := decide_eq_true (by omega)
    rw [e1, e2]
    rfl
  · rw [filterMap_some, List.map_map]; rfl
  · have e : (cs.map fun _ => true).all id = true := by
      rw [List.all_map]
      exact List.all_eq_true.mpr fun c hc => rfl
    rw [e]
    rfl
  · rw [filterMap_some, List.map_map]; rfl
  · have e : (cs.map fun l => decide (l.length = colsOf cs)).all id = true := by
      rw [List.all_map]
      exact List.all_eq_true.mpr fun l hm => decide_eq_true (g.ln l hm)
    rw [e]
    rfl
theorem prop_cells (T : Tx K mg C) {p g : Addr} {fd : FuncData} (hp : PropOf K C "cells" p g) (F : C8.Fun K "cells" "Board.cells" (inClass (topS 11) 1) g fd) (b : Binds K fd ["self"] []) : PropC P w K mg base 1 C "cells" (sp_cells K C) := by
  have S : FnScope ["self"] ["self"] (C8.fnScope (inClass (topS 11) 1)) := C8.fnScope_by (by decide +kernel)
  have nd := S.nd
  refine ⟨p, g, fd, _, hp, fn_F (n := 0) F S (fun _ => rfl) rfl fun cdv A outer s H E hr => ⟨_, (pss_one (ps_ret (peFld K rfl (pv 0) rfl))), ?_⟩, b⟩
  intro cs g
  exact rt_ret (ev_table T.cl T.nT (ev_var rfl)) (Wk.nil _)
theorem prop_rows (T : Tx K mg C) {p g : Addr} {fd : FuncData} (hp : PropOf K C "rows" p g) (F : C8.Fun K "rows" "Board.rows" (inClass (topS 11) 2) g fd) (b : Binds K fd ["self"] []) : PropC P w K mg base 1 C "rows" (sp_rows K C) := by
  have S : FnScope ["self"] ["self"] (C8.fnScope (inClass (topS 11) 2)) := C8.fnScope_by (by decide +kernel)
  have nd := S.nd
  refine ⟨p, g, fd, _, hp, fn_F (n := 0) F S (fun _ => rfl) rfl fun cdv A outer s H E hr => ⟨_, (pss_one (ps_ret (pe_callB (cLen K) (by rfl) T.b_len (by decide +kernel) (pa_cons (peFld K rfl (pv 0) rfl) pa_nil)))), ?_⟩, b⟩
  intro cs g
  exact rt_ret (ev_lenTN (ev_table T.cl T.nT (ev_var rfl))) (Wk.nil _)
theorem prop_columns (T : Tx K mg C) {p g : Addr} {fd : FuncData} (hp : PropOf K C "columns" p g) (F : C8.Fun K "columns" "Board.columns" (inClass (topS 11) 3) g fd) (b : Binds K fd ["self"] []) : PropC P w K mg base 1 C "columns" (sp_columns K C) := by
  have S : FnScope ["self"] ["self"] (C8.fnScope (inClass (topS 11) 3)) := C8.fnScope_by (by decide +kernel)
  have nd := S.nd
  refine ⟨p, g, fd, _, hp, fn_F (n := 0) F S (fun _ => rfl) rfl fun cdv A outer s H E hr => ⟨_, (pss_one (ps_ret (pe_callB call_len_str (by rfl) T.b_len (by decide +kernel) (pa_cons (pe_ix (ixT K) (peFld K rfl (pv 0) rfl) pe_int (fun _ _ => rfl)) pa_nil)))), ?_⟩, b⟩
  intro cs g
  exact rt_ret (ev_lenSN (ev_ixT (ev_table T.cl T.nT (ev_var rfl)) ev_int (atI_nat (i := 0) (by rw [List.getElem?_map, cs_at0 g]; rfl))) (by have := g.c5; unfold colsOf at this; omega)) (Wk.nil _)
theorem len_Board (T : Tx K mg C) {f : Addr} {fd : FuncData} (me : Meth K C "__len__" f) (F : C8.Fun K "__len__" "Board.__len__" (inClass (topS 11) 4) f fd) (b : Binds K fd ["self"] []) : LenB P w K mg base 1 C (sp_len K C) := by
  have S : FnScope ["self"] ["self"] (C8.fnScope (inClass (topS 11) 4)) := C8.fnScope_by (by decide +kernel)
  have nd := S.nd
  refine ⟨f, fd, _, me, fn_F (n := 0) F S (fun _ => rfl) rfl fun cdv A outer s H E hr => ⟨_, (pss_one (ps_ret (pe_callB (cLen K) (by rfl) T.b_len (by decide +kernel) (pa_cons (pe_lst (paStar K rfl (peFld K rfl (pv 0) rfl) (paStarS rfl (pe_ix (ixT K) (peFld K rfl (pv 0) rfl) pe_int (fun _ _ => rfl)) pa_nil))) pa_nil)))), ?_⟩, b⟩
  intro cs g
  refine rt_ret ((ev_lenL (ev_lst (ed_starT (ev_table T.cl T.nT (ev_var rfl)) (ed_starS (ev_ixT (ev_table T.cl T.nT (ev_var rfl)) ev_int (atI_nat (i := 0) (by rw [List.getElem?_map, cs_at0 g]; rfl))) ?_ ed_nil)) ?_)).is ?_) (Wk.nil _)
  · have h5 : (cs.getD 0 []).length ≤ 5 := g.c5
    show (cs.getD 0 []).toArray.size ≤ 100000
    simp only [List.size_toArray]
    omega
  · have h5 : (cs.getD 0 []).length ≤ 5 := g.c5
    have := g.r5
    simp only [List.length_append, List.length_map, List.length_nil, List.toList_toArray]
    omega
  · simp only [List.length_append, List.length_map, List.length_nil, List.toList_toArray]
    rfl
theorem cal_need_board (T : Tx K mg C) {f : Addr} {fd : FuncData} (F : C8.Def K mg "need_board" (topS 12) f fd) (b : Binds K fd ["board"] [])  : C8.Cal P w K mg base 1 "need_board" (sp_need_board K C) [] := by
  have S : FnScope ["board"] ["board"] (C8.fnScope (topS 12)) := C8.fnScope_by (by decide +kernel)
  have nd := S.nd
  refine cal_G (n := 0) (Γ' := fun cs => [.pr (Br K C cs)]) F b S (fun _ => rfl) rfl fun cdv A outer s H E hr => ⟨_, (pss_one (ps_if (pt_not (pt_val (pe_callB (C8.call_isC T.isC) (by rfl) T.b_isinstance (by decide +kernel) (pa_cons (pv 0) (pa_cons (C8.pe_gc (by rfl) T.g_Board) pa_nil))))) (pss_one ps_never) pss_nil)), ?_⟩
  intro cs g
  exact st_seq (st_skip (et_not (et_B (ev_isB (ev_var rfl))))) st_next
end
end WF

/-! ## text W3 -/
namespace WF
open PySem PySem.Spec PyProof.Rows L2
abbrev sp_all_steps (K : PySem.W.Frag) (C : Addr) : Sp := spF (α := List (List Nat)) (fun cs => [Br K C cs]) Good (fun cs => D K (ePs (stepsOf cs)))
abbrev sp_steps (K : PySem.W.Frag) (C : Addr) : Sp := spF (α := List (List Nat)) (fun cs => [Br K C cs]) Good (fun cs => D K (ePs (stepsOf cs)))
theorem alike_eP (b b' : Nat × Nat) : PySem.W.alike (eP b) (eP b') = true := by simp [eP, PySem.W.alike, PySem.W.alikeAll]
theorem depth_eP (b : Nat × Nat) : (eP b).depth ≤ 60 := by
  simp only [eP, PyData.depth, PyData.depthAll]
  decide
def rawTo (cs : List (List Nat)) (i : Nat) : List (Nat × Nat) := (cs.zipIdx.take i).flatMap fun l => l.1.zipIdx.flatMap (stepsAt cs.length l.2)
def lineTo (many at_ : Nat) (l : List Nat) (j : Nat) : List (Nat × Nat) := (l.zipIdx.take j).flatMap (stepsAt many at_)
theorem rawTo_len (cs : List (List Nat)) : rawTo cs cs.length = stepsRaw cs := by
  unfold rawTo
  rw [List.take_of_length_le (by simp)]
  rfl
theorem lineTo_len (m a : Nat) (l : List Nat) : lineTo m a l l.length = l.zipIdx.flatMap (stepsAt m a) := by
  unfold lineTo
  rw [List.take_of_length_le (by simp)]
theorem rawTo_succ {cs : List (List Nat)} {i : Nat} {l : List Nat} (h : cs[i]? = some l) : rawTo cs (i + 1) = rawTo cs i ++ lineTo cs.length i l l.length := by
  rw [lineTo_len]
  unfold rawTo
  rw [List.take_add_one, List.getElem?_zipIdx, h, List.flatMap_append]
  congr 1
  simp
theorem lineTo_succ {m a : Nat} {l : List Nat} {j c : Nat} (h : l[j]? = some c) : lineTo m a l (j + 1) = lineTo m a l j ++ stepsAt m a (c, j) := by
  unfold lineTo
  rw [List.take_add_one, List.getElem?_zipIdx, h, List.flatMap_append]
  congr 1
  simp
theorem stepsAt_len (m a : Nat) (p : Nat × Nat) : (stepsAt m a p).length ≤ 2 := by
  unfold stepsAt
  rw [List.length_append]
  split <;> split <;> simp
theorem flatMap_len {α β : Type} {f : α → List β} {b : Nat} : ∀ (xs : List α), (∀ x ∈ xs, (f x).length ≤ b) → (xs.flatMap f).length ≤ xs.length * b
  | [], _ => by simp
  | x :: xs, h => by
    rw [List.flatMap_cons, List.length_append, List.length_cons, Nat.succ_mul]
    have h1 := h x (List.mem_cons_self ..)
    have h2 := flatMap_len xs fun y hy => h y (List.mem_cons_of_mem _ hy)
    omega
theorem lineTo_bound {m a : Nat} {l : List Nat} {j : Nat} (h : l.length ≤ 5) : (lineTo m a l j).length ≤ 10 := by
  have := flatMap_len (f := stepsAt m a) (b := 2) (l.zipIdx.take j) fun x _ => stepsAt_len m a x
  have h2 : (l.zipIdx.take j).length ≤ 5 := by rw [List.length_take, List.length_zipIdx]; omega
  unfold lineTo
  omega
theorem rawTo_bound {cs : List (List Nat)} {i : Nat} (g : Good cs) : (rawTo cs i).length ≤ 50 := by
  have h2 : (cs.zipIdx.take i).length ≤ 5 := by rw [List.length_take, List.length_zipIdx]; have := g.r5; omega
  have := flatMap_len (f := fun l : List Nat × Nat => l.1.zipIdx.flatMap (stepsAt cs.length l.2)) (b := 10) (cs.zipIdx.take i) fun x hx => by
    have hx2 := List.mem_of_mem_take hx
    obtain ⟨l, k⟩ := x
    have hm : l ∈ cs := (List.mem_zipIdx' hx2).2 ▸ List.getElem_mem _
    have := lineTo_bound (m := cs.length) (a := k) (l := l) (j := l.length) (by have := g.ln l hm; have := g.c5; omega)
    rw [lineTo_len] at this
    exact this
  unfold rawTo
  omega
section
variable {P : Program} {w : World} {K : PySem.W.Frag} {mg : Str → Option Value} {base : Heap} {C : Addr}
theorem go_ifApp {Γ : List Sl} {i : Nat} {a : Addr} {ds : List PyData} {d : PyData} {b : Bool} {tt : TT} {te : TE} (ht : Et Γ tt b Γ) (hx : Γ[i]? = some (.own a (oL K ds))) (h : Ev Γ te (D K d) Γ) (hz : ds.length < 100000) :
    Go Γ (tIfS tt (tDrop (tBM K "list" rAppend (tVar i) (tCons te tNil))) tNext) (Γ.set i (.own a (oL K (ds ++ if b then [d] else [])))) := by
  refine st_if ht (fun hb => ?_) fun hb => ?_
  · subst hb
    exact st_append hx h hx hz
  · subst hb
    refine st_next.is ?_
    show Γ = Γ.set i (.own a (oL K (ds ++ [])))
    rw [List.append_nil, set_id hx]
theorem cal_all_steps (T : Tx K mg C) {f : Addr} {fd : FuncData} (F : C8.Def K mg "all_steps" (topS 13) f fd) (b : Binds K fd ["board"] [])  : C8.Cal P w K mg base 1 "all_steps" (sp_all_steps K C) [] := by
  have S : FnScope ["board", "found", "many", "at", "line", "place", "sign"] ["board"] (C8.fnScope (topS 13)) := C8.fnScope_by (by decide +kernel)
  have nd := S.nd
  refine cal_F (n := 6) F b S (fun _ => rfl) rfl fun cdv A outer s H E hr => ⟨_, (pss_cons (ps_par (i := 1) (j := 2) rfl nd rfl rfl (by decide) rfl rfl (pa_cons (pe_lst pa_nil) (pa_cons (pe_callB (cLen K) (by rfl) T.b_len (by decide +kernel) (pa_cons (peFld K rfl (pv 0) rfl) pa_nil)) pa_nil)) (by rfl))
    (pss_cons (ps_for PassesOwn.never rfl (piET K rfl (by rfl) T.b_enumerate (pa_cons (peFld K rfl (pv 0) rfl) pa_nil)) (pgTup K rfl rfl (pgs_cons (pg_name (i := 3) nd rfl (by first | exact Or.inl rfl | exact Or.inr rfl)) (pgs_cons (pg_name (i := 4) nd rfl (by first | exact Or.inl rfl | exact Or.inr rfl)) pgs_nil)))
    (pss_one (ps_for PassesOwn.never rfl (piES (by rfl) T.b_enumerate (pa_cons (pv 4) pa_nil)) (pgTup K rfl rfl (pgs_cons (pg_name (i := 5) nd rfl (by first | exact Or.inl rfl | exact Or.inr rfl)) (pgs_cons (pg_name (i := 6) nd rfl (by first | exact Or.inl rfl | exact Or.inr rfl)) pgs_nil)))
    (pss_cons (ps_if (pt_cmpR op_in_sign (pv 6) pe_str (by rfl)) (pss_one (ps_expr (peBm K rfl PySem.F.plainAttrs_list PySem.F.slot_list_append PySem.F.type_list_append mt_append (pv 1) (pa_cons (pe_tup (pa_cons (pv 3) (pa_cons (pe_op op_add (pv 2) (pv 5)) pa_nil))) pa_nil)))) pss_nil)
    (pss_one (ps_if (pt_cmpR op_in_sign (pv 6) pe_str (by rfl)) (pss_one (ps_expr (peBm K rfl PySem.F.plainAttrs_list PySem.F.slot_list_append PySem.F.type_list_append mt_append (pv 1) (pa_cons (pe_tup (pa_cons (pe_op op_add (pv 2) (pv 5)) (pa_cons (pv 3) pa_nil))) pa_nil)))) pss_nil))))))
    (pss_one (ps_ret (pe_callB (cSortedD K rfl (in65 hr)) (by rfl) T.b_sorted (by decide +kernel) (pa_cons (pv 1) pa_nil)))))), ?_⟩
  intro cs g
  refine rt_parN1 (O := oL K []) (en_lst ed_nil (by simp)) (ev_lenTN (ev_table T.cl T.nT (ev_var rfl))) (lt_some rfl) (lt_some rfl) (by decide) fun a => ?_
  have hl := g.r5
  refine rt_seq (Γ1 := [.pr (Br K C cs), .own a (oL K ((stepsRaw cs).map eP)), .pr (D K (eN cs.length)), .no, .no, .no, .no]) ?_ (rt_ret (ev_new (en_sort (ev_own rfl) alike_eP (.inl fun b _ => ⟨_, _, rfl⟩) fun b _ => depth_eP b)) (Wk.nil _))
  refine go_forE (S := fun i => [.pr (Br K C cs), .own a (oL K ((rawTo cs i).map eP)), .pr (D K (eN cs.length)), .no, .no, .no, .no]) (ei_enumT (ev_table T.cl T.nT (ev_var rfl))) (by repeat (first | exact Wk.nil _ | exact Wk.refl _ | refine Wk.cons (by first | exact Or.inr rfl | exact Or.inl rfl) ?_)) (fun i l hc => ?_) (by rw [rawTo_len]; exact Wk.refl _)
  have hm : l ∈ cs := List.mem_of_getElem? hc
  have hl5 : l.length ≤ 5 := by have := g.ln l hm; have := g.c5; omega
  refine tg_pair (lt_some rfl) (lt_some rfl) ?_
  refine go_forE (S := fun j => [.pr (Br K C cs), .own a (oL K ((rawTo cs i ++ lineTo cs.length i l j).map eP)), .pr (D K (eN cs.length)), .pr (D K (eN i)), .pr (D K (eS l)), .no, .no]) (ei_enumSN (ev_var rfl)) (by rw [show lineTo cs.length i l 0 = [] from rfl, List.append_nil]; exact (by repeat (first | exact Wk.nil _ | exact Wk.refl _ | refine Wk.cons (by first | exact Or.inr rfl | exact Or.inl rfl) ?_))) (fun j c hj => ?_) (by rw [rawTo_succ hc]; exact (by repeat (first | exact Wk.nil _ | exact Wk.refl _ | refine Wk.cons (by first | exact Or.inr rfl | exact Or.inl rfl) ?_)))
  refine tg_pair (lt_some rfl) (lt_some rfl) ?_
  have hb := rawTo_bound (i := i) g
  have hb2 := lineTo_bound (m := cs.length) (a := i) (j := j) hl5
  refine (st_seq (go_ifApp (d := eP (i, cs.length + j)) (et_test (ev_inSign (c := c) (z := ">x") (ev_var rfl) ev_str)) rfl (ev_pair (ev_var rfl) (ev_addN (ev_var rfl) (ev_var rfl))) ?_) <|
    go_ifApp (d := eP (cs.length + j, i)) (et_test (ev_inSign (c := c) (z := "<x") (ev_var rfl) ev_str)) rfl (ev_pair (ev_addN (ev_var rfl) (ev_var rfl)) (ev_var rfl)) ?_).wk ?_
  · rw [List.length_map, List.length_append]; omega
  · rw [List.length_append, List.length_map, List.length_append]
    split <;> simp <;> omega
  · refine Wk.cons (.inr rfl) (Wk.cons (.inr (congrArg (fun z => Sl.own a (oL K z)) ?_)) (by repeat (first | exact Wk.nil _ | exact Wk.refl _ | refine Wk.cons (by first | exact Or.inr rfl | exact Or.inl rfl) ?_)))
    rw [lineTo_succ hj]
    unfold stepsAt
    rw [List.map_append, List.map_append, List.map_append, ← List.append_assoc, ← List.append_assoc, List.map_append]
    congr 1
    · congr 1
      rw [show (">x" : Str).cps.toList = [62, 120] from rfl]
      by_cases h : c ∈ [62, 120]
      · rw [if_pos (decide_eq_true h), if_pos h]; rfl
      · rw [if_neg h, if_neg (by simpa using h)]; rfl
    · rw [show ("<x" : Str).cps.toList = [60, 120] from rfl]
      by_cases h : c ∈ [60, 120]
      · rw [if_pos (decide_eq_true h), if_pos h]; rfl
      · rw [if_neg h, if_neg (by simpa using h)]; rfl
end
end WF

/-! ## text W4 -/
namespace WF
open PySem PySem.Spec PyProof.Rows L2
abbrev sp_closes (K : PySem.W.Frag) (_ : Addr) : Sp := spF (α := List (Nat × Nat) × List Nat) (fun a => [D K (ePs a.1), D K (eL a.2)]) (fun a => a.1.length ≤ 100000) (fun a => D K (.bool (closes a.1 a.2)))
abbrev sp_lies_in (K : PySem.W.Frag) (_ : Addr) : Sp := spF (α := List Nat × List Nat) (fun a => [D K (eNs a.1), D K (eL a.2)]) (fun a => a.1.length ≤ 100000) (fun a => D K (.bool (liesIn a.1 a.2)))
abbrev sp_all_lots (K : PySem.W.Frag) (_ : Addr) : Sp := spF (α := Nat) (fun n => [D K (eN n)]) (fun n => n ≤ 10) (fun n => DL K ((allLots n).map eL))
abbrev sp_all_closed (K : PySem.W.Frag) (C : Addr) : Sp := spF (α := List (List Nat)) (fun cs => [Br K C cs]) Good (fun cs => D K (eLs (lotsOf cs)))
abbrev sp_closed_lots (K : PySem.W.Frag) (C : Addr) : Sp := spF (α := List (List Nat)) (fun cs => [Br K C cs]) Good (fun cs => D K (eLs (lotsOf cs)))
theorem allLots_len : ∀ n, (allLots n).length = 2 ^ n
  | 0 => rfl
  | n + 1 => by
    show (allLots n ++ (allLots n).map (· ++ [n])).length = _
    rw [List.length_append, List.length_map, allLots_len n, Nat.pow_succ]
    omega
theorem allLots_small {n : Nat} (h : n ≤ 10) : (allLots n).length ≤ 1024 := by
  rw [allLots_len]
  exact Nat.le_trans (Nat.pow_le_pow_right (by decide) h) (by decide)
theorem allLots_mem : ∀ {n : Nat} {l : List Nat}, l ∈ allLots n → l.length ≤ n
  | 0, l, h => by
    have : l = [] := by simpa [allLots] using h
    subst this
    exact Nat.le_refl _
  | n + 1, l, h => by
    rcases List.mem_append.mp h with h | h
    · exact Nat.le_succ_of_le (allLots_mem h)
    · obtain ⟨m, h1, rfl⟩ := List.mem_map.mp h
      have := allLots_mem h1
      rw [List.length_append]
      exact Nat.succ_le_succ this
theorem stepsRaw_bound {cs : List (List Nat)} (g : Good cs) : (stepsRaw cs).length ≤ 50 := by
  rw [← rawTo_len]
  exact rawTo_bound g
theorem stepsOf_bound {cs : List (List Nat)} (g : Good cs) : (stepsOf cs).length ≤ 50 := by
  unfold stepsOf
  rw [List.length_mergeSort]
  exact stepsRaw_bound g
theorem manyOf_le {cs : List (List Nat)} (g : Good cs) : manyOf cs ≤ 10 := by
  have := g.r5
  have := g.c5
  unfold manyOf rowsOf
  omega
/-- the keys of ints and of naturals -/
def toI (l : List Nat) : List Int := l.map fun n : Nat => (n : Int)
theorem tI_toI (l : List Nat) : tI (toI l) = eL l := by
  unfold tI toI
  rw [List.map_map]
  rfl
theorem szKey_toI (l : List Nat) : szKey (toI l) = sizeKey l := by
  unfold szKey sizeKey toI
  rw [List.map_map, List.length_map]
  rfl
theorem toI_inj {a b : List Nat} (h : toI a = toI b) : a = b := by
  induction a generalizing b with
  | nil =>
    cases b with
    | nil => rfl
    | cons _ _ => cases h
  | cons x a ih =>
    cases b with
    | nil => cases h
    | cons y b =>
      have h1 := (List.cons.inj h).1
      have h2 := ih (List.cons.inj h).2
      rw [h2, show x = y from Int.ofNat.inj h1]
theorem sort_toI (key : List Int → PyData) (key' : List Nat → PyData) (hk : ∀ l, key (toI l) = key' l) (ls : List (List Nat)) : (ls.map toI).mergeSort (PySem.W.dataLe false key) = (ls.mergeSort (PySem.W.dataLe false key')).map toI := by
  symm
  apply List.map_mergeSort
  intro a _ b _
  show (!PySem.W.dataLt (key' b) (key' a)) = (!PySem.W.dataLt (key (toI b)) (key (toI a)))
  rw [hk, hk]
theorem map_tI_toI (ls : List (List Nat)) : (ls.map toI).map tI = ls.map eL := by
  rw [List.map_map]
  apply List.map_congr_left
  intro l _
  exact tI_toI l
section
variable {P : Program} {w : World} {K : PySem.W.Frag} {mg : Str → Option Value} {base : Heap} {C : Addr}
theorem sz_ok (T : Tx K mg C) {f : Addr} {fd : FuncData} (F : C8.Def K mg "sized" (topS 19) f fd) (b : Binds K fd ["lot"] []) : SzOk P w K mg base 1 f := by
  have S : FnScope ["lot"] ["lot"] (C8.fnScope (topS 19)) := C8.fnScope_by (by decide +kernel)
  intro A outer s H p its d hr e0 ht hz rd
  exact sized_run (CX := CX0) (k := 0) F.fn b S rfl T.b_len rfl (fun _ _ => rfl) (by decide) hr e0 ht hz rd
theorem cal_steps (T : Tx K mg C) {f : Addr} {fd : FuncData} (F : C8.Def K mg "steps" (topS 14) f fd) (b : Binds K fd ["board"] []) (c_all_steps : C8.Cal P w K mg base 1 "all_steps" (sp_all_steps K C) []) (c_need_board : C8.Cal P w K mg base 1 "need_board" (sp_need_board K C) []) : C8.Cal P w K mg base 2 "steps" (sp_steps K C) [] := by
  have S : FnScope ["board"] ["board"] (C8.fnScope (topS 14)) := C8.fnScope_by (by decide +kernel)
  have nd := S.nd
  refine cal_F (n := 0) F b S (fun _ => rfl) rfl fun cdv A outer s H E hr => ⟨_, (pss_cons (ps_expr (C8.pe_c c_need_board hr (by decide) (by rfl) (pa_cons (pv 0) pa_nil)))
    (pss_one (ps_ret (C8.pe_c c_all_steps hr (by decide) (by rfl) (pa_cons (pv 0) pa_nil))))), ?_⟩
  intro cs g
  exact rt_seq (st_drop (ev_call cs (ea_cons (ev_var rfl) ea_nil) g)) (rt_ret (ev_call cs (ea_cons (ev_var rfl) ea_nil) g) (Wk.nil _))
theorem cal_closes (T : Tx K mg C) {f : Addr} {fd : FuncData} (F : C8.Def K mg "closes" (topS 18) f fd) (b : Binds K fd ["told", "lot"] [])  : C8.Cal P w K mg base 1 "closes" (sp_closes K C) [] := by
  have S : FnScope ["told", "lot", "one", "other"] ["told", "lot"] (C8.fnScope (topS 18)) := C8.fnScope_by (by decide +kernel)
  have nd := S.nd
  refine cal_F (n := 2) F b S (fun _ => rfl) rfl fun cdv A outer s H E hr => ⟨_, (pss_one (ps_ret (pe_callB (cAll K rfl rfl) (by rfl) T.b_all (by decide +kernel) (pa_cons (pe_lc (own := [("one", 2), ("other", 3)]) (g := (gTup K 2 (gCons (gName 2) (gCons (gName 3) gNil)))) rfl nd (piL K rfl (pv 0)) (blkOk_by (by kernel_rfl)) (fun _ _ _ _ _ => (pgTup K rfl rfl (pgs_cons (pg_name (i := 2) nd rfl (by first | exact Or.inl rfl | exact Or.inr rfl)) (pgs_cons (pg_name (i := 3) nd rfl (by first | exact Or.inl rfl | exact Or.inr rfl)) pgs_nil)))) (fun _ _ _ _ _ => pts_nil) (fun _ _ _ _ _ => (pe_or (pe_cmpR (oIn K) (pv 2) (pv 1) (by rfl)) (pe_one (pe_cmpR (oNin K) (pv 3) (pv 1) (by rfl)))))) pa_nil)))), ?_⟩
  rintro ⟨st, lot⟩ hp
  refine rt_ret ((ev_all (bs := st.map fun p => decide (p.1 ∈ lot) || !decide (p.2 ∈ lot)) (Ev.is (ev_new (en_lc (xs := st) (A := fun p => D K (eP p)) (F := fun p => if true then some (.bool (decide (p.1 ∈ lot) || !decide (p.2 ∈ lot))) else none) (ei_list (ev_var rfl)) (by rw [List.map_map]; rfl) rfl hp fun p hp =>
    cg_pair (by decide) (lt_some rfl) (by decide) (lt_some rfl) et_yes (fun _ => ev_orV (ev_inT (ev_var rfl) (ev_var rfl)) fun _ => ev_ninT (ev_var rfl) (ev_var rfl)) (fun h => nomatch h) (fun _ => rfl))) ?_)).is ?_) (Wk.nil _)
  · rw [filterMap_some, List.map_map]; rfl
  · rw [List.all_map]; rfl
theorem cal_lies_in (T : Tx K mg C) {f : Addr} {fd : FuncData} (F : C8.Def K mg "lies_in" (topS 24) f fd) (b : Binds K fd ["lot", "other"] [])  : C8.Cal P w K mg base 1 "lies_in" (sp_lies_in K C) [] := by
  have S : FnScope ["lot", "other", "thread"] ["lot", "other"] (C8.fnScope (topS 24)) := C8.fnScope_by (by decide +kernel)
  have nd := S.nd
  refine cal_F (n := 1) F b S (fun _ => rfl) rfl fun cdv A outer s H E hr => ⟨_, (pss_one (ps_ret (pe_callB (cAll K rfl rfl) (by rfl) T.b_all (by decide +kernel) (pa_cons (pe_lc (own := [("thread", 2)]) (g := (gName 2)) rfl nd (piL K rfl (pv 0)) (blkOk_by (by kernel_rfl)) (fun _ _ _ _ _ => (pg_name (i := 2) nd rfl (by first | exact Or.inl rfl | exact Or.inr rfl))) (fun _ _ _ _ _ => pts_nil) (fun _ _ _ _ _ => (pe_cmpR (oIn K) (pv 2) (pv 1) (by rfl)))) pa_nil)))), ?_⟩
  rintro ⟨l, o⟩ hp
  refine rt_ret ((ev_all (bs := l.map fun t => decide (t ∈ o)) (Ev.is (ev_new (en_lc (xs := l) (A := fun t => D K (eN t)) (F := fun t => if true then some (.bool (decide (t ∈ o))) else none) (ei_list (ev_var rfl)) (by rw [List.map_map]; rfl) rfl hp fun t ht =>
    cg_name (by decide) (lt_some rfl) et_yes (fun _ => ev_inT (ev_var rfl) (ev_var rfl)) (fun h => nomatch h) (fun _ => rfl))) ?_)).is ?_) (Wk.nil _)
  · rw [filterMap_some, List.map_map]; rfl
  · rw [List.all_map]; rfl
theorem cal_all_lots (T : Tx K mg C) {f : Addr} {fd : FuncData} (F : C8.Def K mg "all_lots" (topS 20) f fd) (b : Binds K fd ["many"] [])  : C8.Cal P w K mg base 1 "all_lots" (sp_all_lots K C) [] := by
  have S : FnScope ["many", "found", "thread", "lot"] ["many"] (C8.fnScope (topS 20)) := C8.fnScope_by (by decide +kernel)
  have nd := S.nd
  refine cal_F (n := 3) F b S (fun _ => rfl) rfl fun cdv A outer s H E hr => ⟨_, (pss_cons (ps_set (i := 1) nd rfl (Or.inl rfl) (pe_lst (pa_cons (pe_tup pa_nil) pa_nil)))
    (pss_cons (ps_for PassesOwn.never rfl (pi_range1 (by rfl) T.b_range (pa_cons (pv 0) pa_nil)) (pg_name (i := 2) nd rfl (by first | exact Or.inl rfl | exact Or.inr rfl))
    (pss_one (ps_set (i := 1) nd rfl (Or.inl rfl) (pe_op op_cat (pv 1) (pe_lc (own := [("lot", 3)]) (g := (gName 3)) rfl nd (piL K rfl (pv 1)) (blkOk_by (by kernel_rfl)) (fun _ _ _ _ _ => (pg_name (i := 3) nd rfl (by first | exact Or.inl rfl | exact Or.inr rfl))) (fun _ _ _ _ _ => pts_nil) (fun _ _ _ _ _ => (pe_tup (paStar K rfl (pv 3) (pa_cons (pv 2) pa_nil)))))))))
    (pss_one (ps_ret (pv 1))))), ?_⟩
  intro n hn
  refine rt_seq (st_asg (P := DL K ((allLots 0).map eL)) (ev_newL (en_lst (ed_cons (ev_tup ed_nil (by decide)) ed_nil) (by show 1 ≤ 100000; decide))) (lt_some rfl)) ?_
  refine rt_seq (Γ1 := [.pr (D K (eN n)), .pr (DL K ((allLots n).map eL)), .no, .no]) ?_ (rt_ret (ev_var rfl) (Wk.nil _))
  refine go_forM (xs := List.range n) (A := fun i => D K (eN i)) (S := fun i => [.pr (D K (eN n)), .pr (DL K ((allLots i).map eL)), .no, .no]) (ei_rngN (ev_var rfl) (by omega)) (by repeat (first | exact Wk.nil _ | exact Wk.refl _ | refine Wk.cons (by first | exact Or.inr rfl | exact Or.inl rfl) ?_)) (fun i x hx => ?_) (by rw [List.length_range]; exact (by repeat (first | exact Wk.nil _ | exact Wk.refl _ | refine Wk.cons (by first | exact Or.inr rfl | exact Or.inl rfl) ?_)))
  have hi : i < n ∧ x = i := by
    have := List.getElem?_eq_some_iff.mp hx
    obtain ⟨h1, h2⟩ := this
    rw [List.length_range] at h1
    rw [List.getElem_range] at h2
    exact ⟨h1, h2.symm⟩
  obtain ⟨hi, rfl⟩ := hi
  have hz := allLots_small (n := x) (by omega)
  refine tg_name (lt_some rfl) ?_
  refine (st_asg (P := DL K ((allLots (x + 1)).map eL)) (Ev.is (ev_newL (en_cat (ev_var rfl) (ev_newL (en_lc (xs := allLots x) (A := fun l => D K (eL l)) (F := fun l => if true then some (eL (l ++ [x])) else none) (ei_list (ev_dl (ev_var rfl))) (by rw [List.map_map]; rfl) rfl (by omega) fun l hl =>
    cg_name (by decide) (lt_some rfl) et_yes (fun _ => Ev.is (ev_tup (ed_starT (ev_var rfl) (ed_cons (ev_var rfl) ed_nil)) ?_) ?_) (fun h => nomatch h) (fun _ => rfl))) ?_)) ?_) (lt_some rfl)).wk (by repeat (first | exact Wk.nil _ | exact Wk.refl _ | refine Wk.cons (by first | exact Or.inr rfl | exact Or.inl rfl) ?_))
  · have := allLots_mem hl
    simp only [List.length_append, List.length_map, List.length_cons, List.length_nil]
    omega
  · show D K (.tuple (l.map eN ++ [eN x])) = D K (.tuple ((l ++ [x]).map eN))
    rw [List.map_append]
    rfl
  · rw [filterMap_some, List.length_map, List.length_map]
    omega
  · rw [filterMap_some]
    show DL K ((allLots x).map eL ++ (allLots x).map fun l => eL (l ++ [x])) = DL K ((allLots x ++ (allLots x).map (· ++ [x])).map eL)
    rw [List.map_append, List.map_map]
    rfl
theorem cal_all_closed (T : Tx K mg C) {f : Addr} {fd : FuncData} (F : C8.Def K mg "all_closed" (topS 21) f fd) (b : Binds K fd ["board"] []) (c_len : LenB P w K mg base 1 C (sp_len K C)) (c_all_lots : C8.Cal P w K mg base 1 "all_lots" (sp_all_lots K C) []) (c_all_steps : C8.Cal P w K mg base 1 "all_steps" (sp_all_steps K C) []) (c_closes : C8.Cal P w K mg base 1 "closes" (sp_closes K C) []) {fS : Addr} (zf : mg "sized" = some (.ref fS)) (zk : SzOk P w K mg base 1 fS) : C8.Cal P w K mg base 4 "all_closed" (sp_all_closed K C) [] := by
  have S : FnScope ["board", "told", "lot"] ["board"] (C8.fnScope (topS 21)) := C8.fnScope_by (by decide +kernel)
  have nd := S.nd
  refine cal_F (n := 2) F b S (fun _ => rfl) rfl fun cdv A outer s H E hr => ⟨_, (pss_cons (ps_set (i := 1) nd rfl (Or.inr rfl) (C8.pe_c c_all_steps hr (by decide) (by rfl) (pa_cons (pv 0) pa_nil)))
    (pss_one (ps_ret (pe_callBK (cr_sortK (k := 1) (hr.mono (by decide))) (by rfl) T.b_sorted (by decide +kernel) (pa_cons (pe_lc (own := [("lot", 2)]) (g := (gName 2)) rfl nd (piL K rfl (C8.pe_c c_all_lots hr (by decide) (by rfl) (pa_cons (pe_callB (call_lenB c_len (hr.mono (by decide))) (by rfl) T.b_len (by decide +kernel) (pa_cons (pv 0) pa_nil)) pa_nil))) (blkOk_by (by kernel_rfl)) (fun _ _ _ _ _ => (pg_name (i := 2) nd rfl (by first | exact Or.inl rfl | exact Or.inr rfl))) (fun _ _ _ _ _ => (pts_one (pt_val (C8.pe_c c_closes hr (by decide) (by rfl) (pa_cons (pv 1) (pa_cons (pv 2) pa_nil)))))) (fun _ _ _ _ _ => (pv 2))) pa_nil) (pk_cons (pe_glob (v := .ref fS) (by rfl) zf rfl) pk_nil))))), ?_⟩
  intro cs g
  have hm := manyOf_le g
  refine rt_seq (st_asg (ev_call cs (ea_cons (ev_var rfl) ea_nil) g) (lt_some rfl)) ?_
  refine rt_ret ((ev_new (en_sortKey (ls := ((allLots (manyOf cs)).filter (closes (stepsOf cs))).map toI) zk (Ev.is (ev_new (en_lc (xs := allLots (manyOf cs)) (A := fun l => D K (eL l)) (F := fun l => if closes (stepsOf cs) l then some (eL l) else none) (ei_list (ev_dl (ev_call (manyOf cs) (ea_cons (ev_lenB (f := manyOf) (ev_var rfl) g (by omega)) ea_nil) hm))) (by rw [List.map_map]; rfl) rfl (by have := allLots_small hm; omega) fun l hl =>
    cg_name (by decide) (lt_some rfl) (et_B (ev_call (α := List (Nat × Nat) × List Nat) (stepsOf cs, l) (ea_cons (ev_var rfl) (ea_cons (ev_var rfl) ea_nil)) (by have := stepsOf_bound g; show (stepsOf cs).length ≤ 100000; omega))) (fun _ => ev_var rfl) (fun _ => by rfl) (fun _ => by rfl))) ?_))).is ?_) (Wk.nil _)
  · rw [filterMap_if, map_tI_toI]
  · rw [sort_toI szKey sizeKey szKey_toI, map_tI_toI]
    rfl
theorem cal_closed_lots (T : Tx K mg C) {f : Addr} {fd : FuncData} (F : C8.Def K mg "closed_lots" (topS 22) f fd) (b : Binds K fd ["board"] []) (c_all_closed : C8.Cal P w K mg base 4 "all_closed" (sp_all_closed K C) []) (c_need_board : C8.Cal P w K mg base 1 "need_board" (sp_need_board K C) []) : C8.Cal P w K mg base 5 "closed_lots" (sp_closed_lots K C) [] := by
  have S : FnScope ["board"] ["board"] (C8.fnScope (topS 22)) := C8.fnScope_by (by decide +kernel)
  have nd := S.nd
  refine cal_F (n := 0) F b S (fun _ => rfl) rfl fun cdv A outer s H E hr => ⟨_, (pss_cons (ps_expr (C8.pe_c c_need_board hr (by decide) (by rfl) (pa_cons (pv 0) pa_nil)))
    (pss_one (ps_ret (C8.pe_c c_all_closed hr (by decide) (by rfl) (pa_cons (pv 0) pa_nil))))), ?_⟩
  intro cs g
  exact rt_seq (st_drop (ev_call cs (ea_cons (ev_var rfl) ea_nil) g)) (rt_ret (ev_call cs (ea_cons (ev_var rfl) ea_nil) g) (Wk.nil _))
end
end WF

/-! ## text E1 -/
namespace WF
open PySem PySem.Spec PyProof.Rows L2
/-! ### data that stand for things: equal when the things are -/
structure OkE {α : Type} [DecidableEq α] (enc : α → PyData) (n : Nat) (p : α → Prop) : Prop where
  lay : ∀ x, p x → (enc x).canLay0 = true
  dp : ∀ x, p x → (enc x).depth ≤ n
  eq : ∀ x y, PyData.eqv (enc x) (enc y) = decide (x = y)
theorem okAll_lay {α : Type} {enc : α → PyData} : ∀ {xs : List α}, (∀ x ∈ xs, (enc x).canLay0 = true) → PyData.canLayAll0 (xs.map enc) = true
  | [], _ => by simp [PyData.canLayAll0]
  | x :: xs, h => by
    rw [List.map_cons, PyData.canLayAll0, h x (List.mem_cons_self ..), okAll_lay fun y hy => h y (List.mem_cons_of_mem _ hy)]
    rfl
theorem okAll_dp {α : Type} {enc : α → PyData} {n : Nat} : ∀ {xs : List α}, (∀ x ∈ xs, (enc x).depth ≤ n) → PyData.depthAll (xs.map enc) ≤ n
  | [], _ => by simp [PyData.depthAll]
  | x :: xs, h => by
    rw [List.map_cons, PyData.depthAll]
    exact Nat.max_le.mpr ⟨h x (List.mem_cons_self ..), okAll_dp fun y hy => h y (List.mem_cons_of_mem _ hy)⟩
theorem okAll_eq {α : Type} [DecidableEq α] {enc : α → PyData} (h : ∀ x y, PyData.eqv (enc x) (enc y) = decide (x = y)) : ∀ xs ys : List α, PyData.eqvAll (xs.map enc) (ys.map enc) = decide (xs = ys)
  | [], [] => by simp [PyData.eqvAll]
  | [], _ :: _ => by simp [PyData.eqvAll]
  | _ :: _, [] => by simp [PyData.eqvAll]
  | x :: xs, y :: ys => by
    rw [List.map_cons, List.map_cons, PyData.eqvAll, h, okAll_eq h xs ys]
    by_cases h1 : x = y <;> by_cases h2 : xs = ys <;> simp [h1, h2]
theorem OkE.list {α : Type} [DecidableEq α] {enc : α → PyData} {n : Nat} {p : α → Prop} (h : OkE enc n p) : OkE (fun xs : List α => .list (xs.map enc)) (n + 1) (fun xs => ∀ x ∈ xs, p x) where
  lay := fun xs hx => by
    show PyData.canLay0 (.list (xs.map enc)) = true
    rw [PyData.canLay0]
    exact okAll_lay fun x hm => h.lay x (hx x hm)
  dp := fun xs hx => by
    show PyData.depth (.list (xs.map enc)) ≤ n + 1
    rw [PyData.depth]
    exact Nat.succ_le_succ (okAll_dp fun x hm => h.dp x (hx x hm))
  eq := fun xs ys => by
    show PyData.eqv (.list (xs.map enc)) (.list (ys.map enc)) = _
    rw [PyData.eqv, okAll_eq h.eq]
theorem OkE.tup {α : Type} [DecidableEq α] {enc : α → PyData} {n : Nat} {p : α → Prop} (h : OkE enc n p) : OkE (fun xs : List α => .tuple (xs.map enc)) (n + 1) (fun xs => ∀ x ∈ xs, p x) where
  lay := fun xs hx => by
    show PyData.canLay0 (.tuple (xs.map enc)) = true
    rw [PyData.canLay0]
    exact okAll_lay fun x hm => h.lay x (hx x hm)
  dp := fun xs hx => by
    show PyData.depth (.tuple (xs.map enc)) ≤ n + 1
    rw [PyData.depth]
    exact Nat.succ_le_succ (okAll_dp fun x hm => h.dp x (hx x hm))
  eq := fun xs ys => by
    show PyData.eqv (.tuple (xs.map enc)) (.tuple (ys.map enc)) = _
    rw [PyData.eqv, okAll_eq h.eq]
theorem OkE.imp {α : Type} [DecidableEq α] {enc : α → PyData} {n : Nat} {p q : α → Prop} (h : OkE enc n p) (i : ∀ x, q x → p x) : OkE enc n q := ⟨fun x hx => h.lay x (i x hx), fun x hx => h.dp x (i x hx), h.eq⟩
theorem OkE.shaped {α : Type} [DecidableEq α] {enc : α → PyData} {n : Nat} {p : α → Prop} (h : OkE enc n p) {x : α} (hx : p x) (hn : n ≤ 64 := by decide) : SeqAt.shaped (enc x) = true := by
  unfold SeqAt.shaped
  rw [h.lay x hx, decide_eq_true (Nat.le_trans (h.dp x hx) hn)]
  rfl
theorem okN : OkE eN 0 (fun _ => True) where
  lay := fun x _ => by simp [eN, PyData.canLay0]
  dp := fun x _ => by simp [eN, PyData.depth]
  eq := fun x y => by
    show PyData.eqv (.int x) (.int y) = _
    rw [PyData.eqv]
    by_cases h : x = y
    · subst h; simp
    · have h' : ¬ (x : Int) = y := by omega
      simp [h, h']
theorem okL : OkE eL 1 (fun _ => True) := okN.tup.imp fun _ _ _ _ => trivial
theorem okNs : OkE eNs 1 (fun _ => True) := okN.list.imp fun _ _ _ _ => trivial
theorem okLs : OkE eLs 2 (fun _ => True) := okL.list.imp fun _ _ _ _ => trivial
theorem okP : OkE eP 1 (fun _ => True) where
  lay := fun x _ => by simp [eP, eN, PyData.canLay0, PyData.canLayAll0]
  dp := fun x _ => by simp [eP, eN, PyData.depth, PyData.depthAll]
  eq := fun x y => by
    show PyData.eqv (.tuple [eN x.1, eN x.2]) (.tuple [eN y.1, eN y.2]) = _
    rw [PyData.eqv, PyData.eqvAll, PyData.eqvAll, PyData.eqvAll, okN.eq, okN.eq]
    obtain ⟨a, b⟩ := x
    obtain ⟨c, d⟩ := y
    by_cases h1 : a = c <;> by_cases h2 : b = d <;> simp [h1, h2]
theorem okPs : OkE ePs 2 (fun _ => True) := okP.list.imp fun _ _ _ _ => trivial
theorem okS : OkE eS 0 (fun z => ∀ c ∈ z, c ∈ signs) where
  lay := fun x h => by
    show PyData.canLay0 (.str ⟨x.toArray⟩) = true
    rw [PyData.canLay0]
    show (x.toArray.all fun c => decide (c < 0x110000)) = true
    rw [List.all_toArray]
    refine List.all_eq_true.mpr fun c hc => decide_eq_true ?_
    have := h c hc
    simp only [signs, List.mem_cons, List.not_mem_nil, or_false] at this
    omega
  dp := fun x _ => by simp [eS, PyData.depth]
  eq := fun x y => by
    show PyData.eqv (.str ⟨x.toArray⟩) (.str ⟨y.toArray⟩) = _
    rw [PyData.eqv]
    by_cases h : x = y
    · subst h; simp
    · have h' : ¬ (⟨x.toArray⟩ : Str) = ⟨y.toArray⟩ := fun e => h (by
        have := congrArg (fun z : Str => z.cps.toList) e
        simpa using this)
      simp [h, h']
theorem okC : OkE eC 1 (fun cs => ∀ l ∈ cs, ∀ c ∈ l, c ∈ signs) := okS.tup
section
variable {K : PySem.W.Frag} {Γ Γ1 Γ2 : List Sl} {ta tb : TE} {d : PyData}
theorem ev_eqE {α : Type} [DecidableEq α] {enc : α → PyData} {n : Nat} {p : α → Prop} (h : OkE enc n p) {x y : α} (ha : Ev Γ ta (D K (enc x)) Γ1) (hb : Ev Γ1 tb (D K (enc y)) Γ2) (hx : p x) (hy : p y) (hn : n ≤ 64 := by decide) : Ev Γ (tOp (rEqD K) ta tb) (D K (.bool (decide (x = y)))) Γ2 :=
  (ev_eqD ha hb (h.shaped hx hn) (h.shaped hy hn)).is (by rw [h.eq])
theorem ev_neE {α : Type} [DecidableEq α] {enc : α → PyData} {n : Nat} {p : α → Prop} (h : OkE enc n p) {x y : α} (ha : Ev Γ ta (D K (enc x)) Γ1) (hb : Ev Γ1 tb (D K (enc y)) Γ2) (hx : p x) (hy : p y) (hn : n ≤ 64 := by decide) : Ev Γ (tOp (rNeD K) ta tb) (D K (.bool (!decide (x = y)))) Γ2 :=
  (ev_neD ha hb (h.shaped hx hn) (h.shaped hy hn)).is (by rw [h.eq])
theorem any_enc {α : Type} [DecidableEq α] {enc : α → PyData} {n : Nat} {p : α → Prop} (h : OkE enc n p) (x : α) (xs : List α) : ((xs.map enc).any fun z => PyData.eqv z (enc x)) = decide (x ∈ xs) := by
  induction xs with
  | nil => rfl
  | cons y ys ih =>
    rw [List.map_cons, List.any_cons, ih, h.eq]
    by_cases e : y = x
    · subst e; simp
    · have e' : ¬ x = y := fun z => e z.symm
      simp [e, e']
theorem ev_inE {α : Type} [DecidableEq α] {enc : α → PyData} {n : Nat} {p : α → Prop} (h : OkE enc n p) {x : α} {xs : List α} (ha : Ev Γ ta (D K (enc x)) Γ1) (hb : Ev Γ1 tb (D K (.list (xs.map enc))) Γ2) (hx : p x) (hxs : ∀ y ∈ xs, p y) (hn : n + 1 ≤ 64 := by decide) : Ev Γ (tOp (rInD K) ta tb) (D K (.bool (decide (x ∈ xs)))) Γ2 :=
  (ev_inD ha hb (h.shaped hx (Nat.le_of_succ_le hn)) (h.list.shaped (x := xs) hxs hn)).is (by rw [any_enc h])
theorem ev_inTE {α : Type} [DecidableEq α] {enc : α → PyData} {n : Nat} {p : α → Prop} (h : OkE enc n p) {x : α} {xs : List α} (ha : Ev Γ ta (D K (enc x)) Γ1) (hb : Ev Γ1 tb (D K (.tuple (xs.map enc))) Γ2) (hx : p x) (hxs : ∀ y ∈ xs, p y) (hn : n + 1 ≤ 64 := by decide) : Ev Γ (tOp (rInT K) ta tb) (D K (.bool (decide (x ∈ xs)))) Γ2 :=
  (ev_inTD ha hb (h.shaped hx (Nat.le_of_succ_le hn)) (h.tup.shaped (x := xs) hxs hn)).is (by rw [any_enc h])
/-- x != [], x a list of one's own -/
theorem ev_neEmpty {i : Nat} {a : Addr} {ds : List PyData} (h : Γ[i]? = some (.own a (oL K ds))) (hs : SeqAt.shaped (.list ds) = true) : Ev Γ (tOp (rNeD K) (tVar i) (tLst tNil)) (D K (.bool (!ds.isEmpty))) Γ := fun σ G H k Q q => by
  obtain ⟨e1, hg, u, hu, vs, rfl, hd⟩ := k.o i a _ h
  refine ⟨.ref a, e1, by show 0 ≤ sizeLine; decide, fun p hp => ?_⟩
  have e : Ext G H G (upd H p (.lst [])) := .mut k.s hp
  refine ⟨.list ds, .list [], .lst (.inl (.inl (e.h _ _ hu))) (dpAll_up (k.s.trans e.h) _ _ hd), .lst (.inl (.inl upd_same)) .nil, hs, rfl, ?_⟩
  have e2 : PyData.eqv (.list ds) (.list []) = ds.isEmpty := by cases ds <;> simp [PyData.eqv, PyData.eqvAll]
  rw [e2]
  exact q _ G _ (.ext e) (k.ext e) (.bl _)
end
end WF

/-! ## text W5 -/
namespace WF
open PySem PySem.Spec PyProof.Rows L2
/-! ### the search ends -/
theorem dfsAdd_inv {m here : Nat} {s : List Nat × List Nat} {p : Nat × Nat} (h1 : ∀ x ∈ s.1, x < m) (h2 : s.1.Nodup) (hp : p.2 < m) :
    (∀ x ∈ (dfsAdd here s p).1, x < m) ∧ (dfsAdd here s p).1.Nodup ∧ (dfsAdd here s p).2.length + 2 * (m - (dfsAdd here s p).1.length) ≤ s.2.length + 2 * (m - s.1.length) := by
  unfold dfsAdd
  split
  · rename_i h
    have hn : (s.1 ++ [p.2]).Nodup := by
      rw [List.nodup_append]
      refine ⟨h2, by simp, fun a ha b hb e => ?_⟩
      rw [List.mem_singleton.mp hb] at e
      exact h.2 (e ▸ ha)
    have hb : ∀ x ∈ s.1 ++ [p.2], x < m := fun x hx => by
      rcases List.mem_append.mp hx with hx | hx
      · exact h1 x hx
      · rw [List.mem_singleton.mp hx]; exact hp
    have hc : (s.1 ++ [p.2]).length ≤ m := by
      have := List.Nodup.length_le_of_subset hn (l₂ := List.range m) fun x hx => List.mem_range.mpr (hb x hx)
      simpa using this
    refine ⟨hb, hn, ?_⟩
    simp only [List.length_append, List.length_cons, List.length_nil] at hc ⊢
    omega
  · exact ⟨h1, h2, Nat.le_refl _⟩
theorem dfsFold_inv {m here : Nat} : ∀ {st : List (Nat × Nat)} {s : List Nat × List Nat}, (∀ p ∈ st, p.2 < m) → (∀ x ∈ s.1, x < m) → s.1.Nodup →
    (∀ x ∈ (st.foldl (dfsAdd here) s).1, x < m) ∧ (st.foldl (dfsAdd here) s).1.Nodup ∧ (st.foldl (dfsAdd here) s).2.length + 2 * (m - (st.foldl (dfsAdd here) s).1.length) ≤ s.2.length + 2 * (m - s.1.length)
  | [], s, _, h1, h2 => ⟨h1, h2, Nat.le_refl _⟩
  | p :: st, s, hp, h1, h2 => by
    obtain ⟨a, b, c⟩ := dfsAdd_inv (here := here) h1 h2 (hp p (List.mem_cons_self ..))
    obtain ⟨a', b', c'⟩ := dfsFold_inv (here := here) (fun q hq => hp q (List.mem_cons_of_mem _ hq)) a b
    exact ⟨a', b', Nat.le_trans c' c⟩
theorem dfsTurn_inv {m : Nat} {st : List (Nat × Nat)} {s : List Nat × List Nat} (hp : ∀ p ∈ st, p.2 < m) (h1 : ∀ x ∈ s.1, x < m) (h2 : s.1.Nodup) (hs : s.2 ≠ []) :
    (∀ x ∈ (dfsTurn st s).1, x < m) ∧ (dfsTurn st s).1.Nodup ∧ (dfsTurn st s).2.length + 2 * (m - (dfsTurn st s).1.length) + 1 ≤ s.2.length + 2 * (m - s.1.length) := by
  unfold dfsTurn
  rw [if_neg hs]
  obtain ⟨a, b, c⟩ := dfsFold_inv (here := s.2.getLastD 0) (s := (s.1, s.2.dropLast)) hp h1 h2
  refine ⟨a, b, ?_⟩
  have hl : s.2.dropLast.length + 1 = s.2.length := by
    rw [List.length_dropLast]
    have := List.length_pos_iff.mpr hs
    omega
  have c : _ ≤ s.2.dropLast.length + 2 * (m - s.1.length) := c
  omega
theorem dfsTurn_nil {st : List (Nat × Nat)} {s : List Nat × List Nat} (h : s.2 = []) : dfsTurn st s = s := by
  unfold dfsTurn
  rw [if_pos h]
theorem dfsAt_inv {m t : Nat} {st : List (Nat × Nat)} (hp : ∀ p ∈ st, p.2 < m) (ht : t < m) : ∀ i, (∀ x ∈ (dfsAt st t i).1, x < m) ∧ (dfsAt st t i).1.Nodup ∧ ((dfsAt st t i).2 ≠ [] → (dfsAt st t i).2.length + 2 * (m - (dfsAt st t i).1.length) + i ≤ 1 + 2 * (m - 1)) ∧ ((dfsAt st t i).2 ≠ [] → ∀ j < i, (dfsAt st t j).2 ≠ [])
  | 0 => by
    refine ⟨fun x hx => ?_, by simp [dfsAt], fun _ => Nat.le_refl _, fun _ j hj => absurd hj (Nat.not_lt_zero j)⟩
    rw [List.mem_singleton.mp hx]
    exact ht
  | i + 1 => by
    obtain ⟨a, b, c, d⟩ := dfsAt_inv hp ht i
    by_cases hs : (dfsAt st t i).2 = []
    · have e : dfsAt st t (i + 1) = dfsAt st t i := dfsTurn_nil hs
      rw [e]
      exact ⟨a, b, fun h => absurd hs h, fun h => absurd hs h⟩
    · obtain ⟨a', b', c'⟩ := dfsTurn_inv hp a b hs
      refine ⟨a', b', fun _ => ?_, fun _ j hj => ?_⟩
      · have := c hs
        show (dfsTurn st (dfsAt st t i)).2.length + 2 * (m - (dfsTurn st (dfsAt st t i)).1.length) + (i + 1) ≤ _
        omega
      · rcases Nat.lt_succ_iff_lt_or_eq.mp hj with h | h
        · exact d hs j h
        · rw [h]; exact hs
theorem dfs_end {m t : Nat} {st : List (Nat × Nat)} (hp : ∀ p ∈ st, p.2 < m) (ht : t < m) : (dfsAt st t (2 * m)).2 = [] := by
  by_cases h : (dfsAt st t (2 * m)).2 = []
  · exact h
  · have := (dfsAt_inv hp ht (2 * m)).2.2.1 h
    have h2 := List.length_pos_iff.mpr h
    omega
theorem dfs_stay {t n : Nat} {st : List (Nat × Nat)} (h : (dfsAt st t n).2 = []) : ∀ k, dfsAt st t (n + k) = dfsAt st t n
  | 0 => rfl
  | k + 1 => by
    show dfsTurn st (dfsAt st t (n + k)) = _
    rw [dfs_stay h k, dfsTurn_nil h]
theorem least {Q : Nat → Prop} [DecidablePred Q] : ∀ n, Q n → ∃ k, k ≤ n ∧ Q k ∧ ∀ i < k, ¬ Q i
  | 0, h => ⟨0, Nat.le_refl _, h, fun i hi => absurd hi (Nat.not_lt_zero i)⟩
  | n + 1, h => by
    by_cases h' : ∃ i, i ≤ n ∧ Q i
    · obtain ⟨i, hi, qi⟩ := h'
      have : ∀ m, Q m → m ≤ n → ∃ k, k ≤ m ∧ Q k ∧ ∀ i < k, ¬ Q i := by
        intro m
        induction m using Nat.strongRecOn with
        | ind m ih =>
          intro qm hm
          by_cases hz : ∃ j, j < m ∧ Q j
          · obtain ⟨j, hj, qj⟩ := hz
            obtain ⟨k, k1, k2, k3⟩ := ih j hj qj (by omega)
            exact ⟨k, by omega, k2, k3⟩
          · exact ⟨m, Nat.le_refl _, qm, fun j hj qj => hz ⟨j, hj, qj⟩⟩
      obtain ⟨k, k1, k2, k3⟩ := this i qi hi
      exact ⟨k, by omega, k2, k3⟩
    · exact ⟨n + 1, Nat.le_refl _, h, fun i hi qi => h' ⟨i, by omega, qi⟩⟩
/-- the turns of the search -/
theorem dfs_turns {m t : Nat} {st : List (Nat × Nat)} (hp : ∀ p ∈ st, p.2 < m) (ht : t < m) : ∃ n, (dfsAt st t n).2 = [] ∧ (∀ i < n, (dfsAt st t i).2 ≠ []) ∧ dfsAt st t n = dfsAt st t (2 * m) := by
  obtain ⟨n, h1, h2, h3⟩ := least (Q := fun i => (dfsAt st t i).2 = []) (2 * m) (dfs_end hp ht)
  refine ⟨n, h2, h3, ?_⟩
  have := dfs_stay h2 (2 * m - n)
  rw [show n + (2 * m - n) = 2 * m by omega] at this
  exact this.symm
theorem stepsAt_lt {m a : Nat} {p q : Nat × Nat} {many : Nat} (h : q ∈ stepsAt m a p) (h1 : a < m) (h2 : m + p.2 < many) : q.1 < many ∧ q.2 < many ∧ ((q.1 < m ∧ m ≤ q.2) ∨ (q.2 < m ∧ m ≤ q.1)) := by
  unfold stepsAt at h
  rcases List.mem_append.mp h with h | h
  · split at h
    · rw [List.mem_singleton.mp h]
      refine ⟨?_, ?_, .inl ⟨?_, ?_⟩⟩ <;> dsimp only <;> omega
    · cases h
  · split at h
    · rw [List.mem_singleton.mp h]
      refine ⟨?_, ?_, .inr ⟨?_, ?_⟩⟩ <;> dsimp only <;> omega
    · cases h
theorem stepsOf_lt {cs : List (List Nat)} (g : Good cs) {q : Nat × Nat} (h : q ∈ stepsOf cs) : q.1 < manyOf cs ∧ q.2 < manyOf cs ∧ ((q.1 < cs.length ∧ cs.length ≤ q.2) ∨ (q.2 < cs.length ∧ cs.length ≤ q.1)) := by
  unfold stepsOf at h
  rw [List.mem_mergeSort] at h
  unfold stepsRaw at h
  obtain ⟨⟨l, i⟩, h1, h2⟩ := List.mem_flatMap.mp h
  obtain ⟨⟨c, j⟩, h3, h4⟩ := List.mem_flatMap.mp h2
  obtain ⟨hi, e1⟩ := List.mem_zipIdx' h1
  obtain ⟨hj, e2⟩ := List.mem_zipIdx' h3
  have hl := g.ln l (e1 ▸ List.getElem_mem _)
  dsimp only at hj
  exact stepsAt_lt h4 hi (by show cs.length + j < cs.length + colsOf cs; omega)
/-- the row after some of the steps -/
def foldTo (st : List (Nat × Nat)) (here : Nat) (s : List Nat × List Nat) (j : Nat) : List Nat × List Nat := (st.take j).foldl (dfsAdd here) s
theorem foldTo_succ {st : List (Nat × Nat)} {here j : Nat} {s : List Nat × List Nat} {p : Nat × Nat} (h : st[j]? = some p) : foldTo st here s (j + 1) = dfsAdd here (foldTo st here s j) p := by
  unfold foldTo
  rw [List.take_add_one, h, List.foldl_append]
  rfl
theorem foldTo_len {st : List (Nat × Nat)} {here : Nat} {s : List Nat × List Nat} : foldTo st here s st.length = st.foldl (dfsAdd here) s := by
  unfold foldTo
  rw [List.take_length]
theorem upN_eq {ys : List Int} {ns : List Nat} (h : ys.Perm (ns.map fun n : Nat => (n : Int))) (hs : ys.Pairwise (· ≤ ·)) : ys = (upN ns).map fun n : Nat => (n : Int) := by
  have h2 : ((upN ns).map fun n : Nat => (n : Int)).Perm (ns.map fun n : Nat => (n : Int)) := (List.mergeSort_perm ns _).map _
  have h3 : ((upN ns).map fun n : Nat => (n : Int)).Pairwise (· ≤ ·) := by
    rw [List.pairwise_map]
    have := List.pairwise_mergeSort (le := fun a b : Nat => decide (a ≤ b)) (fun a b c h1 h2 => by simp at *; omega) (fun a b => by simp; omega) ns
    exact this.imp fun h => by simpa using h
  exact List.Perm.eq_of_pairwise (fun a b _ _ h1 h2 => Int.le_antisymm h1 h2) hs h3 (h.trans h2.symm)
abbrev sp_leads_of (K : PySem.W.Frag) (C : Addr) : Sp := spF (α := List (List Nat)) (fun cs => [Br K C cs]) Good (fun cs => D K (eNss (leadsOf cs)))
theorem dfsAt_small {cs : List (List Nat)} (g : Good cs) {t : Nat} (ht : t < manyOf cs) (i : Nat) : (dfsAt (stepsOf cs) t i).1.length ≤ 10 := by
  obtain ⟨h1, h2, _⟩ := dfsAt_inv (fun p hp => (stepsOf_lt g hp).2.1) ht i
  have := List.Nodup.length_le_of_subset h2 (l₂ := List.range (manyOf cs)) fun x hx => List.mem_range.mpr (h1 x hx)
  have h3 := manyOf_le g
  rw [List.length_range] at this
  omega
theorem foldTo_inv {cs : List (List Nat)} (g : Good cs) {t here i j : Nat} (ht : t < manyOf cs) : (foldTo (stepsOf cs) here ((dfsAt (stepsOf cs) t i).1, (dfsAt (stepsOf cs) t i).2.dropLast) j).1.length ≤ 10 ∧ (foldTo (stepsOf cs) here ((dfsAt (stepsOf cs) t i).1, (dfsAt (stepsOf cs) t i).2.dropLast) j).2.length ≤ 100 := by
  obtain ⟨h1, h2, h4, _⟩ := dfsAt_inv (fun p hp => (stepsOf_lt g hp).2.1) ht i
  obtain ⟨a, b, c⟩ := dfsFold_inv (here := here) (st := (stepsOf cs).take j) (s := ((dfsAt (stepsOf cs) t i).1, (dfsAt (stepsOf cs) t i).2.dropLast)) (fun p hp => (stepsOf_lt g (List.mem_of_mem_take hp)).2.1) h1 h2
  have := List.Nodup.length_le_of_subset b (l₂ := List.range (manyOf cs)) fun x hx => List.mem_range.mpr (a x hx)
  have h3 := manyOf_le g
  rw [List.length_range] at this
  refine ⟨by unfold foldTo; omega, ?_⟩
  unfold foldTo
  have c : _ ≤ (dfsAt (stepsOf cs) t i).2.dropLast.length + 2 * (manyOf cs - (dfsAt (stepsOf cs) t i).1.length) := c
  rw [List.length_dropLast] at c
  by_cases hs : (dfsAt (stepsOf cs) t i).2 = []
  · rw [hs] at c
    simp only [List.length_nil] at c
    rw [hs]
    simp only [List.dropLast_nil]
    simp only [hs, List.dropLast_nil] at c
    omega
  · have := h4 hs
    omega
section
variable {P : Program} {w : World} {K : PySem.W.Frag} {mg : Str → Option Value} {base : Heap} {C : Addr}
theorem map_int (l : List Nat) : l.map eN = (l.map fun n : Nat => (n : Int)).map PyData.int := map_eN l
theorem cal_leads_of (T : Tx K mg C) {f : Addr} {fd : FuncData} (F : C8.Def K mg "leads_of" (topS 16) f fd) (b : Binds K fd ["board"] []) (c_len : LenB P w K mg base 1 C (sp_len K C)) (c_all_steps : C8.Cal P w K mg base 1 "all_steps" (sp_all_steps K C) []) : C8.Cal P w K mg base 3 "leads_of" (sp_leads_of K C) [] := by
  have S : FnScope ["board", "thread", "told", "found", "known", "waiting", "here", "one", "other"] ["board"] (C8.fnScope (topS 16)) := C8.fnScope_by (by decide +kernel)
  have nd := S.nd
  refine cal_F (n := 8) F b S (fun _ => rfl) rfl fun cdv A outer s H E hr => ⟨_, (pss_cons (ps_par (i := 2) (j := 3) rfl nd rfl rfl (by decide) rfl rfl (pa_cons (C8.pe_c c_all_steps hr (by decide) (by rfl) (pa_cons (pv 0) pa_nil)) (pa_cons (pe_lst pa_nil) pa_nil)) (by rfl))
    (pss_cons (ps_for PassesOwn.never rfl (pi_range1 (by rfl) T.b_range (pa_cons (pe_callB (call_lenB c_len (hr.mono (by decide))) (by rfl) T.b_len (by decide +kernel) (pa_cons (pv 0) pa_nil)) pa_nil)) (pg_name (i := 1) nd rfl (by first | exact Or.inl rfl | exact Or.inr rfl))
    (pss_cons (ps_par (i := 4) (j := 5) rfl nd rfl rfl (by decide) rfl rfl (pa_cons (pe_disp (pps_cons (pv 1) pe_bl pps_nil) (by rfl) (by rfl) (fun z => by cases z) (by decide)) (pa_cons (pe_lst (pa_cons (pv 1) pa_nil)) pa_nil)) (by rfl))
    (pss_cons (ps_while PassesOwn.never (pt_cmpR (oNeD K rfl hr.units) (pv 5) (pe_lst pa_nil) (nomark _)) (pss_cons (ps_set (i := 6) nd rfl (Or.inl rfl) (peBm0 K rfl PySem.F.plainAttrs_list PySem.F.slot_list_pop PySem.F.type_list_pop mt_pop (pv 5)))
    (pss_one (ps_for PassesOwn.never rfl (piL K rfl (pv 2)) (pgTup K rfl rfl (pgs_cons (pg_name (i := 7) nd rfl (by first | exact Or.inl rfl | exact Or.inr rfl)) (pgs_cons (pg_name (i := 8) nd rfl (by first | exact Or.inl rfl | exact Or.inr rfl)) pgs_nil)))
    (pss_one (ps_if (PW.pt (pw_and (pt_cmpR op_eq (pv 7) (pv 6) (nomark _)) (pw_and1 (pt_cmp (pc_dnotin (hu_of hr) (pv 8) (pv 4)) rfl)))) (pss_cons (ps_dput (hu_of hr) (pv 4) (pv 8) pe_bl rfl)
    (pss_one (ps_expr (peBm K rfl PySem.F.plainAttrs_list PySem.F.slot_list_append PySem.F.type_list_append mt_append (pv 5) (pa_cons (pv 8) pa_nil))))) pss_nil))))))
    (pss_one (ps_expr (peBm K rfl PySem.F.plainAttrs_list PySem.F.slot_list_append PySem.F.type_list_append mt_append (pv 3) (pa_cons (pe_callB (call_sortedDI rfl) (by rfl) T.b_sorted (by decide +kernel) (pa_cons (pv 4) pa_nil)) pa_nil)))))))
    (pss_one (ps_ret (pv 3))))), ?_⟩
  intro cs g
  have hm := manyOf_le g
  refine rt_parN (i := 2) (j := 3) (ev_call cs (ea_cons (ev_var rfl) ea_nil) g) (O := oL K []) (en_lst ed_nil (by decide)) (lt_some rfl) (lt_some rfl) fun a => ?_
  refine rt_seq (Γ1 := [.pr (Br K C cs), .no, .pr (D K (ePs (stepsOf cs))), .own a (oL K ((leadsOf cs).map eNs)), .no, .no, .no, .no, .no]) ?_ (rt_ret (ev_own rfl) (Wk.nil _))
  refine go_forM (xs := List.range (manyOf cs)) (A := fun i => D K (eN i)) (S := fun i => [.pr (Br K C cs), .no, .pr (D K (ePs (stepsOf cs))), .own a (oL K (((List.range i).map (leadFrom cs)).map eNs)), .no, .no, .no, .no, .no])
    (ei_rngN (ev_lenB (f := manyOf) (ev_var rfl) g (by omega)) (by omega)) (by repeat (first | exact Wk.nil _ | exact Wk.refl _ | refine Wk.cons (by first | exact Or.inr rfl | exact Or.inl rfl) ?_)) (fun i x hx => ?_) (by rw [List.length_range]; exact (by repeat (first | exact Wk.nil _ | exact Wk.refl _ | refine Wk.cons (by first | exact Or.inr rfl | exact Or.inl rfl) ?_)))
  have hi : i < manyOf cs ∧ x = i := by
    obtain ⟨h1, h2⟩ := List.getElem?_eq_some_iff.mp hx
    rw [List.length_range] at h1
    rw [List.getElem_range] at h2
    exact ⟨h1, h2.symm⟩
  obtain ⟨hi, rfl⟩ := hi
  refine tg_name (lt_some rfl) ?_
  obtain ⟨n, n1, n2, n3⟩ := dfs_turns (t := x) (fun p hp => (stepsOf_lt g hp).2.1) hi
  refine go_parNN (i := 4) (j := 5) (O := oK [(x : Int)]) (O' := oL K [eN x]) (en_disp (ev_var rfl)) (en_lst (ed_cons (ev_var rfl) ed_nil) (by show 1 ≤ 100000; decide)) (lt_some rfl) (lt_some rfl) fun p q => ?_
  refine st_seq (Γ1 := [.pr (Br K C cs), .pr (D K (eN x)), .pr (D K (ePs (stepsOf cs))), .own a (oL K (((List.range x).map (leadFrom cs)).map eNs)), .own p (oK ((dfsAt (stepsOf cs) x n).1.map fun n : Nat => (n : Int))), .no, .no, .no, .no]) ?_ ?_
  · refine go_whileW (S := fun k => [.pr (Br K C cs), .pr (D K (eN x)), .pr (D K (ePs (stepsOf cs))), .own a (oL K (((List.range x).map (leadFrom cs)).map eNs)), .own p (oK ((dfsAt (stepsOf cs) x k).1.map fun n : Nat => (n : Int))), .own q (oL K ((dfsAt (stepsOf cs) x k).2.map eN)), .no, .no, .no]) (n := n) ?_ ?_ ?_ ?_ (by repeat (first | exact Wk.nil _ | exact Wk.refl _ | refine Wk.cons (by first | exact Or.inr rfl | exact Or.inl rfl) ?_))
    · exact (by repeat (first | exact Wk.nil _ | exact Wk.refl _ | refine Wk.cons (by first | exact Or.inr rfl | exact Or.inl rfl) ?_))
    · intro k hk
      refine Et.is (et_test (ev_neEmpty rfl (okNs.shaped trivial))) ?_
      have := n2 k hk
      cases e : (dfsAt (stepsOf cs) x k).2 with
      | nil => exact absurd e this
      | cons y ys => rfl
    · intro k hk
      have hne := n2 k hk
      have hpos := List.length_pos_iff.mpr hne
      refine st_seq (st_asg (P := D K (eN ((dfsAt (stepsOf cs) x k).2.getLastD 0))) (ev_pop rfl ?_) (lt_some rfl)) ?_
      · rw [List.length_map, List.getElem?_map, List.getLastD_eq_getLast?, List.getLast?_eq_getElem?]
        rw [List.getElem?_eq_getElem (by omega)]
        rfl
      refine go_forM (xs := stepsOf cs) (A := fun s => D K (eP s)) (S := fun j => [.pr (Br K C cs), .pr (D K (eN x)), .pr (D K (ePs (stepsOf cs))), .own a (oL K (((List.range x).map (leadFrom cs)).map eNs)),
        .own p (oK ((foldTo (stepsOf cs) ((dfsAt (stepsOf cs) x k).2.getLastD 0) ((dfsAt (stepsOf cs) x k).1, (dfsAt (stepsOf cs) x k).2.dropLast) j).1.map fun n : Nat => (n : Int))),
        .own q (oL K ((foldTo (stepsOf cs) ((dfsAt (stepsOf cs) x k).2.getLastD 0) ((dfsAt (stepsOf cs) x k).1, (dfsAt (stepsOf cs) x k).2.dropLast) j).2.map eN)), .pr (D K (eN ((dfsAt (stepsOf cs) x k).2.getLastD 0))), .no, .no])
        (ei_listM (ev_var rfl)) ?_ (fun j s hj => ?_) ?_
      · refine Wk.cons (.inr rfl) (Wk.cons (.inr rfl) (Wk.cons (.inr rfl) (Wk.cons (.inr rfl) (Wk.cons (.inr rfl) (Wk.cons (.inr (congrArg (fun z => Sl.own q (oL K z)) ?_)) (by repeat (first | exact Wk.nil _ | exact Wk.refl _ | refine Wk.cons (by first | exact Or.inr rfl | exact Or.inl rfl) ?_)))))))
        show (dfsAt (stepsOf cs) x k).2.dropLast.map eN = ((dfsAt (stepsOf cs) x k).2.map eN).dropLast
        rw [List.map_dropLast]
      · obtain ⟨z1, z2⟩ := foldTo_inv g hi (here := (dfsAt (stepsOf cs) x k).2.getLastD 0) (i := k) (j := j)
        refine tg_pair (lt_some rfl) (lt_some rfl) ?_
        refine st_if (et_and (et_test (ev_eqN (ev_var rfl) (ev_var rfl))) fun _ => et_B (ev_notinK (ev_var rfl) rfl)) (fun hb => ?_) (fun hb => ?_)
        · rw [Bool.and_eq_true] at hb
          obtain ⟨b1, b2⟩ := hb
          have b1 := of_decide_eq_true b1
          have b2 : (s.2 : Int) ∉ (foldTo (stepsOf cs) ((dfsAt (stepsOf cs) x k).2.getLastD 0) ((dfsAt (stepsOf cs) x k).1, (dfsAt (stepsOf cs) x k).2.dropLast) j).1.map fun n : Nat => (n : Int) := by simpa using b2
          have b3 : s.2 ∉ (foldTo (stepsOf cs) ((dfsAt (stepsOf cs) x k).2.getLastD 0) ((dfsAt (stepsOf cs) x k).1, (dfsAt (stepsOf cs) x k).2.dropLast) j).1 := fun z => b2 (List.mem_map.mpr ⟨_, z, rfl⟩)
          refine (st_seq (go_putK (P := D K (.bool true)) ev_bool rfl (ev_var rfl) rfl (by rw [List.length_map]; omega)) (st_append rfl (ev_var rfl) rfl (by rw [List.length_map]; omega))).wk ?_
          refine Wk.cons (.inr rfl) (Wk.cons (.inr rfl) (Wk.cons (.inr rfl) (Wk.cons (.inr rfl) (Wk.cons (.inr (congrArg (fun z => Sl.own p (oK z)) ?_)) (Wk.cons (.inr (congrArg (fun z => Sl.own q (oL K z)) ?_)) (by repeat (first | exact Wk.nil _ | exact Wk.refl _ | refine Wk.cons (by first | exact Or.inr rfl | exact Or.inl rfl) ?_)))))))
          · rw [foldTo_succ hj]
            unfold dfsAdd
            rw [if_pos ⟨b1, b3⟩]
            unfold addK
            rw [if_neg b2]
            show List.map _ (_ ++ [s.2]) = _
            rw [List.map_append]
            rfl
          · rw [foldTo_succ hj]
            unfold dfsAdd
            rw [if_pos ⟨b1, b3⟩]
            show List.map _ (_ ++ [s.2]) = _
            rw [List.map_append]
            rfl
        · have hn : ¬ (s.1 = (dfsAt (stepsOf cs) x k).2.getLastD 0 ∧ s.2 ∉ (foldTo (stepsOf cs) ((dfsAt (stepsOf cs) x k).2.getLastD 0) ((dfsAt (stepsOf cs) x k).1, (dfsAt (stepsOf cs) x k).2.dropLast) j).1) := fun ⟨h1, h2⟩ => by
            rw [decide_eq_true h1] at hb
            have : (s.2 : Int) ∉ (foldTo (stepsOf cs) ((dfsAt (stepsOf cs) x k).2.getLastD 0) ((dfsAt (stepsOf cs) x k).1, (dfsAt (stepsOf cs) x k).2.dropLast) j).1.map fun n : Nat => (n : Int) := fun z => by
              obtain ⟨y, y1, y2⟩ := List.mem_map.mp z
              exact h2 ((Int.ofNat.inj y2) ▸ y1)
            rw [decide_eq_false this] at hb
            cases hb
          refine st_next.wk ?_
          rw [foldTo_succ hj]
          unfold dfsAdd
          rw [if_neg hn]
          exact (by repeat (first | exact Wk.nil _ | exact Wk.refl _ | refine Wk.cons (by first | exact Or.inr rfl | exact Or.inl rfl) ?_))
      · rw [foldTo_len]
        have e : dfsAt (stepsOf cs) x (k + 1) = (stepsOf cs).foldl (dfsAdd ((dfsAt (stepsOf cs) x k).2.getLastD 0)) ((dfsAt (stepsOf cs) x k).1, (dfsAt (stepsOf cs) x k).2.dropLast) := by
          show dfsTurn _ _ = _
          unfold dfsTurn
          rw [if_neg hne]
        rw [e]
        exact (by repeat (first | exact Wk.nil _ | exact Wk.refl _ | refine Wk.cons (by first | exact Or.inr rfl | exact Or.inl rfl) ?_))
    · refine Et.is (et_test (ev_neEmpty rfl (okNs.shaped trivial))) ?_
      rw [n1]
      rfl
  · refine (st_append rfl (ev_new (en_sortK (upN (dfsAt (stepsOf cs) x n).1 |>.map fun n : Nat => (n : Int)) rfl ?_ fun ys h1 h2 => upN_eq h1 h2)) rfl ?_).wk ?_
    · have := dfsAt_small g hi n
      rw [List.length_map]
      omega
    · rw [List.length_map, List.length_map, List.length_range]
      omega
    · refine Wk.cons (.inr rfl) (Wk.cons (.inl rfl) (Wk.cons (.inr rfl) (Wk.cons (.inr (congrArg (fun z => Sl.own a (oL K z)) ?_)) (by repeat (first | exact Wk.nil _ | exact Wk.refl _ | refine Wk.cons (by first | exact Or.inr rfl | exact Or.inl rfl) ?_)))))
      rw [List.range_succ, List.map_append, List.map_append]
      congr 1
      show [PyData.list ((leadFrom cs x).map eN)] = [PyData.list (List.map PyData.int _)]
      rw [map_eN, n3]
      rfl
end
end WF

/-! ## text W6 -/
namespace WF
open PySem PySem.Spec PyProof.Rows L2
/-! ### a step taken off a board -/
def cellOf (cs : List (List Nat)) (i j : Nat) : Nat := (cs.getD i []).getD j 0
def setCell (cs : List (List Nat)) (i j v : Nat) : List (List Nat) := cs.set i ((cs.getD i []).set j v)
def withoutStep (cs : List (List Nat)) (s : Nat × Nat) : List (List Nat) :=
  if s.1 < cs.length then setCell cs s.1 (s.2 - cs.length) (if cellOf cs s.1 (s.2 - cs.length) = 62 then 46 else 60)
  else setCell cs s.2 (s.1 - cs.length) (if cellOf cs s.2 (s.1 - cs.length) = 60 then 46 else 62)
theorem mem_stepsAt {m a : Nat} {p q : Nat × Nat} : q ∈ stepsAt m a p ↔ (p.1 ∈ [62, 120] ∧ q = (a, m + p.2)) ∨ (p.1 ∈ [60, 120] ∧ q = (m + p.2, a)) := by
  unfold stepsAt
  rw [List.mem_append]
  by_cases h1 : p.1 ∈ [62, 120] <;> by_cases h2 : p.1 ∈ [60, 120] <;> simp only [h1, h2, if_true, if_false, List.mem_singleton, List.not_mem_nil, true_and, false_and, or_false, false_or]
theorem mem_stepsOf {cs : List (List Nat)} (g : Good cs) {q : Nat × Nat} : q ∈ stepsOf cs ↔
    ∃ i j, i < cs.length ∧ j < colsOf cs ∧ ((cellOf cs i j ∈ [62, 120] ∧ q = (i, cs.length + j)) ∨ (cellOf cs i j ∈ [60, 120] ∧ q = (cs.length + j, i))) := by
  unfold stepsOf
  rw [List.mem_mergeSort]
  unfold stepsRaw
  rw [List.mem_flatMap]
  have cell : ∀ {i j : Nat} {l : List Nat} {c : Nat}, cs[i]? = some l → l[j]? = some c → cellOf cs i j = c := fun {i j l c} h1 h2 => by
    have e1 : cs.getD i [] = l := by rw [List.getD_eq_getElem?_getD, h1]; rfl
    unfold cellOf
    rw [e1, List.getD_eq_getElem?_getD, h2]
    rfl
  constructor
  · rintro ⟨⟨l, i⟩, h1, h2⟩
    obtain ⟨⟨c, j⟩, h3, h4⟩ := List.mem_flatMap.mp h2
    obtain ⟨hi, e1⟩ := List.mem_zipIdx' h1
    obtain ⟨hj, e2⟩ := List.mem_zipIdx' h3
    have hl := g.ln l (e1 ▸ List.getElem_mem _)
    have e := cell (i := i) (j := j) (l := l) (c := c) (by rw [List.getElem?_eq_getElem hi]; exact congrArg some e1.symm) (by rw [List.getElem?_eq_getElem hj]; exact congrArg some e2.symm)
    have hj : j < l.length := hj
    refine ⟨i, j, hi, by omega, ?_⟩
    rw [e]
    exact mem_stepsAt.mp h4
  · rintro ⟨i, j, hi, hj, h⟩
    have hl := g.ln cs[i] (List.getElem_mem hi)
    have hj' : j < cs[i].length := by omega
    have e := cell (i := i) (j := j) (l := cs[i]) (c := cs[i][j]) (List.getElem?_eq_getElem hi) (List.getElem?_eq_getElem hj')
    refine ⟨(cs[i], i), List.mem_zipIdx_iff_getElem?.mpr (List.getElem?_eq_getElem hi), List.mem_flatMap.mpr ⟨(cs[i][j], j), List.mem_zipIdx_iff_getElem?.mpr (List.getElem?_eq_getElem hj'), ?_⟩⟩
    rw [mem_stepsAt]
    rw [e] at h
    exact h
theorem str_app (a b : List Nat) : (⟨a.toArray⟩ : Str) ++ ⟨b.toArray⟩ = ⟨(a ++ b).toArray⟩ := by
  show (⟨a.toArray ++ b.toArray⟩ : Str) = _
  rw [List.append_toArray]
theorem cutS_to {l : List Nat} {k : Nat} (h : k ≤ l.length) : cutS ⟨l.toArray⟩ none (some (k : Nat)) = ⟨(l.take k).toArray⟩ := by
  unfold cutS
  rw [HT.sIx_none, HT.sIx_nat]
  simp only [Str.length, List.size_toArray, Nat.min_eq_left h, Nat.sub_zero, List.drop_zero]
theorem cutS_from {l : List Nat} {k : Nat} (h : k ≤ l.length) : cutS ⟨l.toArray⟩ (some (k : Nat)) none = ⟨(l.drop k).toArray⟩ := by
  unfold cutS
  rw [HT.sIx_none, HT.sIx_nat]
  simp only [Str.length, List.size_toArray, Nat.min_eq_left h]
  rw [List.take_of_length_le (by simp)]
theorem cutD_to {α : Type} {l : List α} {k : Nat} (h : k ≤ l.length) : cutD l none (some (k : Nat)) = l.take k := by
  unfold cutD
  rw [HT.sIx_none, HT.sIx_nat, Nat.min_eq_left h, Nat.sub_zero, List.drop_zero]
theorem cutD_from {α : Type} {l : List α} {k : Nat} (h : k ≤ l.length) : cutD l (some (k : Nat)) none = l.drop k := by
  unfold cutD
  rw [HT.sIx_none, HT.sIx_nat, Nat.min_eq_left h, List.take_of_length_le (by simp)]
theorem set_cut {α : Type} {l : List α} {k : Nat} {v : α} (h : k < l.length) : l.take k ++ [v] ++ l.drop (k + 1) = l.set k v := by
  rw [List.set_eq_take_append_cons_drop, if_pos h, List.append_assoc]
  rfl
theorem setCell_good {cs : List (List Nat)} (g : Good cs) {i j v : Nat} (hi : i < cs.length) (hv : v ∈ signs) : Good (setCell cs i j v) := by
  have hl : (setCell cs i j v).length = cs.length := by unfold setCell; rw [List.length_set]
  have hrow : (cs.getD i []) ∈ cs := by
    rw [List.getD_eq_getElem?_getD, List.getElem?_eq_getElem hi, Option.getD_some]
    exact List.getElem_mem hi
  have mem : ∀ l ∈ setCell cs i j v, l ∈ cs ∨ l = (cs.getD i []).set j v := fun l h => by
    unfold setCell at h
    rcases List.mem_or_eq_of_mem_set h with h | h
    · exact .inl h
    · exact .inr h
  have len : ∀ l ∈ setCell cs i j v, l.length = colsOf cs := fun l h => by
    rcases mem l h with h | h
    · exact g.ln l h
    · rw [h, List.length_set]; exact g.ln _ hrow
  have hc : colsOf (setCell cs i j v) = colsOf cs := by
    have h0 : 0 < (setCell cs i j v).length := by have := g.r1; omega
    have := len ((setCell cs i j v).getD 0 []) (by
      rw [List.getD_eq_getElem?_getD, List.getElem?_eq_getElem h0, Option.getD_some]
      exact List.getElem_mem h0)
    exact this
  refine ⟨by rw [hl]; exact g.r1, by rw [hl]; exact g.r5, by rw [hc]; exact g.c1, by rw [hc]; exact g.c5, fun l h => by rw [hc]; exact len l h, fun l h c hcm => ?_⟩
  rcases mem l h with h | h
  · exact g.sg l h c hcm
  · rw [h] at hcm
    rcases List.mem_or_eq_of_mem_set hcm with h2 | h2
    · exact g.sg _ hrow c h2
    · rw [h2]; exact hv
theorem colsOf_set {cs : List (List Nat)} (g : Good cs) {i j v : Nat} (hi : i < cs.length) (hv : v ∈ signs) : colsOf (setCell cs i j v) = colsOf cs := by
  have g' := setCell_good g (j := j) hi hv
  have hm : (cs.getD i []).set j v ∈ setCell cs i j v := List.mem_of_getElem? (i := i) (List.getElem?_set_self hi)
  have h1 := g'.ln _ hm
  rw [List.length_set] at h1
  have hrow : (cs.getD i []) ∈ cs := by
    rw [List.getD_eq_getElem?_getD, List.getElem?_eq_getElem hi, Option.getD_some]
    exact List.getElem_mem hi
  rw [g.ln _ hrow] at h1
  exact h1.symm
theorem cellOf_set {cs : List (List Nat)} (g : Good cs) {i j v a b : Nat} (hi : i < cs.length) (hj : j < colsOf cs) : cellOf (setCell cs i j v) a b = if a = i ∧ b = j then v else cellOf cs a b := by
  have hrow : (cs.getD i []) ∈ cs := by
    rw [List.getD_eq_getElem?_getD, List.getElem?_eq_getElem hi, Option.getD_some]
    exact List.getElem_mem hi
  have hlen := g.ln _ hrow
  unfold cellOf setCell
  by_cases h1 : a = i
  · subst h1
    rw [List.getD_eq_getElem?_getD (l := cs.set a _), List.getElem?_set_self hi, Option.getD_some]
    by_cases h2 : b = j
    · subst h2
      rw [List.getD_eq_getElem?_getD, List.getElem?_set_self (by omega), Option.getD_some, if_pos ⟨rfl, rfl⟩]
    · rw [List.getD_eq_getElem?_getD, List.getElem?_set_ne (fun e => h2 e.symm), if_neg (fun e => h2 e.2), ← List.getD_eq_getElem?_getD]
  · rw [List.getD_eq_getElem?_getD (l := cs.set i _), List.getElem?_set_ne (fun e => h1 e.symm), ← List.getD_eq_getElem?_getD, if_neg (fun e => h1 e.1)]
/-- the cell where a step stands -/
theorem step_cell {cs : List (List Nat)} (g : Good cs) {s : Nat × Nat} (h : s ∈ stepsOf cs) :
    (s.1 < cs.length ∧ cs.length ≤ s.2 ∧ s.2 - cs.length < colsOf cs ∧ cellOf cs s.1 (s.2 - cs.length) ∈ [62, 120]) ∨ (cs.length ≤ s.1 ∧ s.2 < cs.length ∧ s.1 - cs.length < colsOf cs ∧ cellOf cs s.2 (s.1 - cs.length) ∈ [60, 120]) := by
  obtain ⟨i, j, hi, hj, hw⟩ := (mem_stepsOf g).mp h
  rcases hw with ⟨hw, e⟩ | ⟨hw, e⟩ <;> subst e
  · refine .inl ⟨hi, Nat.le_add_right _ _, ?_, ?_⟩
    · show cs.length + j - cs.length < _
      rw [Nat.add_sub_cancel_left]
      exact hj
    · show cellOf cs i (cs.length + j - cs.length) ∈ _
      rw [Nat.add_sub_cancel_left]
      exact hw
  · refine .inr ⟨Nat.le_add_right _ _, hi, ?_, ?_⟩
    · show cs.length + j - cs.length < _
      rw [Nat.add_sub_cancel_left]
      exact hj
    · show cellOf cs i (cs.length + j - cs.length) ∈ _
      rw [Nat.add_sub_cancel_left]
      exact hw
theorem withoutStep_good {cs : List (List Nat)} (g : Good cs) {s : Nat × Nat} (h : s ∈ stepsOf cs) : Good (withoutStep cs s) := by
  unfold withoutStep
  rcases step_cell g h with ⟨h1, h2, h3, h4⟩ | ⟨h1, h2, h3, h4⟩
  · rw [if_pos h1]
    exact setCell_good g h1 (by split <;> decide)
  · rw [if_neg (by omega)]
    exact setCell_good g h2 (by split <;> decide)
theorem withoutStep_len {cs : List (List Nat)} (s : Nat × Nat) : (withoutStep cs s).length = cs.length := by
  unfold withoutStep setCell
  split <;> rw [List.length_set]
theorem withoutStep_cols {cs : List (List Nat)} (g : Good cs) {s : Nat × Nat} (h : s ∈ stepsOf cs) : colsOf (withoutStep cs s) = colsOf cs := by
  unfold withoutStep
  rcases step_cell g h with ⟨h1, h2, h3, h4⟩ | ⟨h1, h2, h3, h4⟩
  · rw [if_pos h1]
    exact colsOf_set g h1 (by split <;> decide)
  · rw [if_neg (by omega)]
    exact colsOf_set g h2 (by split <;> decide)
/-- the steps of the board without a step -/
theorem mem_withoutStep {cs : List (List Nat)} (g : Good cs) {s : Nat × Nat} (h : s ∈ stepsOf cs) (q : Nat × Nat) : q ∈ stepsOf (withoutStep cs s) ↔ q ∈ stepsOf cs ∧ q ≠ s := by
  have g' := withoutStep_good g h
  rw [mem_stepsOf g', mem_stepsOf g, withoutStep_len, withoutStep_cols g h]
  have key : ∀ i j, i < cs.length → j < colsOf cs → ((cellOf (withoutStep cs s) i j ∈ [62, 120] ↔ cellOf cs i j ∈ [62, 120] ∧ (i, cs.length + j) ≠ s) ∧ (cellOf (withoutStep cs s) i j ∈ [60, 120] ↔ cellOf cs i j ∈ [60, 120] ∧ (cs.length + j, i) ≠ s)) := by
    intro i j hi hj
    unfold withoutStep
    rcases step_cell g h with ⟨h1, h2, h3, h4⟩ | ⟨h1, h2, h3, h4⟩
    · rw [if_pos h1, cellOf_set g h1 h3]
      have ne2 : (cs.length + j, i) ≠ s := fun e => by subst e; dsimp only at h1; omega
      by_cases e : i = s.1 ∧ j = s.2 - cs.length
      · rw [if_pos e]
        have e1 : (i, cs.length + j) = s := by
          obtain ⟨a, b⟩ := s
          dsimp only at *
          rw [Prod.mk.injEq]
          omega
        rw [e.1, e.2]
        rw [e.1, e.2] at e1 ne2
        simp only [List.mem_cons, List.not_mem_nil, or_false] at h4
        rcases h4 with h4 | h4 <;> simp [h4, e1, ne2]
      · rw [if_neg e]
        have e1 : (i, cs.length + j) ≠ s := fun z => e (by subst z; dsimp only; omega)
        simp [e1, ne2]
    · rw [if_neg (by omega), cellOf_set g h2 h3]
      have ne2 : (i, cs.length + j) ≠ s := fun e => by subst e; dsimp only at h1; omega
      by_cases e : i = s.2 ∧ j = s.1 - cs.length
      · rw [if_pos e]
        have e1 : (cs.length + j, i) = s := by
          obtain ⟨a, b⟩ := s
          dsimp only at *
          rw [Prod.mk.injEq]
          omega
        rw [e.1, e.2]
        rw [e.1, e.2] at e1 ne2
        simp only [List.mem_cons, List.not_mem_nil, or_false] at h4
        rcases h4 with h4 | h4 <;> simp [h4, e1, ne2]
      · rw [if_neg e]
        have e1 : (cs.length + j, i) ≠ s := fun z => e (by subst z; dsimp only; omega)
        simp [e1, ne2]
  constructor
  · rintro ⟨i, j, hi, hj, z⟩
    rcases z with ⟨z, rfl⟩ | ⟨z, rfl⟩
    · have := (key i j hi hj).1.mp z
      exact ⟨⟨i, j, hi, hj, .inl ⟨this.1, rfl⟩⟩, this.2⟩
    · have := (key i j hi hj).2.mp z
      exact ⟨⟨i, j, hi, hj, .inr ⟨this.1, rfl⟩⟩, this.2⟩
  · rintro ⟨⟨i, j, hi, hj, z⟩, ne⟩
    rcases z with ⟨z, rfl⟩ | ⟨z, rfl⟩
    · exact ⟨i, j, hi, hj, .inl ⟨(key i j hi hj).1.mpr ⟨z, ne⟩, rfl⟩⟩
    · exact ⟨i, j, hi, hj, .inr ⟨(key i j hi hj).2.mpr ⟨z, ne⟩, rfl⟩⟩
theorem rep_lt : Txt.replace (⟨#[120]⟩ : Str) "x" "<" = ⟨#[60]⟩ := by decide +kernel
theorem rep_gt : Txt.replace (⟨#[120]⟩ : Str) "x" ">" = ⟨#[62]⟩ := by decide +kernel
def isIdle (cs : List (List Nat)) (s : Nat × Nat) : Bool := decide (s.2 ∈ leadFrom (withoutStep cs s) s.1)
def leanTurn (b : List (List Nat)) (s : Nat × Nat) : List (List Nat) := if isIdle b s then withoutStep b s else b
def leanOf (cs : List (List Nat)) : List (List Nat) := (stepsOf cs).foldl leanTurn cs
theorem zipIdx_pair {α : Type} (l : List α) : l.zipIdx.Pairwise fun a b => a.2 ≠ b.2 := by
  rw [List.pairwise_iff_getElem]
  intro i j hi hj hij
  rw [List.getElem_zipIdx, List.getElem_zipIdx]
  show 0 + i ≠ 0 + j
  omega
theorem stepsOf_nodup {cs : List (List Nat)} (g : Good cs) : (stepsOf cs).Nodup := by
  unfold stepsOf
  refine (List.Perm.nodup_iff (List.mergeSort_perm _ _)).mpr ?_
  unfold stepsRaw
  show List.Pairwise (· ≠ ·) _
  rw [List.pairwise_flatMap]
  have fa : ∀ {m a : Nat} {p : Nat × Nat} {x : Nat × Nat}, x ∈ stepsAt m a p → x = (a, m + p.2) ∨ x = (m + p.2, a) := fun h => by
    rcases mem_stepsAt.mp h with h | h
    · exact .inl h.2
    · exact .inr h.2
  have lt : ∀ {a : List Nat × Nat}, a ∈ cs.zipIdx → a.2 < cs.length := fun h => (List.mem_zipIdx' h).1
  refine ⟨fun l hl => ?_, ?_⟩
  · have h1 := lt hl
    rw [List.pairwise_flatMap]
    refine ⟨fun p _ => ?_, (zipIdx_pair l.1).imp fun {a b} hab x hx y hy e => ?_⟩
    · unfold stepsAt
      split <;> split <;> simp
      omega
    · rcases fa hx with rfl | rfl <;> rcases fa hy with e2 | e2 <;> rw [e2, Prod.mk.injEq] at e <;> omega
  · have : cs.zipIdx.Pairwise fun a b => a.2 ≠ b.2 ∧ a.2 < cs.length ∧ b.2 < cs.length := by
      rw [List.pairwise_iff_forall_sublist]
      intro a b hab
      have ha := lt (hab.subset (List.mem_cons_self ..))
      have hb := lt (hab.subset (List.mem_cons_of_mem _ (List.mem_singleton.mpr rfl)))
      exact ⟨(List.pairwise_iff_forall_sublist.mp (zipIdx_pair cs)) hab, ha, hb⟩
    refine this.imp fun {a b} hab x hx y hy e => ?_
    obtain ⟨p, _, hx⟩ := List.mem_flatMap.mp hx
    obtain ⟨q, _, hy⟩ := List.mem_flatMap.mp hy
    rcases fa hx with rfl | rfl <;> rcases fa hy with e2 | e2 <;> rw [e2, Prod.mk.injEq] at e <;> omega
def leanTo (cs : List (List Nat)) (i : Nat) : List (List Nat) := ((stepsOf cs).take i).foldl leanTurn cs
theorem leanTo_len (cs : List (List Nat)) : leanTo cs (stepsOf cs).length = leanOf cs := by
  unfold leanTo leanOf
  rw [List.take_length]
theorem leanTo_succ {cs : List (List Nat)} {i : Nat} {s : Nat × Nat} (h : (stepsOf cs)[i]? = some s) : leanTo cs (i + 1) = leanTurn (leanTo cs i) s := by
  unfold leanTo
  rw [List.take_add_one, h, List.foldl_append]
  rfl
theorem leanTo_inv {cs : List (List Nat)} (g : Good cs) : ∀ i, Good (leanTo cs i) ∧ ∀ q ∈ (stepsOf cs).drop i, q ∈ stepsOf (leanTo cs i)
  | 0 => ⟨g, fun q hq => hq⟩
  | i + 1 => by
    obtain ⟨gi, hi⟩ := leanTo_inv g i
    cases h : (stepsOf cs)[i]? with
    | none =>
      have hl := List.getElem?_eq_none_iff.mp h
      have e : leanTo cs (i + 1) = leanTo cs i := by
        unfold leanTo
        rw [List.take_of_length_le (by omega), List.take_of_length_le hl]
      rw [e]
      exact ⟨gi, fun q hq => by rw [List.drop_of_length_le (by omega)] at hq; cases hq⟩
    | some s =>
      rw [leanTo_succ h]
      have hs := List.getElem?_eq_some_iff.mp h
      obtain ⟨hlt, hse⟩ := hs
      have hd : (stepsOf cs).drop i = s :: (stepsOf cs).drop (i + 1) := by rw [List.drop_eq_getElem_cons hlt, hse]
      have hm := hi s (by rw [hd]; exact List.mem_cons_self ..)
      unfold leanTurn
      split
      · refine ⟨withoutStep_good gi hm, fun q hq => (mem_withoutStep gi hm q).mpr ⟨hi q (by rw [hd]; exact List.mem_cons_of_mem _ hq), fun e => ?_⟩⟩
        have nd := (stepsOf_nodup g).sublist (List.drop_sublist i _)
        rw [hd, List.nodup_cons] at nd
        exact nd.1 (e ▸ hq)
      · exact ⟨gi, fun q hq => hi q (by rw [hd]; exact List.mem_cons_of_mem _ hq)⟩
theorem leanOf_good {cs : List (List Nat)} (g : Good cs) : Good (leanOf cs) := by
  rw [← leanTo_len]
  exact (leanTo_inv g _).1
abbrev sp_without_step (K : PySem.W.Frag) (C : Addr) : Sp := spF (α := List (List Nat) × Nat × Nat) (fun a => [Br K C a.1, D K (eP a.2)]) (fun a => Good a.1 ∧ a.2 ∈ stepsOf a.1) (fun a => Br K C (withoutStep a.1 a.2))
abbrev sp_is_idle (K : PySem.W.Frag) (C : Addr) : Sp := spF (α := List (List Nat) × Nat × Nat) (fun a => [Br K C a.1, D K (eP a.2)]) (fun a => Good a.1 ∧ a.2 ∈ stepsOf a.1) (fun a => D K (.bool (isIdle a.1 a.2)))
abbrev sp_lean (K : PySem.W.Frag) (C : Addr) : Sp := spF (α := List (List Nat)) (fun cs => [Br K C cs]) Good (fun cs => Br K C (leanOf cs))
section
variable {P : Program} {w : World} {K : PySem.W.Frag} {mg : Str → Option Value} {base : Heap} {C : Addr}
theorem ev_eqSN {Γ Γ1 Γ2 : List Sl} {ta tb : TE} {x y : List Nat} (ha : Ev Γ ta (D K (eS x)) Γ1) (hb : Ev Γ1 tb (D K (eS y)) Γ2) : Ev Γ (tOp rEq ta tb) (D K (.bool (decide (x = y)))) Γ2 := (ev_eqS ha hb).is (congrArg (fun b => D K (.bool b)) (decide_eq_decide.mpr ⟨fun e => by
  have := congrArg (fun z : Str => z.cps.toList) e
  simpa using this, fun e => by rw [e]⟩))
theorem cal_without_step (T : Tx K mg C) {f : Addr} {fd : FuncData} (F : C8.Def K mg "without_step" (topS 25) f fd) (b : Binds K fd ["board", "step"] []) (c_Board : C8.Mak P w K mg base 2 "Board" C (sp_Board K C) []) : C8.Cal P w K mg base 4 "without_step" (sp_without_step K C) [] := by
  have S : FnScope ["board", "step", "many", "line", "left", "row", "column", "sign"] ["board", "step"] (C8.fnScope (topS 25)) := C8.fnScope_by (by decide +kernel)
  have nd := S.nd
  refine cal_F (n := 6) F b S (fun _ => rfl) rfl fun cdv A outer s H E hr => ⟨_, (pss_cons (ps_set (i := 2) nd rfl (Or.inl rfl) (pe_callB (cLen K) (by rfl) T.b_len (by decide +kernel) (pa_cons (peFld K rfl (pv 0) rfl) pa_nil)))
    (pss_cons (ps_asg (pe_ifExp (pt_cmpR op_lt (pe_ix (ixT K) (pv 1) pe_int (fun _ _ => rfl)) (pv 2) (nomark _)) (pe_tup (pa_cons (pe_ix (ixT K) (pv 1) pe_int (fun _ _ => rfl)) (pa_cons (pe_op op_sub (pe_ix (ixT K) (pv 1) pe_int (fun _ _ => rfl)) (pv 2)) (pa_cons pe_str pa_nil)))) (pe_tup (pa_cons (pe_ix (ixT K) (pv 1) pe_int (fun _ _ => rfl)) (pa_cons (pe_op op_sub (pe_ix (ixT K) (pv 1) pe_int (fun _ _ => rfl)) (pv 2)) (pa_cons pe_str pa_nil))))) (pgTup K rfl rfl (pgs_cons (pg_name (i := 5) nd rfl (by first | exact Or.inl rfl | exact Or.inr rfl)) (pgs_cons (pg_name (i := 6) nd rfl (by first | exact Or.inl rfl | exact Or.inr rfl)) (pgs_cons (pg_name (i := 7) nd rfl (by first | exact Or.inl rfl | exact Or.inr rfl)) pgs_nil)))))
    (pss_cons (ps_set (i := 3) nd rfl (Or.inl rfl) (pe_ix (ixT K) (peFld K rfl (pv 0) rfl) (pv 5) (fun _ _ => rfl)))
    (pss_cons (ps_set (i := 4) nd rfl (Or.inl rfl) (pe_ifExp (pt_cmpR op_eq (pe_ix ix_str (pv 3) (pv 6) (fun _ _ => rfl)) (pv 7) (nomark _)) pe_str (pe_repIf (pv 3) (pv 6) (fun _ _ => rfl) (pt_cmpR op_eq (pv 7) pe_str (nomark _)))))
    (pss_cons (ps_set (i := 3) nd rfl (Or.inl rfl) (pe_op op_add_str (pe_op op_add_str (pe_slice sl_str (pv 3) po_none (po_some (pv 6))) (pv 4)) (pe_slice sl_str (pv 3) (po_some (pe_op op_add (pv 6) pe_int)) po_none)))
    (pss_one (ps_ret (C8.pe_mk c_Board hr (by decide) (by rfl) (pa_cons (pe_op (oCatT K) (pe_op (oCatT K) (pe_slice (slT K) (peFld K rfl (pv 0) rfl) po_none (po_some (pv 5))) (pe_tup (pa_cons (pv 3) pa_nil))) (pe_slice (slT K) (peFld K rfl (pv 0) rfl) (po_some (pe_op op_add (pv 5) pe_int)) po_none)) pa_nil))))))))), ?_⟩
  rintro ⟨cs, s⟩ ⟨g, hs⟩
  have g : Good cs := g
  have hs : s ∈ stepsOf cs := hs
  show Rt _ _ (Br K C (withoutStep cs s)) _
  have hg := withoutStep_good g hs
  have r5 := g.r5
  have c5 := g.c5
  refine rt_seq (st_asg (ev_lenTN (ev_table T.cl T.nT (ev_var rfl))) (lt_some rfl)) ?_
  obtain ⟨r, c, sg, ot, hc0, hr0, hc1, hso, hx, hw⟩ : ∃ r c sg ot : Nat, ((s.1 < cs.length ∧ cs.length ≤ s.2 ∧ r = s.1 ∧ c = s.2 - cs.length ∧ sg = 62) ∨ (cs.length ≤ s.1 ∧ r = s.2 ∧ c = s.1 - cs.length ∧ sg = 60)) ∧ r < cs.length ∧ c < colsOf cs ∧ ((sg = 62 ∧ ot = 60) ∨ (sg = 60 ∧ ot = 62)) ∧ cellOf cs r c ∈ [sg, 120] ∧
      withoutStep cs s = setCell cs r c (if cellOf cs r c = sg then 46 else ot) := by
    unfold withoutStep
    rcases step_cell g hs with ⟨h1, h2, h3, h4⟩ | ⟨h1, h2, h3, h4⟩
    · exact ⟨s.1, s.2 - cs.length, 62, 60, .inl ⟨h1, h2, rfl, rfl, rfl⟩, h1, h3, .inl ⟨rfl, rfl⟩, h4, if_pos h1⟩
    · exact ⟨s.2, s.1 - cs.length, 60, 62, .inr ⟨h1, rfl, rfl, rfl⟩, h2, h3, .inr ⟨rfl, rfl⟩, h4, if_neg (by omega)⟩
  refine rt_seq (go_asgT (X := D K (.tuple [eN r, eN c, eS [sg]])) (ev_if (Γ2 := [.pr (Br K C cs), .pr (D K (eP s)), .pr (D K (eN cs.length)), .no, .no, .no, .no, .no]) (b := decide (s.1 < cs.length)) (et_test (ev_ltN (ev_ixTN (ev_var rfl) (ev_int (n := ((0 : Nat) : Int))) rfl) (ev_var rfl)))
    (fun hb => ?_) (fun hb => ?_)) (tg_triple (lt_some rfl) (lt_some rfl) (lt_some rfl) st_next)) ?_
  · rcases hc0 with ⟨h1, h2, rfl, rfl, rfl⟩ | ⟨h1, rfl, rfl, rfl⟩
    · exact ev_tup (ed_cons (ev_ixTN (ev_var rfl) (ev_int (n := ((0 : Nat) : Int))) rfl) (ed_cons (ev_subN (ev_ixTN (ev_var rfl) (ev_int (n := ((1 : Nat) : Int))) rfl) (ev_var rfl) h2) (ed_cons ev_str ed_nil))) (by show 3 ≤ 100000; decide)
    · exact absurd (of_decide_eq_true hb) (by omega)
  · rcases hc0 with ⟨h1, h2, rfl, rfl, rfl⟩ | ⟨h1, rfl, rfl, rfl⟩
    · exact absurd h1 (of_decide_eq_false hb)
    · exact ev_tup (ed_cons (ev_ixTN (ev_var rfl) (ev_int (n := ((1 : Nat) : Int))) rfl) (ed_cons (ev_subN (ev_ixTN (ev_var rfl) (ev_int (n := ((0 : Nat) : Int))) rfl) (ev_var rfl) h1) (ed_cons ev_str ed_nil))) (by show 3 ≤ 100000; decide)
  have hrow : cs[r]? = some (cs.getD r []) := by rw [List.getD_eq_getElem?_getD, List.getElem?_eq_getElem hr0]; rfl
  have hlen := g.ln _ (List.mem_of_getElem? hrow)
  have hcell : (cs.getD r [])[c]? = some (cellOf cs r c) := by
    unfold cellOf
    rw [List.getD_eq_getElem?_getD (l := cs.getD r []), List.getElem?_eq_getElem (by omega)]
    rfl
  refine rt_seq (st_asg (P := D K (eS (cs.getD r []))) (ev_ixTN (ev_table T.cl T.nT (ev_var rfl)) (ev_var rfl) (by rw [List.getElem?_map, hrow]; rfl)) (lt_some rfl)) ?_
  refine rt_seq (st_asg (P := D K (eS [if cellOf cs r c = sg then 46 else ot])) (ev_if (Γ2 := [.pr (Br K C cs), .pr (D K (eP s)), .pr (D K (eN cs.length)), .pr (D K (eS (cs.getD r []))), .no, .pr (D K (eN r)), .pr (D K (eN c)), .pr (D K (eS [sg]))]) (et_test (ev_eqSN (x := [cellOf cs r c]) (y := [sg]) (ev_ixSN (ev_var rfl) (ev_var rfl) (by omega) hcell) (ev_var rfl))) (fun hb => ?_) (fun hb => ?_)) (lt_some rfl)) ?_
  · have : cellOf cs r c = sg := by simpa using of_decide_eq_true hb
    rw [if_pos this]
    exact ev_str
  · have hne : cellOf cs r c ≠ sg := by simpa using of_decide_eq_false hb
    rw [if_neg hne]
    have h120 : cellOf cs r c = 120 := by
      simp only [List.mem_cons, List.not_mem_nil, or_false] at hx
      exact hx.resolve_left hne
    refine (ev_repIf (ev_var rfl) (ev_var rfl) (by show (cs.getD r []).toArray.size ≤ 100000; rw [List.size_toArray]; omega) (atI_nat (by simpa using hcell)) (by rw [h120]; decide +kernel) (et_test (ev_eqSN (x := [sg]) (y := [62]) (ev_var rfl) ev_str))).is ?_
    rw [h120]
    rcases hso with ⟨rfl, rfl⟩ | ⟨rfl, rfl⟩
    · exact congrArg (fun z => D K (.str z)) rep_lt
    · exact congrArg (fun z => D K (.str z)) rep_gt
  refine rt_seq (st_asg (P := D K (eS ((cs.getD r []).set c (if cellOf cs r c = sg then 46 else ot)))) (Ev.is (ev_addS (ev_addS (ev_slS (ev_var rfl) eo_none (eo_some (ev_var rfl)) ?_) (ev_var rfl) ?_) (ev_slS (ev_var rfl) (eo_some (ev_addN (j := 1) (ev_var rfl) ev_int)) eo_none ?_) ?_) ?_) (lt_some rfl)) ?_
  · show (cs.getD r []).toArray.size ≤ 100000
    rw [List.size_toArray]
    omega
  · rw [cutS_to (by omega)]
    show ((cs.getD r []).take c).toArray.size + [_].toArray.size ≤ 100000
    rw [List.size_toArray, List.size_toArray, List.length_take]
    simp only [List.length_cons, List.length_nil]
    omega
  · show (cs.getD r []).toArray.size ≤ 100000
    rw [List.size_toArray]
    omega
  · rw [cutS_to (by omega), cutS_from (by omega), str_app]
    show ((cs.getD r []).take c ++ [_]).toArray.size + ((cs.getD r []).drop (c + 1)).toArray.size ≤ 100000
    rw [List.size_toArray, List.size_toArray, List.length_append, List.length_take, List.length_drop]
    simp only [List.length_cons, List.length_nil]
    omega
  · rw [cutS_to (by omega), cutS_from (by omega), str_app, str_app, set_cut (by omega)]
  · refine rt_ret (Ev.is (ev_board (cs := setCell cs r c (if cellOf cs r c = sg then 46 else ot)) (Ev.is (ev_catT (ev_catT (ev_slT (ev_table T.cl T.nT (ev_var rfl)) eo_none (eo_some (ev_var rfl))) (ev_tup (ed_cons (ev_var rfl) ed_nil) (by show 1 ≤ 100000; decide)) ?_) (ev_slT (ev_table T.cl T.nT (ev_var rfl)) (eo_some (ev_addN (j := 1) (ev_var rfl) ev_int)) eo_none) ?_) ?_) (hw ▸ hg)) ?_) (Wk.nil _)
    · rw [cutD_to (by rw [List.length_map]; omega), List.length_take, List.length_map]
      simp only [List.length_cons, List.length_nil]
      omega
    · rw [cutD_to (by rw [List.length_map]; omega), cutD_from (by rw [List.length_map]; omega), List.length_append, List.length_take, List.length_drop, List.length_map]
      simp only [List.length_cons, List.length_nil]
      omega
    · rw [cutD_to (by rw [List.length_map]; omega), cutD_from (by rw [List.length_map]; omega), set_cut (by rw [List.length_map]; omega)]
      show D K (.tuple ((cs.map eS).set r (eS _))) = D K (.tuple ((cs.set r _).map eS))
      rw [List.map_set]
    · rw [hw]
theorem cal_is_idle (T : Tx K mg C) {f : Addr} {fd : FuncData} (F : C8.Def K mg "is_idle" (topS 26) f fd) (b : Binds K fd ["board", "step"] []) (c_leads_of : C8.Cal P w K mg base 3 "leads_of" (sp_leads_of K C) []) (c_without_step : C8.Cal P w K mg base 4 "without_step" (sp_without_step K C) []) : C8.Cal P w K mg base 5 "is_idle" (sp_is_idle K C) [] := by
  have S : FnScope ["board", "step"] ["board", "step"] (C8.fnScope (topS 26)) := C8.fnScope_by (by decide +kernel)
  have nd := S.nd
  refine cal_F (n := 0) F b S (fun _ => rfl) rfl fun cdv A outer s H E hr => ⟨_, (pss_one (ps_ret (pe_cmpR (oIn K) (pe_ix (ixT K) (pv 1) pe_int (fun _ _ => rfl)) (pe_ix (ixL K) (C8.pe_c c_leads_of hr (by decide) (by rfl) (pa_cons (C8.pe_c c_without_step hr (by decide) (by rfl) (pa_cons (pv 0) (pa_cons (pv 1) pa_nil))) pa_nil)) (pe_ix (ixT K) (pv 1) pe_int (fun _ _ => rfl)) (fun _ _ => rfl)) (by rfl)))), ?_⟩
  rintro ⟨cs, s⟩ ⟨g, hs⟩
  have g : Good cs := g
  have hs : s ∈ stepsOf cs := hs
  have hg := withoutStep_good g hs
  have hlt := (stepsOf_lt g hs).1
  have hm : manyOf (withoutStep cs s) = manyOf cs := by unfold manyOf rowsOf; rw [withoutStep_len, withoutStep_cols g hs]
  refine rt_ret (ev_inL (x := s.2) (l := leadFrom (withoutStep cs s) s.1) (ev_ixTN (ev_var rfl) (ev_int (n := ((1 : Nat) : Int))) rfl) (ev_ixLN (ev_call (withoutStep cs s) (ea_cons (ev_call (α := List (List Nat) × Nat × Nat) (cs, s) (ea_cons (ev_var rfl) (ea_cons (ev_var rfl) ea_nil)) ⟨g, hs⟩) ea_nil) hg) (ev_ixTN (ev_var rfl) (ev_int (n := ((0 : Nat) : Int))) rfl) ?_)) (Wk.nil _)
  rw [List.getElem?_map]
  unfold leadsOf
  rw [List.getElem?_map, List.getElem?_range (by show s.1 < _; omega)]
  rfl
theorem cal_lean (T : Tx K mg C) {f : Addr} {fd : FuncData} (F : C8.Def K mg "lean" (topS 27) f fd) (b : Binds K fd ["board"] []) (c_all_steps : C8.Cal P w K mg base 1 "all_steps" (sp_all_steps K C) []) (c_is_idle : C8.Cal P w K mg base 5 "is_idle" (sp_is_idle K C) []) (c_need_board : C8.Cal P w K mg base 1 "need_board" (sp_need_board K C) []) (c_without_step : C8.Cal P w K mg base 4 "without_step" (sp_without_step K C) []) : C8.Cal P w K mg base 6 "lean" (sp_lean K C) [] := by
  have S : FnScope ["board", "step"] ["board"] (C8.fnScope (topS 27)) := C8.fnScope_by (by decide +kernel)
  have nd := S.nd
  refine cal_F (n := 1) F b S (fun _ => rfl) rfl fun cdv A outer s H E hr => ⟨_, (pss_cons (ps_expr (C8.pe_c c_need_board hr (by decide) (by rfl) (pa_cons (pv 0) pa_nil)))
    (pss_cons (ps_for PassesOwn.never rfl (piL K rfl (C8.pe_c c_all_steps hr (by decide) (by rfl) (pa_cons (pv 0) pa_nil))) (pg_name (i := 1) nd rfl (by first | exact Or.inl rfl | exact Or.inr rfl))
    (pss_one (ps_set (i := 0) nd rfl (Or.inl rfl) (pe_ifExp (pt_val (C8.pe_c c_is_idle hr (by decide) (by rfl) (pa_cons (pv 0) (pa_cons (pv 1) pa_nil)))) (C8.pe_c c_without_step hr (by decide) (by rfl) (pa_cons (pv 0) (pa_cons (pv 1) pa_nil))) (pv 0)))))
    (pss_one (ps_ret (pv 0))))), ?_⟩
  intro cs g
  refine rt_seq (st_drop (ev_call cs (ea_cons (ev_var rfl) ea_nil) g)) ?_
  refine rt_seq (Γ1 := [.pr (Br K C (leanOf cs)), .no]) ?_ (rt_ret (ev_var rfl) (Wk.nil _))
  refine go_forM (xs := stepsOf cs) (A := fun s => D K (eP s)) (S := fun i => [.pr (Br K C (leanTo cs i)), .no]) (ei_listM (ev_call cs (ea_cons (ev_var rfl) ea_nil) g)) (by repeat (first | exact Wk.nil _ | exact Wk.refl _ | refine Wk.cons (by first | exact Or.inr rfl | exact Or.inl rfl) ?_)) (fun i s hs => ?_) (by rw [leanTo_len]; exact (by repeat (first | exact Wk.nil _ | exact Wk.refl _ | refine Wk.cons (by first | exact Or.inr rfl | exact Or.inl rfl) ?_)))
  obtain ⟨gi, hi⟩ := leanTo_inv g i
  have hm := hi s (List.mem_of_getElem? (i := 0) (by rw [List.getElem?_drop, Nat.add_zero]; exact hs))
  refine tg_name (lt_some rfl) ?_
  refine (st_asg (P := Br K C (leanTo cs (i + 1))) (ev_if (Γ2 := [.pr (Br K C (leanTo cs i)), .pr (D K (eP s))]) (et_B (ev_call (α := List (List Nat) × Nat × Nat) (leanTo cs i, s) (ea_cons (ev_var rfl) (ea_cons (ev_var rfl) ea_nil)) ⟨gi, hm⟩)) (fun hb => ?_) (fun hb => ?_)) (lt_some rfl)).wk (by repeat (first | exact Wk.nil _ | exact Wk.refl _ | refine Wk.cons (by first | exact Or.inr rfl | exact Or.inl rfl) ?_))
  · refine (ev_call (α := List (List Nat) × Nat × Nat) (leanTo cs i, s) (ea_cons (ev_var rfl) (ea_cons (ev_var rfl) ea_nil)) ⟨gi, hm⟩).is ?_
    rw [leanTo_succ hs]
    unfold leanTurn
    rw [if_pos hb]
  · refine (ev_var rfl).is ?_
    rw [leanTo_succ hs]
    unfold leanTurn
    rw [if_neg (by rw [hb]; exact Bool.false_ne_true)]
end
end WF

/-! ## text W7 -/
namespace WF
open PySem PySem.Spec PyProof.Rows L2
abbrev sp_keeps (K : PySem.W.Frag) (_ : Addr) : Sp := spF (α := List (List Nat) × List Nat) (fun a => [D K (eNss a.1), D K (eL a.2)]) (fun a => a.2.length ≤ 1000 ∧ (∀ t ∈ a.2, t < a.1.length) ∧ ∀ r ∈ a.1, r.length ≤ 1000) (fun a => D K (.bool (keepsIn a.1 a.2)))
abbrev sp_are_all (K : PySem.W.Frag) (_ : Addr) : Sp := spF (α := List (List Nat) × Bool × List (List Nat)) (fun a => [D K (eLo a.2.1 a.1), D K (eNss a.2.2)]) (fun a => a.2.2.length ≤ 10 ∧ ∀ r ∈ a.2.2, r.length ≤ 1000) (fun a => D K (.bool (areAll a.1 a.2.2)))
abbrev sp_ahead_of (K : PySem.W.Frag) (_ : Addr) : Sp := spF (α := List (List Nat) × Bool × Nat) (fun a => [D K (eLo a.2.1 a.1), D K (eN a.2.2)]) (fun a => a.1.length ≤ 10000 ∧ a.2.2 ≤ 10) (fun a => D K (eNss (aheadOf a.1 a.2.2)))
abbrev sp_can_step (K : PySem.W.Frag) (_ : Addr) : Sp := spF (α := Nat × Nat × Nat) (fun a => [D K (eN a.1), D K (eN a.2.1), D K (eN a.2.2)]) (fun _ => True) (fun a => D K (.bool (canStep a.1 a.2.1 a.2.2)))
abbrev sp_board_of_steps (K : PySem.W.Frag) (C : Addr) : Sp := spF (α := Nat × Nat × List (Nat × Nat)) (fun a => [D K (eN a.1), D K (eN a.2.1), D K (ePs a.2.2)]) (fun a => (1 ≤ a.1 ∧ a.1 ≤ 5) ∧ 1 ≤ a.2.1 ∧ a.2.1 ≤ 5) (fun a => Br K C (boardOfSteps a.1 a.2.1 a.2.2))
theorem allLots_lt : ∀ {n : Nat} {l : List Nat}, l ∈ allLots n → ∀ t ∈ l, t < n
  | 0, l, h, t, ht => by
    have : l = [] := by simpa [allLots] using h
    subst this
    cases ht
  | n + 1, l, h, t, ht => by
    rcases List.mem_append.mp h with h | h
    · exact Nat.lt_succ_of_lt (allLots_lt h t ht)
    · obtain ⟨m, h1, rfl⟩ := List.mem_map.mp h
      rcases List.mem_append.mp ht with ht | ht
      · exact Nat.lt_succ_of_lt (allLots_lt h1 t ht)
      · rw [List.mem_singleton.mp ht]; exact Nat.lt_succ_self _
def aheadRow (lots : List (List Nat)) (many t : Nat) : List Nat := (List.range many).filter fun o => (lots.filter fun l => decide (t ∈ l)).all fun l => decide (o ∈ l)
def cellOfSteps (R : Nat) (st : List (Nat × Nat)) (r c : Nat) : Nat := signOf (decide ((r, R + c) ∈ st)) (decide ((R + c, r) ∈ st))
def rowOfSteps (R C : Nat) (st : List (Nat × Nat)) (r : Nat) : List Nat := (List.range C).map (cellOfSteps R st r)
theorem signOf_in (a b : Bool) : signOf a b ∈ signs := by cases a <;> cases b <;> decide
theorem boardOfSteps_good {R C : Nat} {st : List (Nat × Nat)} (r1 : 1 ≤ R) (r5 : R ≤ 5) (c1 : 1 ≤ C) (c5 : C ≤ 5) : Good (boardOfSteps R C st) := by
  have hl : (boardOfSteps R C st).length = R := by unfold boardOfSteps; rw [List.length_map, List.length_range]
  have ln : ∀ l ∈ boardOfSteps R C st, l.length = C := fun l h => by
    obtain ⟨r, _, rfl⟩ := List.mem_map.mp h
    rw [List.length_map, List.length_range]
  have hc : colsOf (boardOfSteps R C st) = C := ln _ (by
    rw [List.getD_eq_getElem?_getD, List.getElem?_eq_getElem (by omega)]
    exact List.getElem_mem _)
  refine ⟨by omega, by omega, by omega, by omega, fun l h => by rw [hc]; exact ln l h, fun l h c hcm => ?_⟩
  obtain ⟨r, _, rfl⟩ := List.mem_map.mp h
  obtain ⟨k, _, rfl⟩ := List.mem_map.mp hcm
  exact signOf_in _ _
theorem range_at {n i x : Nat} (h : (List.range n)[i]? = some x) : i < n ∧ x = i := by
  obtain ⟨h1, h2⟩ := List.getElem?_eq_some_iff.mp h
  rw [List.length_range] at h1
  rw [List.getElem_range] at h2
  exact ⟨h1, h2.symm⟩
section
variable {P : Program} {w : World} {K : PySem.W.Frag} {mg : Str → Option Value} {base : Heap} {C : Addr}
theorem cast_if {b b' : Bool} (h : b = b') : D K (.int (if b = true then 1 else 0)) = D K (eN (if b' = true then 1 else 0)) := by
  subst h
  cases b <;> rfl
theorem ev_lenLo {Γ Γ1 : List Sl} {ta : TE} {b : Bool} {ls : List (List Nat)} (h : Ev Γ ta (D K (eLo b ls)) Γ1) : Ev Γ (tCB (fun xs H Q => ∃ p ys, xs = [V.ref p] ∧ (SqL K H p ys ∨ SqT K H p ys) ∧ Q (V.int ys.length) H) (tCons ta tNil)) (D K (eN ls.length)) Γ1 := by
  cases b with
  | false => exact ev_lenLN h
  | true => exact ev_lenTN h
theorem cal_keeps (T : Tx K mg C) {f : Addr} {fd : FuncData} (F : C8.Def K mg "keeps" (topS 30) f fd) (b : Binds K fd ["ahead", "lot"] []) (c_lies_in : C8.Cal P w K mg base 1 "lies_in" (sp_lies_in K C) []) : C8.Cal P w K mg base 2 "keeps" (sp_keeps K C) [] := by
  have S : FnScope ["ahead", "lot", "thread"] ["ahead", "lot"] (C8.fnScope (topS 30)) := C8.fnScope_by (by decide +kernel)
  have nd := S.nd
  refine cal_F (n := 1) F b S (fun _ => rfl) rfl fun cdv A outer s H E hr => ⟨_, (pss_one (ps_ret (pe_callB (cAll K rfl rfl) (by rfl) T.b_all (by decide +kernel) (pa_cons (pe_lc (own := [("thread", 2)]) (g := (gName 2)) rfl nd (piT K rfl (pv 1)) (blkOk_by (by kernel_rfl)) (fun _ _ _ _ _ => (pg_name (i := 2) nd rfl (by first | exact Or.inl rfl | exact Or.inr rfl))) (fun _ _ _ _ _ => pts_nil) (fun _ _ _ _ _ => (C8.pe_c c_lies_in hr (by decide) (by rfl) (pa_cons (pe_ix (ixL K) (pv 0) (pv 2) (fun _ _ => rfl)) (pa_cons (pv 1) pa_nil))))) pa_nil)))), ?_⟩
  rintro ⟨ah, l⟩ ⟨h1, h2, h3⟩
  have h1 : l.length ≤ 1000 := h1
  have h2 : ∀ t ∈ l, t < ah.length := h2
  refine rt_ret ((ev_all (bs := l.map fun t => liesIn (ah.getD t []) l) (Ev.is (ev_new (en_lc (xs := l) (A := fun t => D K (eN t)) (F := fun t => if true then some (.bool (liesIn (ah.getD t []) l)) else none) (ei_tup (ev_var rfl)) (by rw [List.map_map]; rfl) rfl (by omega) fun t ht =>
    cg_name (by decide) (lt_some rfl) et_yes (fun _ => ev_call (α := List Nat × List Nat) (ah.getD t [], l) (ea_cons (ev_ixLN (ev_var rfl) (ev_var rfl) ?_) (ea_cons (ev_var rfl) ea_nil)) ?_) (fun h => nomatch h) (fun _ => by rfl))) ?_)).is ?_) (Wk.nil _)
  · rw [List.getElem?_map, List.getD_eq_getElem?_getD, List.getElem?_eq_getElem (h2 t ht)]
    rfl
  · rw [List.getD_eq_getElem?_getD, List.getElem?_eq_getElem (h2 t ht)]
    have := h3 (ah[t]'(h2 t ht)) (List.getElem_mem _)
    show (ah[t]'(h2 t ht)).length ≤ 100000
    omega
  · rw [filterMap_some, List.map_map]; rfl
  · rw [List.all_map]; rfl
theorem cal_are_all (T : Tx K mg C) {f : Addr} {fd : FuncData} (F : C8.Def K mg "are_all" (topS 31) f fd) (b : Binds K fd ["lots", "ahead"] []) (c_all_lots : C8.Cal P w K mg base 1 "all_lots" (sp_all_lots K C) []) (c_keeps : C8.Cal P w K mg base 2 "keeps" (sp_keeps K C) []) : C8.Cal P w K mg base 3 "are_all" (sp_are_all K C) [] := by
  have S : FnScope ["lots", "ahead", "lot"] ["lots", "ahead"] (C8.fnScope (topS 31)) := C8.fnScope_by (by decide +kernel)
  have nd := S.nd
  refine cal_F (n := 1) F b S (fun _ => rfl) rfl fun cdv A outer s H E hr => ⟨_, (pss_one (ps_ret (pe_cmpR op_eq (pe_callB (cLen K) (by rfl) T.b_len (by decide +kernel) (pa_cons (pv 0) pa_nil)) (pe_callB (cLen K) (by rfl) T.b_len (by decide +kernel) (pa_cons (pe_lc (own := [("lot", 2)]) (g := (gName 2)) rfl nd (piL K rfl (C8.pe_c c_all_lots hr (by decide) (by rfl) (pa_cons (pe_callB (cLen K) (by rfl) T.b_len (by decide +kernel) (pa_cons (pv 1) pa_nil)) pa_nil))) (blkOk_by (by kernel_rfl)) (fun _ _ _ _ _ => (pg_name (i := 2) nd rfl (by first | exact Or.inl rfl | exact Or.inr rfl))) (fun _ _ _ _ _ => (pts_one (pt_val (C8.pe_c c_keeps hr (by decide) (by rfl) (pa_cons (pv 1) (pa_cons (pv 2) pa_nil)))))) (fun _ _ _ _ _ => (pv 2))) pa_nil)) (nomark _)))), ?_⟩
  rintro ⟨ls, bl, ah⟩ ⟨h1, h3⟩
  have h1 : ah.length ≤ 10 := h1
  have hz := allLots_small h1
  refine rt_ret (ev_eqN (ev_lenLo (ev_var rfl)) (ev_lenLN (enc := eL) (xs := (allLots ah.length).filter (keepsIn ah)) (Ev.is (ev_new (en_lc (xs := allLots ah.length) (A := fun l => D K (eL l)) (F := fun l => if keepsIn ah l then some (eL l) else none) (ei_list (ev_dl (ev_call ah.length (ea_cons (ev_lenLN (ev_var rfl)) ea_nil) h1))) (by rw [List.map_map]; rfl) rfl (by omega) fun l hl =>
    cg_name (by decide) (lt_some rfl) (et_B (ev_call (α := List (List Nat) × List Nat) (ah, l) (ea_cons (ev_var rfl) (ea_cons (ev_var rfl) ea_nil)) ⟨by have := allLots_mem hl; show l.length ≤ 1000; omega, allLots_lt hl, h3⟩)) (fun _ => ev_var rfl) (fun _ => by rfl) (fun _ => by rfl))) ?_))) (Wk.nil _)
  rw [filterMap_if]
theorem cal_can_step (T : Tx K mg C) {f : Addr} {fd : FuncData} (F : C8.Def K mg "can_step" (topS 33) f fd) (b : Binds K fd ["rows", "one", "other"] [])  : C8.Cal P w K mg base 1 "can_step" (sp_can_step K C) [] := by
  have S : FnScope ["rows", "one", "other"] ["rows", "one", "other"] (C8.fnScope (topS 33)) := C8.fnScope_by (by decide +kernel)
  have nd := S.nd
  refine cal_F (n := 0) F b S (fun _ => rfl) rfl fun cdv A outer s H E hr => ⟨_, (pss_one (ps_ret (pe_cmpR op_ne (pe_cmpR op_lt (pv 1) (pv 0) (nomark _)) (pe_cmpR op_lt (pv 2) (pv 0) (nomark _)) (nomark _)))), ?_⟩
  rintro ⟨R, a, c⟩ _
  refine rt_ret ((ev_neB (ev_ltN (ev_var rfl) (ev_var rfl)) (ev_ltN (ev_var rfl) (ev_var rfl))).is ?_) (Wk.nil _)
  unfold canStep
  cases decide (a < R) <;> cases decide (c < R) <;> rfl
theorem cal_board_of_steps (T : Tx K mg C) {f : Addr} {fd : FuncData} (F : C8.Def K mg "board_of_steps" (topS 32) f fd) (b : Binds K fd ["rows", "columns", "told"] []) (c_Board : C8.Mak P w K mg base 2 "Board" C (sp_Board K C) []) : C8.Cal P w K mg base 4 "board_of_steps" (sp_board_of_steps K C) [] := by
  have S : FnScope ["rows", "columns", "told", "lines", "row", "line", "column"] ["rows", "columns", "told"] (C8.fnScope (topS 32)) := C8.fnScope_by (by decide +kernel)
  have nd := S.nd
  refine cal_F (n := 4) F b S (fun _ => rfl) rfl fun cdv A outer s H E hr => ⟨_, (pss_cons (ps_set (i := 3) nd rfl (Or.inl rfl) (pe_lst pa_nil))
    (pss_cons (ps_for PassesOwn.never rfl (pi_range1 (by rfl) T.b_range (pa_cons (pv 0) pa_nil)) (pg_name (i := 4) nd rfl (by first | exact Or.inl rfl | exact Or.inr rfl))
    (pss_cons (ps_set (i := 5) nd rfl (Or.inl rfl) pe_str)
    (pss_cons (ps_for PassesOwn.never rfl (pi_range2 (by rfl) T.b_range (pa_cons (pv 0) (pa_cons (pe_op op_add (pv 0) (pv 1)) pa_nil))) (pg_name (i := 6) nd rfl (by first | exact Or.inl rfl | exact Or.inr rfl))
    (pss_one (ps_aug (i := 5) nd rfl (Or.inl rfl) (pe_ix ix_str pe_str (pe_op op_add (pe_op op_mul pe_int (pe_callTy call_int1 (by rfl) T.b_int (by decide +kernel) (pa_cons (pe_cmpR (oInD K rfl (in65 hr)) (pe_tup (pa_cons (pv 4) (pa_cons (pv 6) pa_nil))) (pv 2) (by rfl)) pa_nil))) (pe_callTy call_int1 (by rfl) T.b_int (by decide +kernel) (pa_cons (pe_cmpR (oInD K rfl (in65 hr)) (pe_tup (pa_cons (pv 6) (pa_cons (pv 4) pa_nil))) (pv 2) (by rfl)) pa_nil))) (fun _ _ => rfl)) ip_addS)))
    (pss_one (ps_expr (peBm K rfl PySem.F.plainAttrs_list PySem.F.slot_list_append PySem.F.type_list_append mt_append (pv 3) (pa_cons (pv 5) pa_nil)))))))
    (pss_one (ps_ret (C8.pe_mk c_Board hr (by decide) (by rfl) (pa_cons (pe_callTy (cTup K) (by rfl) T.b_tuple (by decide +kernel) (pa_cons (pv 3) pa_nil)) pa_nil)))))), ?_⟩
  rintro ⟨R, M, st⟩ ⟨⟨r1, r5⟩, c1, c5⟩
  have r1 : 1 ≤ R := r1
  have r5 : R ≤ 5 := r5
  have c1 : 1 ≤ M := c1
  have c5 : M ≤ 5 := c5
  refine rt_new (O := oL K []) (en_lst ed_nil (by show 0 ≤ 100000; decide)) (lt_some rfl) fun a => ?_
  refine rt_seq (Γ1 := [.pr (D K (eN R)), .pr (D K (eN M)), .pr (D K (ePs st)), .own a (oL K ((boardOfSteps R M st).map eS)), .no, .no, .no]) ?_ (rt_ret (ev_board (cs := boardOfSteps R M st) (ev_tupleOfO rfl) (boardOfSteps_good r1 r5 c1 c5)) (Wk.nil _))
  refine go_forM (xs := List.range R) (A := fun i => D K (eN i)) (S := fun i => [.pr (D K (eN R)), .pr (D K (eN M)), .pr (D K (ePs st)), .own a (oL K (((List.range i).map (rowOfSteps R M st)).map eS)), .no, .no, .no])
    (ei_rngN (ev_var rfl) (by omega)) (by repeat (first | exact Wk.nil _ | exact Wk.refl _ | refine Wk.cons (by first | exact Or.inr rfl | exact Or.inl rfl) ?_)) (fun i x hx => ?_) (by rw [List.length_range]; exact (by repeat (first | exact Wk.nil _ | exact Wk.refl _ | refine Wk.cons (by first | exact Or.inr rfl | exact Or.inl rfl) ?_)))
  obtain ⟨hi, rfl⟩ := range_at hx
  refine tg_name (lt_some rfl) (st_seq (st_asg (P := D K (eS [])) ev_str (lt_some rfl)) (st_seq (Γ1 := [.pr (D K (eN R)), .pr (D K (eN M)), .pr (D K (ePs st)), .own a (oL K (((List.range x).map (rowOfSteps R M st)).map eS)), .pr (D K (eN x)), .pr (D K (eS (rowOfSteps R M st x))), .no]) ?_ ((st_append rfl (ev_var rfl) rfl (by rw [List.length_map, List.length_map, List.length_range]; omega)).wk ?_)))
  · have e9 : R + M - R = M := by omega
    refine go_forM (xs := List.range (R + M - R)) (A := fun i => D K (eN (R + i))) (S := fun j => [.pr (D K (eN R)), .pr (D K (eN M)), .pr (D K (ePs st)), .own a (oL K (((List.range x).map (rowOfSteps R M st)).map eS)), .pr (D K (eN x)), .pr (D K (eS ((List.range j).map (cellOfSteps R st x)))), .no])
      (ei_rngN2 (ev_var rfl) (ev_addN (ev_var rfl) (ev_var rfl)) (by omega) (by omega)) (by repeat (first | exact Wk.nil _ | exact Wk.refl _ | refine Wk.cons (by first | exact Or.inr rfl | exact Or.inl rfl) ?_)) (fun j y hy => ?_) (by rw [List.length_range, e9]; exact (by repeat (first | exact Wk.nil _ | exact Wk.refl _ | refine Wk.cons (by first | exact Or.inr rfl | exact Or.inl rfl) ?_)))
    obtain ⟨hj, rfl⟩ := range_at hy
    refine tg_name (lt_some rfl) ?_
    refine (go_augS (x := ⟨((List.range y).map (cellOfSteps R st x)).toArray⟩) (y := ⟨[cellOfSteps R st x y].toArray⟩) rfl (Ev.is (ev_ixSN (z := [46, 60, 62, 120]) (i := 2 * (if decide ((x, R + y) ∈ st) then 1 else 0) + if decide ((R + y, x) ∈ st) then 1 else 0) (c := cellOfSteps R st x y) ev_str (Ev.is (ev_addN (i := 2 * (if decide ((x, R + y) ∈ st) then 1 else 0)) (j := if decide ((R + y, x) ∈ st) then 1 else 0) (ev_mulN (i := 2) ev_int (Ev.is (ev_intB (ev_inE okP (x := (x, R + y)) (xs := st) (ev_pair (ev_var rfl) (ev_var rfl)) (ev_var rfl) trivial fun _ _ => trivial)) ?_) (by decide)) (Ev.is (ev_intB (ev_inE okP (x := (R + y, x)) (xs := st) (ev_pair (ev_var rfl) (ev_var rfl)) (ev_var rfl) trivial fun _ _ => trivial)) ?_)) rfl) (by show 4 ≤ 100000; decide) ?_) rfl) (lt_some rfl) ?_).wk ?_
    · exact cast_if (decide_eq_decide.mpr Iff.rfl)
    · exact cast_if (decide_eq_decide.mpr Iff.rfl)
    · unfold cellOfSteps
      cases decide ((x, R + y) ∈ st) <;> cases decide ((R + y, x) ∈ st) <;> rfl
    · show ((List.range y).map (cellOfSteps R st x)).toArray.size + [cellOfSteps R st x y].toArray.size ≤ 100000
      rw [List.size_toArray, List.size_toArray, List.length_map, List.length_range]
      simp only [List.length_cons, List.length_nil]
      omega
    · refine Wk.cons (.inr rfl) (Wk.cons (.inr rfl) (Wk.cons (.inr rfl) (Wk.cons (.inr rfl) (Wk.cons (.inr rfl) (Wk.cons (.inr ?_) (by repeat (first | exact Wk.nil _ | exact Wk.refl _ | refine Wk.cons (by first | exact Or.inr rfl | exact Or.inl rfl) ?_)))))))
      rw [str_app, List.range_succ, List.map_append]
      rfl
  · refine Wk.cons (.inr rfl) (Wk.cons (.inr rfl) (Wk.cons (.inr rfl) (Wk.cons (.inr ?_) (by repeat (first | exact Wk.nil _ | exact Wk.refl _ | refine Wk.cons (by first | exact Or.inr rfl | exact Or.inl rfl) ?_)))))
    rw [List.range_succ, List.map_append, List.map_append]
    rfl
theorem cal_ahead_of (T : Tx K mg C) {f : Addr} {fd : FuncData} (F : C8.Def K mg "ahead_of" (topS 29) f fd) (b : Binds K fd ["lots", "many"] [])  : C8.Cal P w K mg base 1 "ahead_of" (sp_ahead_of K C) [] := by
  have S : FnScope ["lots", "many", "found", "thread", "some", "lot", "other"] ["lots", "many"] (C8.fnScope (topS 29)) := C8.fnScope_by (by decide +kernel)
  have nd := S.nd
  refine cal_Fa (n := 5) F b S (fun _ => rfl) rfl ?_
  rintro ⟨ls, bl, n⟩ ⟨hl, hn⟩
  have hl : ls.length ≤ 10000 := hl
  have hn : n ≤ 10 := hn
  cases bl with
  | false =>
    refine fun cdv A outer s H E hr => ⟨_, (pss_cons (ps_set (i := 2) nd rfl (Or.inl rfl) (pe_lst pa_nil))
    (pss_cons (ps_for PassesOwn.never rfl (pi_range1 (by rfl) T.b_range (pa_cons (pv 1) pa_nil)) (pg_name (i := 3) nd rfl (by first | exact Or.inl rfl | exact Or.inr rfl))
    (pss_cons (ps_set (i := 4) nd rfl (Or.inr rfl) (pe_lc (own := [("lot", 5)]) (g := (gName 5)) rfl nd (piL K rfl (pv 0)) (blkOk_by (by kernel_rfl)) (fun _ _ _ _ _ => (pg_name (i := 5) nd rfl (by first | exact Or.inl rfl | exact Or.inr rfl))) (fun _ _ _ _ _ => (pts_one (pt_cmpR (oIn K) (pv 3) (pv 5) (by rfl)))) (fun _ _ _ _ _ => (pv 5))))
    (pss_one (ps_expr (peBm K rfl PySem.F.plainAttrs_list PySem.F.slot_list_append PySem.F.type_list_append mt_append (pv 2) (pa_cons (pe_lc (own := [("other", 6)]) (g := (gName 6)) rfl nd (pi_range1 (by rfl) T.b_range (pa_cons (pv 1) pa_nil)) (blkOk_by (by kernel_rfl)) (fun _ _ _ _ _ => (pg_name (i := 6) nd rfl (by first | exact Or.inl rfl | exact Or.inr rfl))) (fun _ _ _ _ _ => (pts_one (pt_val (pe_callB (cAll K rfl rfl) (by rfl) T.b_all (by decide +kernel) (pa_cons (pe_lc (own := [("lot", 5)]) (g := (gName 5)) rfl nd (piL K rfl (pv 4)) (blkOk_by (by kernel_rfl)) (fun _ _ _ _ _ => (pg_name (i := 5) nd rfl (by first | exact Or.inl rfl | exact Or.inr rfl))) (fun _ _ _ _ _ => pts_nil) (fun _ _ _ _ _ => (pe_cmpR (oIn K) (pv 6) (pv 5) (by rfl)))) pa_nil))))) (fun _ _ _ _ _ => (pv 6))) pa_nil))))))
    (pss_one (ps_ret (pv 2))))), ?_⟩
    refine rt_new (O := oL K []) (en_lst ed_nil (by show 0 ≤ 100000; decide)) (lt_some rfl) fun a => ?_
    refine rt_seq (Γ1 := [.pr (D K (eLo false ls)), .pr (D K (eN n)), .own a (oL K ((aheadOf ls n).map eNs)), .no, .no, .no, .no]) ?_ (rt_ret (ev_own rfl) (Wk.nil _))
    refine go_forM (xs := List.range n) (A := fun i => D K (eN i)) (S := fun i => [.pr (D K (eLo false ls)), .pr (D K (eN n)), .own a (oL K (((List.range i).map (aheadRow ls n)).map eNs)), .no, .no, .no, .no])
      (ei_rngN (ev_var rfl) (by omega)) (by repeat (first | exact Wk.nil _ | exact Wk.refl _ | refine Wk.cons (by first | exact Or.inr rfl | exact Or.inl rfl) ?_)) (fun i x hx => ?_) (by rw [List.length_range]; exact (by repeat (first | exact Wk.nil _ | exact Wk.refl _ | refine Wk.cons (by first | exact Or.inr rfl | exact Or.inl rfl) ?_)))
    obtain ⟨hi, rfl⟩ := range_at hx
    refine tg_name (lt_some rfl) (st_seq (st_asg (P := D K (.list ((ls.filter fun l => decide (x ∈ l)).map eL))) (Ev.is (ev_new (en_lc (xs := ls) (A := fun l => D K (eL l)) (F := fun l => if decide (x ∈ l) then some (eL l) else none) (ei_list (ds := ls.map eL) (ev_var rfl)) (by rw [List.map_map]; rfl) rfl (by omega) fun l hlm =>
      cg_name (by decide) (lt_some rfl) (et_test (ev_inT (ev_var rfl) (ev_var rfl))) (fun _ => ev_var rfl) (fun _ => by rfl) (fun _ => by rfl))) ?_) (lt_some rfl)) ((st_append rfl (ev_new (en_lc (xs := List.range n) (A := fun o => D K (eN o)) (F := fun o => if (ls.filter fun l => decide (x ∈ l)).all (fun l => decide (o ∈ l)) then some (eN o) else none) (ei_rngN (ev_var rfl) (by omega)) rfl rfl (by rw [List.length_range]; omega) fun o ho =>
      cg_name (by decide) (lt_some rfl) (et_B (K := K) (Ev.is (ev_all (bs := (ls.filter fun l => decide (x ∈ l)).map fun l => decide (o ∈ l)) (Ev.is (ev_new (en_lc (xs := ls.filter fun l => decide (x ∈ l)) (A := fun l => D K (eL l)) (F := fun l => if true then some (.bool (decide (o ∈ l))) else none) (ei_list (ev_var rfl)) (by rw [List.map_map]; rfl) rfl (by have := List.length_filter_le (fun l : List Nat => decide (x ∈ l)) ls; omega) fun l hlm =>
        cg_name (by decide) (lt_some rfl) et_yes (fun _ => ev_inT (ev_var rfl) (ev_var rfl)) (fun h => nomatch h) (fun _ => by rfl))) ?_)) ?_)) (fun _ => ev_var rfl) (fun _ => by rfl) (fun _ => by rfl))) rfl ?_).wk ?_))
    · rw [filterMap_if]
    · rw [filterMap_some, List.map_map]; rfl
    · rw [List.all_map]; rfl
    · rw [List.length_map, List.length_map, List.length_range]; omega
    · refine Wk.cons (.inr rfl) (Wk.cons (.inr rfl) (Wk.cons (.inr ?_) (by repeat (first | exact Wk.nil _ | exact Wk.refl _ | refine Wk.cons (by first | exact Or.inr rfl | exact Or.inl rfl) ?_))))
      rw [List.range_succ, List.map_append, List.map_append, filterMap_if]
      rfl
  | true =>
    refine fun cdv A outer s H E hr => ⟨_, (pss_cons (ps_set (i := 2) nd rfl (Or.inl rfl) (pe_lst pa_nil))
    (pss_cons (ps_for PassesOwn.never rfl (pi_range1 (by rfl) T.b_range (pa_cons (pv 1) pa_nil)) (pg_name (i := 3) nd rfl (by first | exact Or.inl rfl | exact Or.inr rfl))
    (pss_cons (ps_set (i := 4) nd rfl (Or.inr rfl) (pe_lc (own := [("lot", 5)]) (g := (gName 5)) rfl nd (piT K rfl (pv 0)) (blkOk_by (by kernel_rfl)) (fun _ _ _ _ _ => (pg_name (i := 5) nd rfl (by first | exact Or.inl rfl | exact Or.inr rfl))) (fun _ _ _ _ _ => (pts_one (pt_cmpR (oIn K) (pv 3) (pv 5) (by rfl)))) (fun _ _ _ _ _ => (pv 5))))
    (pss_one (ps_expr (peBm K rfl PySem.F.plainAttrs_list PySem.F.slot_list_append PySem.F.type_list_append mt_append (pv 2) (pa_cons (pe_lc (own := [("other", 6)]) (g := (gName 6)) rfl nd (pi_range1 (by rfl) T.b_range (pa_cons (pv 1) pa_nil)) (blkOk_by (by kernel_rfl)) (fun _ _ _ _ _ => (pg_name (i := 6) nd rfl (by first | exact Or.inl rfl | exact Or.inr rfl))) (fun _ _ _ _ _ => (pts_one (pt_val (pe_callB (cAll K rfl rfl) (by rfl) T.b_all (by decide +kernel) (pa_cons (pe_lc (own := [("lot", 5)]) (g := (gName 5)) rfl nd (piL K rfl (pv 4)) (blkOk_by (by kernel_rfl)) (fun _ _ _ _ _ => (pg_name (i := 5) nd rfl (by first | exact Or.inl rfl | exact Or.inr rfl))) (fun _ _ _ _ _ => pts_nil) (fun _ _ _ _ _ => (pe_cmpR (oIn K) (pv 6) (pv 5) (by rfl)))) pa_nil))))) (fun _ _ _ _ _ => (pv 6))) pa_nil))))))
    (pss_one (ps_ret (pv 2))))), ?_⟩
    refine rt_new (O := oL K []) (en_lst ed_nil (by show 0 ≤ 100000; decide)) (lt_some rfl) fun a => ?_
    refine rt_seq (Γ1 := [.pr (D K (eLo true ls)), .pr (D K (eN n)), .own a (oL K ((aheadOf ls n).map eNs)), .no, .no, .no, .no]) ?_ (rt_ret (ev_own rfl) (Wk.nil _))
    refine go_forM (xs := List.range n) (A := fun i => D K (eN i)) (S := fun i => [.pr (D K (eLo true ls)), .pr (D K (eN n)), .own a (oL K (((List.range i).map (aheadRow ls n)).map eNs)), .no, .no, .no, .no])
      (ei_rngN (ev_var rfl) (by omega)) (by repeat (first | exact Wk.nil _ | exact Wk.refl _ | refine Wk.cons (by first | exact Or.inr rfl | exact Or.inl rfl) ?_)) (fun i x hx => ?_) (by rw [List.length_range]; exact (by repeat (first | exact Wk.nil _ | exact Wk.refl _ | refine Wk.cons (by first | exact Or.inr rfl | exact Or.inl rfl) ?_)))
    obtain ⟨hi, rfl⟩ := range_at hx
    refine tg_name (lt_some rfl) (st_seq (st_asg (P := D K (.list ((ls.filter fun l => decide (x ∈ l)).map eL))) (Ev.is (ev_new (en_lc (xs := ls) (A := fun l => D K (eL l)) (F := fun l => if decide (x ∈ l) then some (eL l) else none) (ei_tup (ds := ls.map eL) (ev_var rfl)) (by rw [List.map_map]; rfl) rfl (by omega) fun l hlm =>
      cg_name (by decide) (lt_some rfl) (et_test (ev_inT (ev_var rfl) (ev_var rfl))) (fun _ => ev_var rfl) (fun _ => by rfl) (fun _ => by rfl))) ?_) (lt_some rfl)) ((st_append rfl (ev_new (en_lc (xs := List.range n) (A := fun o => D K (eN o)) (F := fun o => if (ls.filter fun l => decide (x ∈ l)).all (fun l => decide (o ∈ l)) then some (eN o) else none) (ei_rngN (ev_var rfl) (by omega)) rfl rfl (by rw [List.length_range]; omega) fun o ho =>
      cg_name (by decide) (lt_some rfl) (et_B (K := K) (Ev.is (ev_all (bs := (ls.filter fun l => decide (x ∈ l)).map fun l => decide (o ∈ l)) (Ev.is (ev_new (en_lc (xs := ls.filter fun l => decide (x ∈ l)) (A := fun l => D K (eL l)) (F := fun l => if true then some (.bool (decide (o ∈ l))) else none) (ei_list (ev_var rfl)) (by rw [List.map_map]; rfl) rfl (by have := List.length_filter_le (fun l : List Nat => decide (x ∈ l)) ls; omega) fun l hlm =>
        cg_name (by decide) (lt_some rfl) et_yes (fun _ => ev_inT (ev_var rfl) (ev_var rfl)) (fun h => nomatch h) (fun _ => by rfl))) ?_)) ?_)) (fun _ => ev_var rfl) (fun _ => by rfl) (fun _ => by rfl))) rfl ?_).wk ?_))
    · rw [filterMap_if]
    · rw [filterMap_some, List.map_map]; rfl
    · rw [List.all_map]; rfl
    · rw [List.length_map, List.length_map, List.length_range]; omega
    · refine Wk.cons (.inr rfl) (Wk.cons (.inr rfl) (Wk.cons (.inr ?_) (by repeat (first | exact Wk.nil _ | exact Wk.refl _ | refine Wk.cons (by first | exact Or.inr rfl | exact Or.inl rfl) ?_))))
      rw [List.range_succ, List.map_append, List.map_append, filterMap_if]
      rfl
end
end WF

/-! ## text W8 -/
namespace WF
open PySem PySem.Spec PyProof.Rows L2
structure LotsOk (R M : Nat) (ls : List (List Nat)) : Prop where
  r1 : 1 ≤ R
  r5 : R ≤ 5
  c1 : 1 ≤ M
  c5 : M ≤ 5
  lt : ∀ l ∈ ls, (∀ t ∈ l, t < R + M) ∧ l.Pairwise (· < ·)
  nd : ls.Pairwise (· ≠ ·)
  sm : ls.length ≤ 10000
  ll : ∀ l ∈ ls, l.length ≤ 1000
abbrev sp_need_lots (K : PySem.W.Frag) (_ : Addr) : Sp := spF (α := Nat × Nat × List (List Nat) × Bool) (fun a => [D K (eN a.1), D K (eN a.2.1), D K (eLo a.2.2.2 a.2.2.1)]) (fun a => LotsOk a.1 a.2.1 a.2.2.1) (fun _ => D K .none)
section
variable {P : Program} {w : World} {K : PySem.W.Frag} {mg : Str → Option Value} {base : Heap} {C : Addr}
theorem cal_need_lots (T : Tx K mg C) {f : Addr} {fd : FuncData} (F : C8.Def K mg "need_lots" (topS 28) f fd) (b : Binds K fd ["rows", "columns", "lots"] []) (c_is_from : C8.Cal P w K mg base 1 "is_from" (sp_is_from K C) []) : C8.Cal P w K mg base 2 "need_lots" (sp_need_lots K C) [] := by
  have S : FnScope ["rows", "columns", "lots", "index", "lot", "thread", "at"] ["rows", "columns", "lots"] (C8.fnScope (topS 28)) := C8.fnScope_by (by decide +kernel)
  have nd := S.nd
  refine cal_Ga (n := 4) (Γ' := fun a => [.pr (D K (eN a.1)), .pr (D K (eN a.2.1))]) F b S (fun _ => rfl) rfl ?_
  rintro ⟨R, M, ls, bl⟩ ⟨r1, r5, c1, c5, hlot, hnd, hsm, hlen⟩
  cases bl with
  | false =>
    have r1 : 1 ≤ R := r1
    have r5 : R ≤ 5 := r5
    have c1 : 1 ≤ M := c1
    have c5 : M ≤ 5 := c5
    have hlot : ∀ l ∈ ls, (∀ t ∈ l, t < R + M) ∧ l.Pairwise (· < ·) := hlot
    have hnd : ls.Pairwise (· ≠ ·) := hnd
    have hsm : ls.length ≤ 10000 := hsm
    have hlen : ∀ l ∈ ls, l.length ≤ 1000 := hlen
    refine fun cdv A outer s H E hr => ⟨_, (pss_cons (ps_if (PW.pt (pw_or (pt_not (pt_val (C8.pe_c c_is_from hr (by decide) (by rfl) (pa_cons (pv 0) (pa_cons pe_int (pa_cons (C8.pe_gc (by rfl) T.g_MOST_LINES) pa_nil)))))) (pw_or1 (pt_not (pt_val (C8.pe_c c_is_from hr (by decide) (by rfl) (pa_cons (pv 1) (pa_cons pe_int (pa_cons (C8.pe_gc (by rfl) T.g_MOST_LINES) pa_nil))))))))) (pss_one ps_never) pss_nil)
    (pss_cons (ps_if (pt_not (pt_val (pe_callB (cIsiT K) (by rfl) T.b_isinstance (by decide +kernel) (pa_cons (pv 2) (pa_cons (pe_tup (pa_cons (pe_bltn (v := .ty "list") (by rfl) T.b_list (by decide +kernel) rfl) (pa_cons (pe_bltn (v := .ty "tuple") (by rfl) T.b_tuple (by decide +kernel) rfl) pa_nil))) pa_nil))))) (pss_one ps_never) pss_nil)
    (pss_one (ps_for PassesOwn.never rfl (piE K rfl (by rfl) T.b_enumerate (pa_cons (pv 2) pa_nil)) (pgTup K rfl rfl (pgs_cons (pg_name (i := 3) nd rfl (by first | exact Or.inl rfl | exact Or.inr rfl)) (pgs_cons (pg_name (i := 4) nd rfl (by first | exact Or.inl rfl | exact Or.inr rfl)) pgs_nil)))
    (pss_cons (ps_if (PW.pt (pw_or (pt_not (pt_val (pe_callB (cIsi K) (by rfl) T.b_isinstance (by decide +kernel) (pa_cons (pv 4) (pa_cons (pe_bltn (v := .ty "tuple") (by rfl) T.b_tuple (by decide +kernel) rfl) pa_nil))))) (pw_or1 (pt_not (pt_val (pe_callB (cAll K rfl rfl) (by rfl) T.b_all (by decide +kernel) (pa_cons (pe_lc (own := [("thread", 5)]) (g := (gName 5)) rfl nd (piT K rfl (pv 4)) (blkOk_by (by kernel_rfl)) (fun _ _ _ _ _ => (pg_name (i := 5) nd rfl (by first | exact Or.inl rfl | exact Or.inr rfl))) (fun _ _ _ _ _ => pts_nil) (fun _ _ _ _ _ => (C8.pe_c c_is_from hr (by decide) (by rfl) (pa_cons (pv 5) (pa_cons pe_int (pa_cons (pe_op op_sub (pe_op op_add (pv 0) (pv 1)) pe_int) pa_nil)))))) pa_nil))))))) (pss_one ps_never) pss_nil)
    (pss_one (ps_if (PW.pt (pw_or (pt_not (pt_val (pe_callB (cAll K rfl rfl) (by rfl) T.b_all (by decide +kernel) (pa_cons (pe_lc (own := [("at", 6)]) (g := (gName 6)) rfl nd (pi_range2 (by rfl) T.b_range (pa_cons pe_int (pa_cons (pe_callB (cLen K) (by rfl) T.b_len (by decide +kernel) (pa_cons (pv 4) pa_nil)) pa_nil))) (blkOk_by (by kernel_rfl)) (fun _ _ _ _ _ => (pg_name (i := 6) nd rfl (by first | exact Or.inl rfl | exact Or.inr rfl))) (fun _ _ _ _ _ => pts_nil) (fun _ _ _ _ _ => (pe_cmpR op_lt (pe_ix (ixT K) (pv 4) (pe_op op_sub (pv 6) pe_int) (fun _ _ => rfl)) (pe_ix (ixT K) (pv 4) (pv 6) (fun _ _ => rfl)) (nomark _)))) pa_nil)))) (pw_or1 (pt_cmpR (oInD K rfl (in65 hr)) (pv 4) (pe_slice (slL K) (pv 2) po_none (po_some (pv 3))) (by rfl))))) (pss_one ps_never) pss_nil))))))), ?_⟩
    refine st_seq (st_skip (Et.is (et_or (et_not (et_B (ev_call (α := Int × Int × Int) ((R : Int), 1, 5) (ea_cons (ev_var rfl) (ea_cons ev_int (ea_cons ev_int ea_nil))) trivial))) fun _ => et_not (et_B (ev_call (α := Int × Int × Int) ((M : Int), 1, 5) (ea_cons (ev_var rfl) (ea_cons ev_int (ea_cons ev_int ea_nil))) trivial))) ?_)) <|
      st_seq (st_skip (Et.is (et_not (et_B (ev_isiT2 (b := true) (d := eLo false ls) (ev_var rfl) rfl))) rfl)) <|
      go_forE (xs := ls) (enc := eL) (S := fun _ => [.pr (D K (eN R)), .pr (D K (eN M)), .pr (D K (eLo false ls)), .no, .no, .no, .no]) (ei_enum (ev_var rfl)) (by repeat (first | exact Wk.nil _ | exact Wk.refl _ | refine Wk.cons (by first | exact Or.inr rfl | exact Or.inl rfl) ?_)) (fun i l hi => ?_) (by repeat (first | exact Wk.nil _ | exact Wk.refl _ | refine Wk.cons (by first | exact Or.inr rfl | exact Or.inl rfl) ?_))
    · have e1 : (decide ((1 : Int) ≤ (R : Nat)) && decide (((R : Nat) : Int) ≤ 5)) = true := by rw [decide_eq_true (by omega), decide_eq_true (by omega)]; rfl
      have e2 : (decide ((1 : Int) ≤ (M : Nat)) && decide (((M : Nat) : Int) ≤ 5)) = true := by rw [decide_eq_true (by omega), decide_eq_true (by omega)]; rfl
      show (!(decide ((1 : Int) ≤ (R : Nat)) && decide (((R : Nat) : Int) ≤ 5)) || !(decide ((1 : Int) ≤ (M : Nat)) && decide (((M : Nat) : Int) ≤ 5))) = false
      rw [e1, e2]
      rfl
    · have hm : l ∈ ls := List.mem_of_getElem? hi
      obtain ⟨l1, l2⟩ := hlot l hm
      have hi2 : i < ls.length := (List.getElem?_eq_some_iff.mp hi).1
      have hlen : l.length ≤ 1000 := hlen l hm
      have hat : ∀ k, k < l.length → l[k]? = some (l.getD k 0) := fun k hk => by rw [List.getD_eq_getElem?_getD, List.getElem?_eq_getElem hk]; rfl
      refine tg_pair (lt_some rfl) (lt_some rfl) (Go.wk (st_seq (st_skip (Et.is (et_or (et_not (et_B (ev_isi (ev_var rfl) rfl))) fun _ => et_not (et_B (ev_all (bs := l.map fun t => decide ((0 : Int) ≤ (t : Nat)) && decide (((t : Nat) : Int) ≤ (R : Nat) + (M : Nat) - 1)) (Ev.is (ev_new (en_lc (xs := l) (A := fun t => D K (eN t)) (F := fun t => if true then some (.bool (decide ((0 : Int) ≤ (t : Nat)) && decide (((t : Nat) : Int) ≤ (R : Nat) + (M : Nat) - 1))) else none) (ei_tup (ev_var rfl)) (by rw [List.map_map]; rfl) rfl (by omega) fun t ht =>
        cg_name (by decide) (lt_some rfl) et_yes (fun _ => ev_call (α := Int × Int × Int) ((t : Int), 0, (R : Int) + (M : Int) - 1) (ea_cons (ev_var rfl) (ea_cons ev_int (ea_cons (ev_sub (ev_add (ev_var rfl) (ev_var rfl)) ev_int) ea_nil))) trivial) (fun h => nomatch h) (fun _ => by rfl))) ?_)))) ?_)) <|
        st_skip (Et.is (et_or (et_not (et_B (ev_all (bs := (List.range (l.length - 1)).map fun k => decide (l.getD k 0 < l.getD (k + 1) 0)) (Ev.is (ev_new (en_lc (xs := List.range (l.length - 1)) (A := fun k => D K (eN (1 + k))) (F := fun k => if true then some (.bool (decide (l.getD k 0 < l.getD (k + 1) 0))) else none) (ei_rngN2 (lo := 1) ev_int (ev_lenTN (ev_var rfl)) (by decide) (by omega)) rfl rfl (by rw [List.length_range]; omega) fun k hk =>
        cg_name (by decide) (lt_some rfl) et_yes (fun _ => ev_ltN (ev_ixTN (ev_var rfl) (Ev.is (ev_subN (i := 1 + k) (j := 1) (ev_var rfl) ev_int (by omega)) (congrArg (fun z => D K (eN z)) (Nat.add_sub_cancel_left 1 k))) ?_) (ev_ixTN (ev_var rfl) (ev_var rfl) ?_)) (fun h => nomatch h) (fun _ => by rfl))) ?_)))) fun _ => et_test (ev_inE okL (x := l) (xs := ls.take i) (ev_var rfl) (Ev.is (ev_new (en_slL (ev_var rfl) eo_none (eo_some (ev_var rfl)))) ?_) trivial fun _ _ => trivial)) ?_)) (by repeat (first | exact Wk.nil _ | exact Wk.refl _ | refine Wk.cons (by first | exact Or.inr rfl | exact Or.inl rfl) ?_)))
      · rw [filterMap_some, List.map_map]; rfl
      · have e : (l.map fun t => decide ((0 : Int) ≤ (t : Nat)) && decide (((t : Nat) : Int) ≤ (R : Nat) + (M : Nat) - 1)).all id = true := by
          rw [List.all_map]
          refine List.all_eq_true.mpr fun t ht => ?_
          have := l1 t ht
          show (decide ((0 : Int) ≤ (t : Nat)) && decide (((t : Nat) : Int) ≤ (R : Nat) + (M : Nat) - 1)) = true
          rw [decide_eq_true (by omega), decide_eq_true (by omega)]
          rfl
        rw [e]
        rfl
      · have := List.mem_range.mp hk
        rw [List.getElem?_map, hat k (by omega)]
        rfl
      · have := List.mem_range.mp hk
        rw [List.getElem?_map, hat (1 + k) (by omega), Nat.add_comm 1 k]
        rfl
      · rw [filterMap_some, List.map_map]; rfl
      · rw [cutD_to (by rw [List.length_map]; omega), ← List.map_take]
      · have e : ((List.range (l.length - 1)).map fun k => decide (l.getD k 0 < l.getD (k + 1) 0)).all id = true := by
          rw [List.all_map]
          refine List.all_eq_true.mpr fun k hk => ?_
          have := List.mem_range.mp hk
          refine decide_eq_true ?_
          have h2 := List.pairwise_iff_getElem.mp l2 k (k + 1) (by omega) (by omega) (by omega)
          rw [List.getD_eq_getElem?_getD, List.getElem?_eq_getElem (by omega), List.getD_eq_getElem?_getD, List.getElem?_eq_getElem (by omega)]
          exact h2
        have e2 : l ∉ ls.take i := fun z => by
          have hh := List.getElem?_eq_some_iff.mp hi
          obtain ⟨j, hj, e⟩ := List.mem_iff_getElem.mp z
          have hj2 := hj
          rw [List.length_take] at hj2
          have hj3 : j < i := Nat.lt_of_lt_of_le hj2 (Nat.min_le_left _ _)
          rw [List.getElem_take] at e
          have := (List.pairwise_iff_getElem.mp hnd) j i (by omega) (by omega) (by omega)
          exact this (e.trans hh.2.symm)
        rw [e]
        simpa using e2
  | true =>
    have r1 : 1 ≤ R := r1
    have r5 : R ≤ 5 := r5
    have c1 : 1 ≤ M := c1
    have c5 : M ≤ 5 := c5
    have hlot : ∀ l ∈ ls, (∀ t ∈ l, t < R + M) ∧ l.Pairwise (· < ·) := hlot
    have hnd : ls.Pairwise (· ≠ ·) := hnd
    have hsm : ls.length ≤ 10000 := hsm
    have hlen : ∀ l ∈ ls, l.length ≤ 1000 := hlen
    refine fun cdv A outer s H E hr => ⟨_, (pss_cons (ps_if (PW.pt (pw_or (pt_not (pt_val (C8.pe_c c_is_from hr (by decide) (by rfl) (pa_cons (pv 0) (pa_cons pe_int (pa_cons (C8.pe_gc (by rfl) T.g_MOST_LINES) pa_nil)))))) (pw_or1 (pt_not (pt_val (C8.pe_c c_is_from hr (by decide) (by rfl) (pa_cons (pv 1) (pa_cons pe_int (pa_cons (C8.pe_gc (by rfl) T.g_MOST_LINES) pa_nil))))))))) (pss_one ps_never) pss_nil)
    (pss_cons (ps_if (pt_not (pt_val (pe_callB (cIsiT K) (by rfl) T.b_isinstance (by decide +kernel) (pa_cons (pv 2) (pa_cons (pe_tup (pa_cons (pe_bltn (v := .ty "list") (by rfl) T.b_list (by decide +kernel) rfl) (pa_cons (pe_bltn (v := .ty "tuple") (by rfl) T.b_tuple (by decide +kernel) rfl) pa_nil))) pa_nil))))) (pss_one ps_never) pss_nil)
    (pss_one (ps_for PassesOwn.never rfl (piET K rfl (by rfl) T.b_enumerate (pa_cons (pv 2) pa_nil)) (pgTup K rfl rfl (pgs_cons (pg_name (i := 3) nd rfl (by first | exact Or.inl rfl | exact Or.inr rfl)) (pgs_cons (pg_name (i := 4) nd rfl (by first | exact Or.inl rfl | exact Or.inr rfl)) pgs_nil)))
    (pss_cons (ps_if (PW.pt (pw_or (pt_not (pt_val (pe_callB (cIsi K) (by rfl) T.b_isinstance (by decide +kernel) (pa_cons (pv 4) (pa_cons (pe_bltn (v := .ty "tuple") (by rfl) T.b_tuple (by decide +kernel) rfl) pa_nil))))) (pw_or1 (pt_not (pt_val (pe_callB (cAll K rfl rfl) (by rfl) T.b_all (by decide +kernel) (pa_cons (pe_lc (own := [("thread", 5)]) (g := (gName 5)) rfl nd (piT K rfl (pv 4)) (blkOk_by (by kernel_rfl)) (fun _ _ _ _ _ => (pg_name (i := 5) nd rfl (by first | exact Or.inl rfl | exact Or.inr rfl))) (fun _ _ _ _ _ => pts_nil) (fun _ _ _ _ _ => (C8.pe_c c_is_from hr (by decide) (by rfl) (pa_cons (pv 5) (pa_cons pe_int (pa_cons (pe_op op_sub (pe_op op_add (pv 0) (pv 1)) pe_int) pa_nil)))))) pa_nil))))))) (pss_one ps_never) pss_nil)
    (pss_one (ps_if (PW.pt (pw_or (pt_not (pt_val (pe_callB (cAll K rfl rfl) (by rfl) T.b_all (by decide +kernel) (pa_cons (pe_lc (own := [("at", 6)]) (g := (gName 6)) rfl nd (pi_range2 (by rfl) T.b_range (pa_cons pe_int (pa_cons (pe_callB (cLen K) (by rfl) T.b_len (by decide +kernel) (pa_cons (pv 4) pa_nil)) pa_nil))) (blkOk_by (by kernel_rfl)) (fun _ _ _ _ _ => (pg_name (i := 6) nd rfl (by first | exact Or.inl rfl | exact Or.inr rfl))) (fun _ _ _ _ _ => pts_nil) (fun _ _ _ _ _ => (pe_cmpR op_lt (pe_ix (ixT K) (pv 4) (pe_op op_sub (pv 6) pe_int) (fun _ _ => rfl)) (pe_ix (ixT K) (pv 4) (pv 6) (fun _ _ => rfl)) (nomark _)))) pa_nil)))) (pw_or1 (pt_cmpR (oInTD K rfl (in65 hr)) (pv 4) (pe_slice (slT K) (pv 2) po_none (po_some (pv 3))) (by rfl))))) (pss_one ps_never) pss_nil))))))), ?_⟩
    refine st_seq (st_skip (Et.is (et_or (et_not (et_B (ev_call (α := Int × Int × Int) ((R : Int), 1, 5) (ea_cons (ev_var rfl) (ea_cons ev_int (ea_cons ev_int ea_nil))) trivial))) fun _ => et_not (et_B (ev_call (α := Int × Int × Int) ((M : Int), 1, 5) (ea_cons (ev_var rfl) (ea_cons ev_int (ea_cons ev_int ea_nil))) trivial))) ?_)) <|
      st_seq (st_skip (Et.is (et_not (et_B (ev_isiT2 (b := true) (d := eLo true ls) (ev_var rfl) rfl))) rfl)) <|
      go_forE (xs := ls) (enc := eL) (S := fun _ => [.pr (D K (eN R)), .pr (D K (eN M)), .pr (D K (eLo true ls)), .no, .no, .no, .no]) (ei_enumT (ev_var rfl)) (by repeat (first | exact Wk.nil _ | exact Wk.refl _ | refine Wk.cons (by first | exact Or.inr rfl | exact Or.inl rfl) ?_)) (fun i l hi => ?_) (by repeat (first | exact Wk.nil _ | exact Wk.refl _ | refine Wk.cons (by first | exact Or.inr rfl | exact Or.inl rfl) ?_))
    · have e1 : (decide ((1 : Int) ≤ (R : Nat)) && decide (((R : Nat) : Int) ≤ 5)) = true := by rw [decide_eq_true (by omega), decide_eq_true (by omega)]; rfl
      have e2 : (decide ((1 : Int) ≤ (M : Nat)) && decide (((M : Nat) : Int) ≤ 5)) = true := by rw [decide_eq_true (by omega), decide_eq_true (by omega)]; rfl
      show (!(decide ((1 : Int) ≤ (R : Nat)) && decide (((R : Nat) : Int) ≤ 5)) || !(decide ((1 : Int) ≤ (M : Nat)) && decide (((M : Nat) : Int) ≤ 5))) = false
      rw [e1, e2]
      rfl
    · have hm : l ∈ ls := List.mem_of_getElem? hi
      obtain ⟨l1, l2⟩ := hlot l hm
      have hi2 : i < ls.length := (List.getElem?_eq_some_iff.mp hi).1
      have hlen : l.length ≤ 1000 := hlen l hm
      have hat : ∀ k, k < l.length → l[k]? = some (l.getD k 0) := fun k hk => by rw [List.getD_eq_getElem?_getD, List.getElem?_eq_getElem hk]; rfl
      refine tg_pair (lt_some rfl) (lt_some rfl) (Go.wk (st_seq (st_skip (Et.is (et_or (et_not (et_B (ev_isi (ev_var rfl) rfl))) fun _ => et_not (et_B (ev_all (bs := l.map fun t => decide ((0 : Int) ≤ (t : Nat)) && decide (((t : Nat) : Int) ≤ (R : Nat) + (M : Nat) - 1)) (Ev.is (ev_new (en_lc (xs := l) (A := fun t => D K (eN t)) (F := fun t => if true then some (.bool (decide ((0 : Int) ≤ (t : Nat)) && decide (((t : Nat) : Int) ≤ (R : Nat) + (M : Nat) - 1))) else none) (ei_tup (ev_var rfl)) (by rw [List.map_map]; rfl) rfl (by omega) fun t ht =>
        cg_name (by decide) (lt_some rfl) et_yes (fun _ => ev_call (α := Int × Int × Int) ((t : Int), 0, (R : Int) + (M : Int) - 1) (ea_cons (ev_var rfl) (ea_cons ev_int (ea_cons (ev_sub (ev_add (ev_var rfl) (ev_var rfl)) ev_int) ea_nil))) trivial) (fun h => nomatch h) (fun _ => by rfl))) ?_)))) ?_)) <|
        st_skip (Et.is (et_or (et_not (et_B (ev_all (bs := (List.range (l.length - 1)).map fun k => decide (l.getD k 0 < l.getD (k + 1) 0)) (Ev.is (ev_new (en_lc (xs := List.range (l.length - 1)) (A := fun k => D K (eN (1 + k))) (F := fun k => if true then some (.bool (decide (l.getD k 0 < l.getD (k + 1) 0))) else none) (ei_rngN2 (lo := 1) ev_int (ev_lenTN (ev_var rfl)) (by decide) (by omega)) rfl rfl (by rw [List.length_range]; omega) fun k hk =>
        cg_name (by decide) (lt_some rfl) et_yes (fun _ => ev_ltN (ev_ixTN (ev_var rfl) (Ev.is (ev_subN (i := 1 + k) (j := 1) (ev_var rfl) ev_int (by omega)) (congrArg (fun z => D K (eN z)) (Nat.add_sub_cancel_left 1 k))) ?_) (ev_ixTN (ev_var rfl) (ev_var rfl) ?_)) (fun h => nomatch h) (fun _ => by rfl))) ?_)))) fun _ => et_test (ev_inTE okL (x := l) (xs := ls.take i) (ev_var rfl) (Ev.is (ev_slT (ev_var rfl) eo_none (eo_some (ev_var rfl))) ?_) trivial fun _ _ => trivial)) ?_)) (by repeat (first | exact Wk.nil _ | exact Wk.refl _ | refine Wk.cons (by first | exact Or.inr rfl | exact Or.inl rfl) ?_)))
      · rw [filterMap_some, List.map_map]; rfl
      · have e : (l.map fun t => decide ((0 : Int) ≤ (t : Nat)) && decide (((t : Nat) : Int) ≤ (R : Nat) + (M : Nat) - 1)).all id = true := by
          rw [List.all_map]
          refine List.all_eq_true.mpr fun t ht => ?_
          have := l1 t ht
          show (decide ((0 : Int) ≤ (t : Nat)) && decide (((t : Nat) : Int) ≤ (R : Nat) + (M : Nat) - 1)) = true
          rw [decide_eq_true (by omega), decide_eq_true (by omega)]
          rfl
        rw [e]
        rfl
      · have := List.mem_range.mp hk
        rw [List.getElem?_map, hat k (by omega)]
        rfl
      · have := List.mem_range.mp hk
        rw [List.getElem?_map, hat (1 + k) (by omega), Nat.add_comm 1 k]
        rfl
      · rw [filterMap_some, List.map_map]; rfl
      · rw [cutD_to (by rw [List.length_map]; omega), ← List.map_take]
      · have e : ((List.range (l.length - 1)).map fun k => decide (l.getD k 0 < l.getD (k + 1) 0)).all id = true := by
          rw [List.all_map]
          refine List.all_eq_true.mpr fun k hk => ?_
          have := List.mem_range.mp hk
          refine decide_eq_true ?_
          have h2 := List.pairwise_iff_getElem.mp l2 k (k + 1) (by omega) (by omega) (by omega)
          rw [List.getD_eq_getElem?_getD, List.getElem?_eq_getElem (by omega), List.getD_eq_getElem?_getD, List.getElem?_eq_getElem (by omega)]
          exact h2
        have e2 : l ∉ ls.take i := fun z => by
          have hh := List.getElem?_eq_some_iff.mp hi
          obtain ⟨j, hj, e⟩ := List.mem_iff_getElem.mp z
          have hj2 := hj
          rw [List.length_take] at hj2
          have hj3 : j < i := Nat.lt_of_lt_of_le hj2 (Nat.min_le_left _ _)
          rw [List.getElem_take] at e
          have := (List.pairwise_iff_getElem.mp hnd) j i (by omega) (by omega) (by omega)
          exact this (e.trans hh.2.symm)
        rw [e]
        simpa using e2
end
end WF

/-! ## text W9 -/
namespace WF
open PySem PySem.Spec PyProof.Rows L2
abbrev sp_ring_of (K : PySem.W.Frag) (_ : Addr) : Sp := spF (α := Nat × List Nat) (fun a => [D K (eN a.1), D K (eL a.2)]) (fun a => a.2.length ≤ 100 ∧ (a.2.length = 1 ∨ (rowsIn a.1 a.2 ≠ [] ∧ colsIn a.1 a.2 ≠ []))) (fun a => DL K ((ringOf a.1 a.2).map eP))
abbrev sp_parts_by (K : PySem.W.Frag) (_ : Addr) : Sp := spF (α := List (List Nat)) (fun a => [D K (eNss a)]) (fun a => a.length ≤ 100 ∧ (∀ r ∈ a, r.length ≤ 100 ∧ ∀ o ∈ r, o < a.length) ∧ ∀ i < a.length, partOf a i ≠ []) (fun a => D K (eLs (partsBy a)))
abbrev sp_step_between (K : PySem.W.Frag) (_ : Addr) : Sp := spF (α := Nat × List Nat × List Nat) (fun a => [D K (eN a.1), D K (eL a.2.1), D K (eL a.2.2)]) (fun a => a.2.1.length ≤ 100 ∧ a.2.2.length ≤ 100) (fun a => DL K ((stepBetween a.1 a.2.1 a.2.2).map eP))
def ringTo (some others : List Nat) (m i : Nat) : List (Nat × Nat) := (List.range i).flatMap (ringAt some others m)
theorem ringTo_succ (some others : List Nat) (m i : Nat) : ringTo some others m (i + 1) = ringTo some others m i ++ ringAt some others m i := by
  unfold ringTo
  rw [List.range_succ, List.flatMap_append]
  simp
theorem ringTo_len (some others : List Nat) (m i : Nat) : (ringTo some others m i).length = 2 * i := by
  induction i with
  | zero => rfl
  | succ i ih => rw [ringTo_succ, List.length_append, ih]; show 2 * i + 2 = _; omega
def twoTo (g : Nat → List (Nat × Nat)) (xs : List Nat) (i : Nat) : List (Nat × Nat) := (xs.take i).flatMap g
theorem twoTo_succ {g : Nat → List (Nat × Nat)} {xs : List Nat} {i x : Nat} (h : xs[i]? = some x) : twoTo g xs (i + 1) = twoTo g xs i ++ g x := by
  unfold twoTo
  rw [List.take_add_one, h, List.flatMap_append]
  simp
theorem twoTo_all (g : Nat → List (Nat × Nat)) (xs : List Nat) : twoTo g xs xs.length = xs.flatMap g := by
  unfold twoTo
  rw [List.take_length]
theorem twoTo_len {g : Nat → List (Nat × Nat)} (hg : ∀ x, (g x).length = 2) (xs : List Nat) (i : Nat) : (twoTo g xs i).length ≤ 2 * xs.length := by
  have := flatMap_len (f := g) (b := 2) (xs.take i) fun x _ => Nat.le_of_eq (hg x)
  have h2 : (xs.take i).length ≤ xs.length := by rw [List.length_take]; exact Nat.min_le_right _ _
  unfold twoTo
  omega
section
variable {P : Program} {w : World} {K : PySem.W.Frag} {mg : Str → Option Value} {base : Heap} {C : Addr}
theorem ev_twoP {Γ Γ1 Γ2 Γ3 Γ4 : List Sl} {a b c d : Nat} {ta tb tc td : TE} (ha : Ev Γ ta (D K (eN a)) Γ1) (hb : Ev Γ1 tb (D K (eN b)) Γ2) (hc : Ev Γ2 tc (D K (eN c)) Γ3) (hd : Ev Γ3 td (D K (eN d)) Γ4) :
    Ev Γ (tLst (tCons (tTup (tCons ta (tCons tb tNil))) (tCons (tTup (tCons tc (tCons td tNil))) tNil))) (DL K ([(a, b), (c, d)].map eP)) Γ4 := ev_newL (en_lst (ed_cons (ev_pair ha hb) (ed_cons (ev_pair hc hd) ed_nil)) (by show 2 ≤ 100000; decide))
theorem cutD_any {α : Type} {l : List α} {k : Nat} : cutD l none (some (k : Nat)) = l.take k := by
  by_cases h : k ≤ l.length
  · exact cutD_to h
  · unfold cutD
    rw [HT.sIx_none, HT.sIx_nat, Nat.sub_zero, List.drop_zero, Nat.min_eq_right (by omega), List.take_length, List.take_of_length_le (by omega)]
theorem getD_at {l : List Nat} {i : Nat} (h : i < l.length) : l[i]? = some (l.getD i 0) := by
  rw [List.getD_eq_getElem?_getD, List.getElem?_eq_getElem h]
  rfl
theorem getD_atE {l : List Nat} {i : Nat} (h : i < l.length) : (l.map eN)[i]? = some (eN (l.getD i 0)) := by
  rw [List.getElem?_map, getD_at h]
  rfl
/-- a list of one's own, read and still its owner's: an item -/
theorem filterMap_filter {p : Nat → Bool} (xs : List Nat) : xs.filterMap (fun x => if p x then some (eN x) else none) = (xs.filter p).map eN := filterMap_if p eN xs
theorem cal_ring_of (T : Tx K mg C) {f : Addr} {fd : FuncData} (F : C8.Def K mg "ring_of" (topS 34) f fd) (b : Binds K fd ["rows", "part"] [])  : C8.Cal P w K mg base 1 "ring_of" (sp_ring_of K C) [] := by
  have S : FnScope ["rows", "part", "many", "at", "row", "column", "some", "others", "found", "one"] ["rows", "part"] (C8.fnScope (topS 34)) := C8.fnScope_by (by decide +kernel)
  have nd := S.nd
  refine cal_F (n := 8) F b S (fun _ => rfl) rfl fun cdv A outer s H E hr => ⟨_, (pss_cons (ps_par3 (i := 6) (j := 7) (l := 8) rfl nd rfl rfl rfl (by decide) (by decide) (by decide) rfl rfl rfl (pa_cons (pe_lc (own := [("one", 9)]) (g := (gName 9)) rfl nd (piT K rfl (pv 1)) (blkOk_by (by kernel_rfl)) (fun _ _ _ _ _ => (pg_name (i := 9) nd rfl (by first | exact Or.inl rfl | exact Or.inr rfl))) (fun _ _ _ _ _ => (pts_one (pt_cmpR op_lt (pv 9) (pv 0) (nomark _)))) (fun _ _ _ _ _ => (pv 9))) (pa_cons (pe_lc (own := [("one", 9)]) (g := (gName 9)) rfl nd (piT K rfl (pv 1)) (blkOk_by (by kernel_rfl)) (fun _ _ _ _ _ => (pg_name (i := 9) nd rfl (by first | exact Or.inl rfl | exact Or.inr rfl))) (fun _ _ _ _ _ => (pts_one (pt_cmpR op_ge (pv 9) (pv 0) (nomark _)))) (fun _ _ _ _ _ => (pv 9))) (pa_cons (pe_lst pa_nil) pa_nil))) (by rfl))
    (pss_cons (ps_if (pt_cmpR op_eq (pe_callB (cLen K) (by rfl) T.b_len (by decide +kernel) (pa_cons (pv 1) pa_nil)) pe_int (nomark _)) (pss_one (ps_ret (pv 8))) pss_nil)
    (pss_cons (ps_set (i := 2) nd rfl (Or.inl rfl) (pe_callB (call_min2 rfl) (by rfl) T.b_min (by decide +kernel) (pa_cons (pe_callB (cLen K) (by rfl) T.b_len (by decide +kernel) (pa_cons (pv 6) pa_nil)) (pa_cons (pe_callB (cLen K) (by rfl) T.b_len (by decide +kernel) (pa_cons (pv 7) pa_nil)) pa_nil))))
    (pss_cons (ps_for PassesOwn.never rfl (pi_range1 (by rfl) T.b_range (pa_cons (pv 2) pa_nil)) (pg_name (i := 3) nd rfl (by first | exact Or.inl rfl | exact Or.inr rfl))
    (pss_one (ps_expr (peBm K rfl PySem.F.plainAttrs_list PySem.F.slot_list_extend PySem.F.type_list_extend mt_extend (pv 8) (pa_cons (pe_lst (pa_cons (pe_tup (pa_cons (pe_ix (ixL K) (pv 6) (pv 3) (fun _ _ => rfl)) (pa_cons (pe_ix (ixL K) (pv 7) (pv 3) (fun _ _ => rfl)) pa_nil))) (pa_cons (pe_tup (pa_cons (pe_ix (ixL K) (pv 7) (pv 3) (fun _ _ => rfl)) (pa_cons (pe_ix (ixL K) (pv 6) (pe_op op_mod (pe_op op_add (pv 3) pe_int) (pv 2)) (fun _ _ => rfl)) pa_nil))) pa_nil))) pa_nil)))))
    (pss_cons (ps_for PassesOwn.never rfl (piL K rfl (pe_slice (slL K) (pv 6) (po_some (pv 2)) po_none)) (pg_name (i := 4) nd rfl (by first | exact Or.inl rfl | exact Or.inr rfl))
    (pss_one (ps_expr (peBm K rfl PySem.F.plainAttrs_list PySem.F.slot_list_extend PySem.F.type_list_extend mt_extend (pv 8) (pa_cons (pe_lst (pa_cons (pe_tup (pa_cons (pe_ix (ixL K) (pv 7) pe_int (fun _ _ => rfl)) (pa_cons (pv 4) pa_nil))) (pa_cons (pe_tup (pa_cons (pv 4) (pa_cons (pe_ix (ixL K) (pv 7) pe_int (fun _ _ => rfl)) pa_nil))) pa_nil))) pa_nil)))))
    (pss_cons (ps_for PassesOwn.never rfl (piL K rfl (pe_slice (slL K) (pv 7) (po_some (pv 2)) po_none)) (pg_name (i := 5) nd rfl (by first | exact Or.inl rfl | exact Or.inr rfl))
    (pss_one (ps_expr (peBm K rfl PySem.F.plainAttrs_list PySem.F.slot_list_extend PySem.F.type_list_extend mt_extend (pv 8) (pa_cons (pe_lst (pa_cons (pe_tup (pa_cons (pe_ix (ixL K) (pv 6) pe_int (fun _ _ => rfl)) (pa_cons (pv 5) pa_nil))) (pa_cons (pe_tup (pa_cons (pv 5) (pa_cons (pe_ix (ixL K) (pv 6) pe_int (fun _ _ => rfl)) pa_nil))) pa_nil))) pa_nil)))))
    (pss_one (ps_ret (pv 8))))))))), ?_⟩
  rintro ⟨R, part⟩ ⟨h1, h2⟩
  have h1 : part.length ≤ 100 := h1
  have h2 : part.length = 1 ∨ (rowsIn R part ≠ [] ∧ colsIn R part ≠ []) := h2
  have hs : (rowsIn R part).length ≤ 100 := Nat.le_trans (List.length_filter_le _ _) h1
  have ho : (colsIn R part).length ≤ 100 := Nat.le_trans (List.length_filter_le _ _) h1
  refine rt_par3N (i := 6) (j := 7) (l := 8) (P1 := D K (eNs (rowsIn R part))) (P2 := D K (eNs (colsIn R part))) (O := oL K [])
    (Ev.is (ev_new (en_lc (xs := part) (A := fun o => D K (eN o)) (F := fun o => if decide (o < R) then some (eN o) else none) (ei_tup (ev_var rfl)) (by rw [List.map_map]; rfl) rfl (by omega) fun o _ =>
      cg_name (by decide) (lt_some rfl) (et_test (ev_ltN (ev_var rfl) (ev_var rfl))) (fun _ => ev_var rfl) (fun _ => by rfl) (fun _ => by rfl))) (by rw [filterMap_if]; rfl))
    (Ev.is (ev_new (en_lc (xs := part) (A := fun o => D K (eN o)) (F := fun o => if decide (R ≤ o) then some (eN o) else none) (ei_tup (ev_var rfl)) (by rw [List.map_map]; rfl) rfl (by omega) fun o _ =>
      cg_name (by decide) (lt_some rfl) (et_test (ev_geN (ev_var rfl) (ev_var rfl))) (fun _ => ev_var rfl) (fun _ => by rfl) (fun _ => by rfl))) (by rw [filterMap_if]; rfl))
    (en_lst ed_nil (by show 0 ≤ 100000; decide)) (lt_some rfl) (lt_some rfl) (lt_some rfl) fun a => ?_
  refine rt_ifRet (b := decide (part.length = 1)) (et_test (ev_eqN (ev_lenTN (ev_var rfl)) (ev_int (n := ((1 : Nat) : Int))))) (fun hb => rt_ret ((ev_ownL rfl).is ?_) (Wk.nil _)) fun hb => ?_
  · have hb := of_decide_eq_true hb
    show DL K [] = DL K ((ringOf R part).map eP)
    unfold ringOf
    rw [if_pos hb]
    rfl
  have hb := of_decide_eq_false hb
  obtain ⟨n1, n2⟩ := h2.resolve_left hb
  have p1 := List.length_pos_iff.mpr n1
  have p2 := List.length_pos_iff.mpr n2
  have e2 : ∀ x y : Nat, [(x, y), (y, x)].length = 2 := fun _ _ => rfl
  have rl := ringTo_len (rowsIn R part) (colsIn R part) (min (rowsIn R part).length (colsIn R part).length)
  refine rt_seq (st_asg (P := D K (eN (min (rowsIn R part).length (colsIn R part).length))) (ev_min2N (ev_lenLN (ev_var rfl)) (ev_lenLN (ev_var rfl))) (lt_some rfl)) ?_
  refine rt_seq (Γ1 := [.pr (D K (eN R)), .pr (D K (eL part)), .pr (D K (eN (min (rowsIn R part).length (colsIn R part).length))), .no, .no, .no, .pr (D K (eNs (rowsIn R part))), .pr (D K (eNs (colsIn R part))), .own a (oL K ((ringTo (rowsIn R part) (colsIn R part) (min (rowsIn R part).length (colsIn R part).length) (min (rowsIn R part).length (colsIn R part).length)).map eP)), .no]) ?_ ?_
  · refine go_forM (xs := List.range (min (rowsIn R part).length (colsIn R part).length)) (A := fun i => D K (eN i)) (S := fun i => [.pr (D K (eN R)), .pr (D K (eL part)), .pr (D K (eN (min (rowsIn R part).length (colsIn R part).length))), .no, .no, .no, .pr (D K (eNs (rowsIn R part))), .pr (D K (eNs (colsIn R part))), .own a (oL K ((ringTo (rowsIn R part) (colsIn R part) (min (rowsIn R part).length (colsIn R part).length) i).map eP)), .no])
      (ei_rngN (ev_var rfl) (by omega)) (by repeat (first | exact Wk.nil _ | exact Wk.refl _ | refine Wk.cons (by first | exact Or.inr rfl | exact Or.inl rfl) ?_)) (fun i x hx => ?_) (by rw [List.length_range]; exact (by repeat (first | exact Wk.nil _ | exact Wk.refl _ | refine Wk.cons (by first | exact Or.inr rfl | exact Or.inl rfl) ?_)))
    obtain ⟨hi, rfl⟩ := range_at hx
    have hmod := Nat.mod_lt (x + 1) (show 0 < min (rowsIn R part).length (colsIn R part).length by omega)
    refine tg_name (lt_some rfl) ((go_extend rfl (ev_twoP (ev_ixLN (ev_var rfl) (ev_var rfl) (getD_atE (by omega))) (ev_ixLN (ev_var rfl) (ev_var rfl) (getD_atE (by omega))) (ev_ixLN (ev_var rfl) (ev_var rfl) (getD_atE (by omega))) (ev_ixLN (ev_var rfl) (ev_modN (ev_addN (j := 1) (ev_var rfl) ev_int) (ev_var rfl) (by omega)) (getD_atE (by omega)))) rfl ?_).wk ?_)
    · rw [List.length_map, List.length_map, ringTo_len]
      show 2 * x + 2 ≤ 100000
      omega
    · refine Wk.cons (.inr rfl) (Wk.cons (.inr rfl) (Wk.cons (.inr rfl) (Wk.cons (.inl rfl) (Wk.cons (.inr rfl) (Wk.cons (.inr rfl) (Wk.cons (.inr rfl) (Wk.cons (.inr rfl) (Wk.cons (.inr ?_) (by repeat (first | exact Wk.nil _ | exact Wk.refl _ | refine Wk.cons (by first | exact Or.inr rfl | exact Or.inl rfl) ?_))))))))))
      rw [ringTo_succ, List.map_append]
      rfl
  refine rt_seq (Γ1 := [.pr (D K (eN R)), .pr (D K (eL part)), .pr (D K (eN (min (rowsIn R part).length (colsIn R part).length))), .no, .no, .no, .pr (D K (eNs (rowsIn R part))), .pr (D K (eNs (colsIn R part))), .own a (oL K ((ringTo (rowsIn R part) (colsIn R part) (min (rowsIn R part).length (colsIn R part).length) (min (rowsIn R part).length (colsIn R part).length) ++ ((rowsIn R part).drop (min (rowsIn R part).length (colsIn R part).length)).flatMap fun r => [((colsIn R part).getD 0 0, r), (r, (colsIn R part).getD 0 0)]).map eP)), .no]) ?_ ?_
  · refine go_forM (xs := (rowsIn R part).drop (min (rowsIn R part).length (colsIn R part).length)) (A := fun i => D K (eN i)) (S := fun i => [.pr (D K (eN R)), .pr (D K (eL part)), .pr (D K (eN (min (rowsIn R part).length (colsIn R part).length))), .no, .no, .no, .pr (D K (eNs (rowsIn R part))), .pr (D K (eNs (colsIn R part))),
        .own a (oL K ((ringTo (rowsIn R part) (colsIn R part) (min (rowsIn R part).length (colsIn R part).length) (min (rowsIn R part).length (colsIn R part).length) ++ twoTo (fun r => [((colsIn R part).getD 0 0, r), (r, (colsIn R part).getD 0 0)]) ((rowsIn R part).drop (min (rowsIn R part).length (colsIn R part).length)) i).map eP)), .no])
      (ei_listM (Ev.is (ev_new (en_slL (ev_var rfl) (eo_some (ev_var rfl)) eo_none)) (by rw [cutD_from (by rw [List.length_map]; omega), ← List.map_drop]))) (by rw [show twoTo _ _ 0 = [] from rfl, List.append_nil]; exact (by repeat (first | exact Wk.nil _ | exact Wk.refl _ | refine Wk.cons (by first | exact Or.inr rfl | exact Or.inl rfl) ?_))) (fun i x hx => ?_) (by rw [twoTo_all]; exact (by repeat (first | exact Wk.nil _ | exact Wk.refl _ | refine Wk.cons (by first | exact Or.inr rfl | exact Or.inl rfl) ?_)))
    have tl := twoTo_len (g := fun r => [((colsIn R part).getD 0 0, r), (r, (colsIn R part).getD 0 0)]) (fun _ => rfl) ((rowsIn R part).drop (min (rowsIn R part).length (colsIn R part).length)) i
    have dl : ((rowsIn R part).drop (min (rowsIn R part).length (colsIn R part).length)).length ≤ (rowsIn R part).length := by rw [List.length_drop]; omega
    refine tg_name (lt_some rfl) ((go_extend rfl (ev_twoP (ev_ixLN (ev_var rfl) (ev_int (n := ((0 : Nat) : Int))) (getD_atE (by omega))) (ev_var rfl) (ev_var rfl) (ev_ixLN (ev_var rfl) (ev_int (n := ((0 : Nat) : Int))) (getD_atE (by omega)))) rfl ?_).wk ?_)
    · rw [List.length_map, List.length_map, List.length_append, ringTo_len]
      show _ + 2 ≤ 100000
      omega
    · refine Wk.cons (.inr rfl) (Wk.cons (.inr rfl) (Wk.cons (.inr rfl) (Wk.cons (.inr rfl) (Wk.cons (.inl rfl) (Wk.cons (.inr rfl) (Wk.cons (.inr rfl) (Wk.cons (.inr rfl) (Wk.cons (.inr ?_) (by repeat (first | exact Wk.nil _ | exact Wk.refl _ | refine Wk.cons (by first | exact Or.inr rfl | exact Or.inl rfl) ?_))))))))))
      rw [twoTo_succ hx, ← List.append_assoc, List.map_append (l₁ := _ ++ _)]
  refine rt_seq (Γ1 := [.pr (D K (eN R)), .pr (D K (eL part)), .pr (D K (eN (min (rowsIn R part).length (colsIn R part).length))), .no, .no, .no, .pr (D K (eNs (rowsIn R part))), .pr (D K (eNs (colsIn R part))), .own a (oL K ((ringOf R part).map eP)), .no]) ?_ (rt_ret (ev_ownL rfl) (Wk.nil _))
  have er : ringOf R part = (ringTo (rowsIn R part) (colsIn R part) (min (rowsIn R part).length (colsIn R part).length) (min (rowsIn R part).length (colsIn R part).length) ++ ((rowsIn R part).drop (min (rowsIn R part).length (colsIn R part).length)).flatMap fun r => [((colsIn R part).getD 0 0, r), (r, (colsIn R part).getD 0 0)]) ++ ((colsIn R part).drop (min (rowsIn R part).length (colsIn R part).length)).flatMap fun c => [((rowsIn R part).getD 0 0, c), (c, (rowsIn R part).getD 0 0)] := by
    unfold ringOf
    rw [if_neg hb]
    rfl
  refine go_forM (xs := (colsIn R part).drop (min (rowsIn R part).length (colsIn R part).length)) (A := fun i => D K (eN i)) (S := fun i => [.pr (D K (eN R)), .pr (D K (eL part)), .pr (D K (eN (min (rowsIn R part).length (colsIn R part).length))), .no, .no, .no, .pr (D K (eNs (rowsIn R part))), .pr (D K (eNs (colsIn R part))),
        .own a (oL K (((ringTo (rowsIn R part) (colsIn R part) (min (rowsIn R part).length (colsIn R part).length) (min (rowsIn R part).length (colsIn R part).length) ++ ((rowsIn R part).drop (min (rowsIn R part).length (colsIn R part).length)).flatMap fun r => [((colsIn R part).getD 0 0, r), (r, (colsIn R part).getD 0 0)]) ++ twoTo (fun c => [((rowsIn R part).getD 0 0, c), (c, (rowsIn R part).getD 0 0)]) ((colsIn R part).drop (min (rowsIn R part).length (colsIn R part).length)) i).map eP)), .no])
      (ei_listM (Ev.is (ev_new (en_slL (ev_var rfl) (eo_some (ev_var rfl)) eo_none)) (by rw [cutD_from (by rw [List.length_map]; omega), ← List.map_drop]))) (by rw [show twoTo _ _ 0 = [] from rfl, List.append_nil]; exact (by repeat (first | exact Wk.nil _ | exact Wk.refl _ | refine Wk.cons (by first | exact Or.inr rfl | exact Or.inl rfl) ?_))) (fun i x hx => ?_) (by rw [er, twoTo_all]; exact (by repeat (first | exact Wk.nil _ | exact Wk.refl _ | refine Wk.cons (by first | exact Or.inr rfl | exact Or.inl rfl) ?_)))
  have tl := twoTo_len (g := fun c => [((rowsIn R part).getD 0 0, c), (c, (rowsIn R part).getD 0 0)]) (fun _ => rfl) ((colsIn R part).drop (min (rowsIn R part).length (colsIn R part).length)) i
  have dl : ((colsIn R part).drop (min (rowsIn R part).length (colsIn R part).length)).length ≤ (colsIn R part).length := by rw [List.length_drop]; omega
  have dl2 : ((rowsIn R part).drop (min (rowsIn R part).length (colsIn R part).length)).length ≤ (rowsIn R part).length := by rw [List.length_drop]; omega
  have fl := flatMap_len (f := fun r => [((colsIn R part).getD 0 0, r), (r, (colsIn R part).getD 0 0)]) (b := 2) ((rowsIn R part).drop (min (rowsIn R part).length (colsIn R part).length)) fun _ _ => Nat.le_refl _
  refine tg_name (lt_some rfl) ((go_extend rfl (ev_twoP (ev_ixLN (ev_var rfl) (ev_int (n := ((0 : Nat) : Int))) (getD_atE (by omega))) (ev_var rfl) (ev_var rfl) (ev_ixLN (ev_var rfl) (ev_int (n := ((0 : Nat) : Int))) (getD_atE (by omega)))) rfl ?_).wk ?_)
  · rw [List.length_map, List.length_map, List.length_append, List.length_append, ringTo_len]
    show _ + 2 ≤ 100000
    omega
  · refine Wk.cons (.inr rfl) (Wk.cons (.inr rfl) (Wk.cons (.inr rfl) (Wk.cons (.inr rfl) (Wk.cons (.inr rfl) (Wk.cons (.inl rfl) (Wk.cons (.inr rfl) (Wk.cons (.inr rfl) (Wk.cons (.inr ?_) (by repeat (first | exact Wk.nil _ | exact Wk.refl _ | refine Wk.cons (by first | exact Or.inr rfl | exact Or.inl rfl) ?_))))))))))
    rw [twoTo_succ hx, ← List.append_assoc, List.map_append (l₁ := _ ++ _)]
theorem addK_len {α : Type} [DecidableEq α] (ps : List α) (p : α) : (addK ps p).length ≤ ps.length + 1 := by
  unfold addK
  split
  · omega
  · rw [List.length_append]
    exact Nat.le_refl _
theorem mem_addK {α : Type} [DecidableEq α] {ps : List α} {p q : α} : q ∈ addK ps p ↔ q ∈ ps ∨ q = p := by
  unfold addK
  split
  · rename_i h
    constructor
    · exact .inl
    · rintro (h' | rfl)
      · exact h'
      · exact h
  · rw [List.mem_append, List.mem_singleton]
theorem partsTo_len (ah : List (List Nat)) (i : Nat) : ((List.range i).foldl (fun ps one => addK ps (partOf ah one)) []).length ≤ i := by
  induction i with
  | zero => exact Nat.le_refl _
  | succ i ih =>
    rw [List.range_succ, List.foldl_append]
    have := addK_len ((List.range i).foldl (fun ps one => addK ps (partOf ah one)) []) (partOf ah i)
    show (addK _ (partOf ah i)).length ≤ _
    omega
theorem partsTo_mem {ah : List (List Nat)} {p : List Nat} : ∀ {i : Nat}, p ∈ (List.range i).foldl (fun ps one => addK ps (partOf ah one)) [] ↔ ∃ j < i, p = partOf ah j
  | 0 => by simp
  | i + 1 => by
    rw [List.range_succ, List.foldl_append]
    show p ∈ addK _ (partOf ah i) ↔ _
    rw [mem_addK, partsTo_mem (ah := ah) (p := p) (i := i)]
    constructor
    · rintro (⟨j, hj, e⟩ | e)
      · exact ⟨j, by omega, e⟩
      · exact ⟨i, by omega, e⟩
    · rintro ⟨j, hj, e⟩
      by_cases hji : j < i
      · exact .inl ⟨j, hji, e⟩
      · have : j = i := by omega
        subst this
        exact .inr e
theorem addK_toI (ps : List (List Nat)) (p : List Nat) : addK (ps.map toI) (toI p) = (addK ps p).map toI := addK_map toI (fun _ _ h => toI_inj h) ps p
theorem cal_parts_by (T : Tx K mg C) {f : Addr} {fd : FuncData} (F : C8.Def K mg "parts_by" (topS 35) f fd) (b : Binds K fd ["ahead"] [])  : C8.Cal P w K mg base 1 "parts_by" (sp_parts_by K C) [] := by
  have S : FnScope ["ahead", "found", "one", "row", "other"] ["ahead"] (C8.fnScope (topS 35)) := C8.fnScope_by (by decide +kernel)
  have nd := S.nd
  refine cal_F (n := 4) F b S (fun _ => rfl) rfl fun cdv A outer s H E hr => ⟨_, (pss_cons (ps_set (i := 1) nd rfl (Or.inl rfl) pe_dnewT)
    (pss_cons (ps_for PassesOwn.never rfl (piE K rfl (by rfl) T.b_enumerate (pa_cons (pv 0) pa_nil)) (pgTup K rfl rfl (pgs_cons (pg_name (i := 2) nd rfl (by first | exact Or.inl rfl | exact Or.inr rfl)) (pgs_cons (pg_name (i := 3) nd rfl (by first | exact Or.inl rfl | exact Or.inr rfl)) pgs_nil)))
    (pss_one (ps_dput (hu_of hr) (pv 1) (pe_callTy (cTup K) (by rfl) T.b_tuple (by decide +kernel) (pa_cons (pe_lc (own := [("other", 4)]) (g := (gName 4)) rfl nd (piL K rfl (pv 3)) (blkOk_by (by kernel_rfl)) (fun _ _ _ _ _ => (pg_name (i := 4) nd rfl (by first | exact Or.inl rfl | exact Or.inr rfl))) (fun _ _ _ _ _ => (pts_one (pt_cmpR (oIn K) (pv 2) (pe_ix (ixL K) (pv 0) (pv 4) (fun _ _ => rfl)) (by rfl)))) (fun _ _ _ _ _ => (pv 4))) pa_nil)) pe_bl rfl)))
    (pss_one (ps_ret (pe_callB (cSortedDT K rfl rfl (in65 hr)) (by rfl) T.b_sorted (by decide +kernel) (pa_cons (pv 1) pa_nil)))))), ?_⟩
  rintro ah ⟨h1, h2, h3⟩
  refine rt_new (O := oT []) en_newT (lt_some rfl) fun a => ?_
  refine rt_seq (Γ1 := [.pr (D K (eNss ah)), .own a (oT ((partsRaw ah).map toI)), .no, .no, .no]) ?_ (rt_ret (Ev.is (ev_new (en_sortT rfl ?_)) ?_) (Wk.nil _))
  · refine go_forE (xs := ah) (enc := eNs) (S := fun i => [.pr (D K (eNss ah)), .own a (oT (((List.range i).foldl (fun ps one => addK ps (partOf ah one)) []).map toI)), .no, .no, .no]) (ei_enum (ev_var rfl)) (by repeat (first | exact Wk.nil _ | exact Wk.refl _ | refine Wk.cons (by first | exact Or.inr rfl | exact Or.inl rfl) ?_)) (fun i r hi => ?_) (by repeat (first | exact Wk.nil _ | exact Wk.refl _ | refine Wk.cons (by first | exact Or.inr rfl | exact Or.inl rfl) ?_))
    have hi2 := (List.getElem?_eq_some_iff.mp hi).1
    have hr := h2 r (List.mem_of_getElem? hi)
    have er : ah.getD i [] = r := by rw [List.getD_eq_getElem?_getD, hi]; rfl
    have pl := partsTo_len ah i
    refine tg_pair (lt_some rfl) (lt_some rfl) ((go_putT (K := K) (P := D K (.bool true)) (ns := toI (partOf ah i)) ev_bool rfl (Ev.is (ev_tupleOfT (ev_new (en_lc (xs := r) (A := fun o => D K (eN o)) (F := fun o => if decide (i ∈ ah.getD o []) then some (eN o) else none) (ei_list (ev_var rfl)) (by rw [List.map_map]; rfl) rfl (by omega) fun o ho =>
      cg_name (by decide) (lt_some rfl) (et_test (ev_inL (x := i) (l := ah.getD o []) (ev_var rfl) (ev_ixLN (ev_var rfl) (ev_var rfl) ?_))) (fun _ => ev_var rfl) (fun _ => by rfl) (fun _ => by rfl)))) ?_) rfl ?_).wk ?_)
    · rw [List.getElem?_map, List.getD_eq_getElem?_getD, List.getElem?_eq_getElem (hr.2 o ho)]
      rfl
    · rw [filterMap_if]
      show DT K ((r.filter _).map eN) = DT K ((partOf ah i |>.map fun n : Nat => (n : Int)).map .int)
      rw [← map_eN]
      unfold partOf
      rw [er]
    · rw [List.length_map]; omega
    · rw [addK_toI]
      rw [List.range_succ, List.foldl_append]
      exact (by repeat (first | exact Wk.nil _ | exact Wk.refl _ | refine Wk.cons (by first | exact Or.inr rfl | exact Or.inl rfl) ?_))
  · intro ks hk
    obtain ⟨p, hp, rfl⟩ := List.mem_map.mp hk
    obtain ⟨j, hj, rfl⟩ := partsTo_mem.mp hp
    intro e
    exact h3 j hj (by
      have := congrArg List.length e
      unfold toI at this
      rw [List.length_map] at this
      exact List.length_eq_zero_iff.mp this)
  · rw [sort_toI tI eL tI_toI, map_tI_toI]
    rfl
theorem cal_step_between (T : Tx K mg C) {f : Addr} {fd : FuncData} (F : C8.Def K mg "step_between" (topS 36) f fd) (b : Binds K fd ["rows", "one", "other"] []) (c_can_step : C8.Cal P w K mg base 1 "can_step" (sp_can_step K C) []) : C8.Cal P w K mg base 2 "step_between" (sp_step_between K C) [] := by
  have S : FnScope ["rows", "one", "other", "first", "second"] ["rows", "one", "other"] (C8.fnScope (topS 36)) := C8.fnScope_by (by decide +kernel)
  have nd := S.nd
  refine cal_F (n := 2) F b S (fun _ => rfl) rfl fun cdv A outer s H E hr => ⟨_, (pss_one (ps_ret (pe_slice (slL K) (pe_lc2 (own := [("first", 3), ("second", 4)]) (vs1 := [4]) rfl nd (piT K rfl (pv 1)) (blkOk_by (by kernel_rfl)) (by decide) (fun _ _ _ _ _ => (pg_name (i := 3) nd rfl (by first | exact Or.inl rfl | exact Or.inr rfl))) (fun _ _ _ _ _ => pts_nil) (fun _ _ _ _ _ => (piT K rfl (pv 2))) (fun _ _ _ _ _ => (pg_name (i := 4) nd rfl (by first | exact Or.inl rfl | exact Or.inr rfl))) (fun _ _ _ _ _ => (pts_one (pt_val (C8.pe_c c_can_step hr (by decide) (by rfl) (pa_cons (pv 0) (pa_cons (pv 3) (pa_cons (pv 4) pa_nil))))))) (fun _ _ _ _ _ => (pe_tup (pa_cons (pv 3) (pa_cons (pv 4) pa_nil))))) po_none (po_some pe_int)))), ?_⟩
  rintro ⟨R, one, other⟩ ⟨h1, h2⟩
  have h1 : one.length ≤ 100 := h1
  have h2 : other.length ≤ 100 := h2
  refine rt_ret (Ev.is (ev_newL (en_slL (ev_new (en_lc2 (xs := one) (ys := other) (A := fun x => D K (eN x)) (B := fun x => D K (eN x)) (F := fun f s => if canStep R f s then some (eP (f, s)) else none) (ei_tupM (ev_var rfl)) rfl (by decide) (by decide) (by decide) (lt_some rfl) (lt_some rfl) (Nat.le_trans (Nat.mul_le_mul h1 h2) (by decide)) (fun x _ => ei_tupM (ev_var rfl))
    fun x _ y _ => ⟨canStep R x y, _, rfl, et_B (ev_call (α := Nat × Nat × Nat) (R, x, y) (ea_cons (ev_var rfl) (ea_cons (ev_var rfl) (ea_cons (ev_var rfl) ea_nil))) trivial), fun _ => ev_pair (ev_var rfl) (ev_var rfl)⟩)) eo_none (eo_some (K := K) (ev_int (n := ((1 : Nat) : Int)))))) ?_) (Wk.nil _)
  rw [cutD_any]
  unfold stepBetween
  rw [List.map_take, List.map_flatMap]
  congr 2
  show one.flatMap _ = one.flatMap _
  congr 1
  funext f
  rw [List.map_map]
  exact filterMap_if _ _ _
end
end WF

/-! ## text W10 -/
namespace WF
open PySem PySem.Spec PyProof.Rows L2
structure NeedOk (R M : Nat) (ls : List (List Nat)) : Prop where
  ok : LotsOk R M ls
  all : areAll ls (aheadOf ls (R + M)) = true
  refl : ∀ i < R + M, partOf (aheadOf ls (R + M)) i ≠ []
  two : ∀ p ∈ partsBy (aheadOf ls (R + M)), 1 < p.length → p.getD 0 0 < R ∧ R ≤ p.getLastD 0
  cov : ∀ p ∈ partsBy (aheadOf ls (R + M)), ∀ o ∈ underOf (aheadOf ls (R + M)) (partsBy (aheadOf ls (R + M))) p, coverOf (aheadOf ls (R + M)) (underOf (aheadOf ls (R + M)) (partsBy (aheadOf ls (R + M))) p) o = true → stepBetween R o p ≠ []
abbrev sp_needed_steps (K : PySem.W.Frag) (_ : Addr) : Sp := spF (α := Nat × Nat × List (List Nat) × Bool) (fun a => [D K (eN a.1), D K (eN a.2.1), D K (eLo a.2.2.2 a.2.2.1)]) (fun a => NeedOk a.1 a.2.1 a.2.2.1) (fun a => D K (ePs (neededSteps a.1 a.2.1 a.2.2.1)))
abbrev sp_board_of (K : PySem.W.Frag) (C : Addr) : Sp := spF (α := Nat × Nat × List (List Nat) × Bool) (fun a => [D K (eN a.1), D K (eN a.2.1), D K (eLo a.2.2.2 a.2.2.1)]) (fun a => NeedOk a.1 a.2.1 a.2.2.1) (fun a => Br K C (boardOfSteps a.1 a.2.1 (neededSteps a.1 a.2.1 a.2.2.1)))
abbrev sp_fewest_steps (K : PySem.W.Frag) (_ : Addr) : Sp := spF (α := Nat × Nat × List (List Nat) × Bool) (fun a => [D K (eN a.1), D K (eN a.2.1), D K (eLo a.2.2.2 a.2.2.1)]) (fun a => NeedOk a.1 a.2.1 a.2.2.1) (fun a => D K (eN (neededSteps a.1 a.2.1 a.2.2.1).length))
def fmTo {α β : Type} (g : α → List β) (xs : List α) (i : Nat) : List β := (xs.take i).flatMap g
theorem fmTo_succ {α β : Type} {g : α → List β} {xs : List α} {i : Nat} {x : α} (h : xs[i]? = some x) : fmTo g xs (i + 1) = fmTo g xs i ++ g x := by
  unfold fmTo
  rw [List.take_add_one, h, List.flatMap_append]
  simp
theorem fmTo_all {α β : Type} (g : α → List β) (xs : List α) : fmTo g xs xs.length = xs.flatMap g := by
  unfold fmTo
  rw [List.take_length]
theorem fmTo_len {α β : Type} {g : α → List β} {b : Nat} (xs : List α) (hg : ∀ x ∈ xs, (g x).length ≤ b) (i : Nat) : (fmTo g xs i).length ≤ xs.length * b := by
  have := flatMap_len (f := g) (b := b) (xs.take i) fun x hx => hg x (List.mem_of_mem_take hx)
  have h2 : (xs.take i).length ≤ xs.length := by rw [List.length_take]; exact Nat.min_le_right _ _
  have := Nat.mul_le_mul_right b h2
  unfold fmTo
  omega
theorem ringOf_len {R : Nat} {p : List Nat} {n : Nat} (h : p.length ≤ n) : (ringOf R p).length ≤ 6 * n := by
  have hs : (rowsIn R p).length ≤ n := Nat.le_trans (List.length_filter_le _ _) h
  have ho : (colsIn R p).length ≤ n := Nat.le_trans (List.length_filter_le _ _) h
  unfold ringOf
  split
  · exact Nat.zero_le _
  · have f1 := flatMap_len (f := ringAt (rowsIn R p) (colsIn R p) (min (rowsIn R p).length (colsIn R p).length)) (b := 2) (List.range (min (rowsIn R p).length (colsIn R p).length)) fun _ _ => Nat.le_refl _
    have f2 := flatMap_len (f := fun r => [((colsIn R p).getD 0 0, r), (r, (colsIn R p).getD 0 0)]) (b := 2) ((rowsIn R p).drop (min (rowsIn R p).length (colsIn R p).length)) fun _ _ => Nat.le_refl _
    have f3 := flatMap_len (f := fun r => [((rowsIn R p).getD 0 0, r), (r, (rowsIn R p).getD 0 0)]) (b := 2) ((colsIn R p).drop (min (rowsIn R p).length (colsIn R p).length)) fun _ _ => Nat.le_refl _
    rw [List.length_range] at f1
    rw [List.length_drop] at f2 f3
    rw [List.length_append, List.length_append]
    omega
theorem aheadOf_len (ls : List (List Nat)) (n : Nat) : (aheadOf ls n).length = n := by unfold aheadOf; rw [List.length_map, List.length_range]
theorem aheadOf_row {ls : List (List Nat)} {n : Nat} {r : List Nat} (h : r ∈ aheadOf ls n) : r.length ≤ n ∧ ∀ o ∈ r, o < n := by
  unfold aheadOf at h
  obtain ⟨t, _, rfl⟩ := List.mem_map.mp h
  refine ⟨Nat.le_trans (List.length_filter_le _ _) (by rw [List.length_range]; exact Nat.le_refl _), fun o ho => List.mem_range.mp (List.mem_filter.mp ho).1⟩
theorem aheadOf_getD {ls : List (List Nat)} {n i : Nat} (h : i < n) : (aheadOf ls n)[i]? = some ((aheadOf ls n).getD i []) := by
  rw [List.getD_eq_getElem?_getD, List.getElem?_eq_getElem (by rw [aheadOf_len]; exact h)]
  rfl
theorem partOf_ok {ls : List (List Nat)} {n i : Nat} (h : i < n) : (partOf (aheadOf ls n) i).length ≤ n ∧ ∀ o ∈ partOf (aheadOf ls n) i, o < n := by
  have hr := aheadOf_row (List.mem_of_getElem? (aheadOf_getD (ls := ls) h))
  unfold partOf
  exact ⟨Nat.le_trans (List.length_filter_le _ _) hr.1, fun o ho => hr.2 o (List.mem_filter.mp ho).1⟩
theorem mem_partsBy {ah : List (List Nat)} {p : List Nat} : p ∈ partsBy ah ↔ ∃ j < ah.length, p = partOf ah j := by
  unfold partsBy partsRaw
  rw [List.mem_mergeSort, partsTo_mem]
theorem partsBy_len (ah : List (List Nat)) : (partsBy ah).length ≤ ah.length := by
  unfold partsBy partsRaw
  rw [List.length_mergeSort]
  exact partsTo_len ah _
theorem atI_last {l : List Nat} (h : l ≠ []) : atI (l.map eN) (-1) = some (eN (l.getLastD 0)) := by
  have hp := List.length_pos_iff.mpr h
  have e : ixN (l.map eN).length (-1) = some (l.length - 1) := by
    rw [List.length_map]
    unfold ixN
    rw [if_neg (by omega), if_pos (by omega)]
    congr 1
    omega
  unfold atI
  rw [e]
  show (l.map eN)[l.length - 1]? = _
  rw [getD_atE (by omega)]
  congr 2
  rw [List.getLastD_eq_getLast?, List.getLast?_eq_getElem?, List.getD_eq_getElem?_getD]
theorem two_parts {R : Nat} {p : List Nat} (h : p.getD 0 0 < R ∧ R ≤ p.getLastD 0) (hp : p ≠ []) : rowsIn R p ≠ [] ∧ colsIn R p ≠ [] := by
  have hl := List.length_pos_iff.mpr hp
  have h0 : p.getD 0 0 ∈ p := List.mem_of_getElem? (getD_at hl)
  have h1 : p.getLastD 0 ∈ p := by
    rw [List.getLastD_eq_getLast?, List.getLast?_eq_getElem?, List.getElem?_eq_getElem (by omega)]
    exact List.getElem_mem _
  constructor
  · exact List.ne_nil_of_mem (List.mem_filter.mpr ⟨h0, decide_eq_true h.1⟩)
  · exact List.ne_nil_of_mem (List.mem_filter.mpr ⟨h1, decide_eq_true h.2⟩)
section
variable {P : Program} {w : World} {K : PySem.W.Frag} {mg : Str → Option Value} {base : Heap} {C : Addr}
theorem cal_needed_steps (T : Tx K mg C) {f : Addr} {fd : FuncData} (F : C8.Def K mg "needed_steps" (topS 37) f fd) (b : Binds K fd ["rows", "columns", "lots"] []) (c_ahead_of : C8.Cal P w K mg base 1 "ahead_of" (sp_ahead_of K C) []) (c_are_all : C8.Cal P w K mg base 3 "are_all" (sp_are_all K C) []) (c_parts_by : C8.Cal P w K mg base 1 "parts_by" (sp_parts_by K C) []) (c_ring_of : C8.Cal P w K mg base 1 "ring_of" (sp_ring_of K C) []) (c_step_between : C8.Cal P w K mg base 2 "step_between" (sp_step_between K C) []) : C8.Cal P w K mg base 4 "needed_steps" (sp_needed_steps K C) [] := by
  have S : FnScope ["rows", "columns", "lots", "ahead", "part", "some", "found", "under", "one", "step", "other"] ["rows", "columns", "lots"] (C8.fnScope (topS 37)) := C8.fnScope_by (by decide +kernel)
  have nd := S.nd
  refine cal_F (n := 8) F b S (fun _ => rfl) rfl fun cdv A outer s H E hr => ⟨_, (pss_cons (ps_set (i := 3) nd rfl (Or.inr rfl) (C8.pe_c c_ahead_of hr (by decide) (by rfl) (pa_cons (pv 2) (pa_cons (pe_op op_add (pv 0) (pv 1)) pa_nil))))
    (pss_cons (ps_if (pt_not (pt_val (C8.pe_c c_are_all hr (by decide) (by rfl) (pa_cons (pv 2) (pa_cons (pv 3) pa_nil))))) (pss_one ps_never) pss_nil)
    (pss_cons (ps_par (i := 5) (j := 6) rfl nd rfl rfl (by decide) rfl rfl (pa_cons (C8.pe_c c_parts_by hr (by decide) (by rfl) (pa_cons (pv 3) pa_nil)) (pa_cons (pe_lst pa_nil) pa_nil)) (by rfl))
    (pss_cons (ps_for PassesOwn.never rfl (piL K rfl (pv 5)) (pg_name (i := 4) nd rfl (by first | exact Or.inl rfl | exact Or.inr rfl))
    (pss_cons (ps_if (PW.pt (pw_and (pt_cmpR op_gt (pe_callB (cLen K) (by rfl) T.b_len (by decide +kernel) (pa_cons (pv 4) pa_nil)) pe_int (nomark _)) (pw_and1 (pt_not (pt_chain op_lt op_le (pe_ix (ixT K) (pv 4) pe_int (fun _ _ => rfl)) (pv 0) (pe_ix (ixT K) (pv 4) (pe_un un_neg pe_int) (fun _ _ => rfl))))))) (pss_one ps_never) pss_nil)
    (pss_one (ps_expr (peBm K rfl PySem.F.plainAttrs_list PySem.F.slot_list_extend PySem.F.type_list_extend mt_extend (pv 6) (pa_cons (C8.pe_c c_ring_of hr (by decide) (by rfl) (pa_cons (pv 0) (pa_cons (pv 4) pa_nil))) pa_nil))))))
    (pss_cons (ps_for PassesOwn.never rfl (piL K rfl (pv 5)) (pg_name (i := 4) nd rfl (by first | exact Or.inl rfl | exact Or.inr rfl))
    (pss_cons (ps_setLc (i := 7) (own := [("one", 8)]) (g := (gName 8)) rfl nd rfl rfl (sw_true rfl rfl rfl (by decide +kernel)) (piL K rfl (pv 5)) (blkOk_by (by kernel_rfl)) (fun _ _ _ _ _ => (pg_name (i := 8) nd rfl (by first | exact Or.inl rfl | exact Or.inr rfl))) (fun _ _ _ _ _ => (pts_one (PW.pt (pw_and (pt_cmpR (oNeD K rfl hr.units) (pv 8) (pv 4) (nomark _)) (pw_and1 (pt_cmpR (oIn K) (pe_ix (ixT K) (pv 8) pe_int (fun _ _ => rfl)) (pe_ix (ixL K) (pv 3) (pe_ix (ixT K) (pv 4) pe_int (fun _ _ => rfl)) (fun _ _ => rfl)) (by rfl))))))) (fun _ _ _ _ _ => (pv 8)))
    (pss_one (ps_for PassesOwn.never rfl (piL K rfl (pv 7)) (pg_name (i := 8) nd rfl (by first | exact Or.inl rfl | exact Or.inr rfl))
    (pss_one (ps_if (pt_not (pt_val (pe_callB (cAny K rfl rfl) (by rfl) T.b_any (by decide +kernel) (pa_cons (pe_lc (own := [("other", 10)]) (g := (gName 10)) rfl nd (piL K rfl (pv 7)) (blkOk_by (by kernel_rfl)) (fun _ _ _ _ _ => (pg_name (i := 10) nd rfl (by first | exact Or.inl rfl | exact Or.inr rfl))) (fun _ _ _ _ _ => (pts_one (pt_cmpR (oNeD K rfl hr.units) (pv 10) (pv 8) (nomark _)))) (fun _ _ _ _ _ => (pe_cmpR (oIn K) (pe_ix (ixT K) (pv 8) pe_int (fun _ _ => rfl)) (pe_ix (ixL K) (pv 3) (pe_ix (ixT K) (pv 10) pe_int (fun _ _ => rfl)) (fun _ _ => rfl)) (by rfl)))) pa_nil)))) (pss_cons (ps_set (i := 9) nd rfl (Or.inl rfl) (C8.pe_c c_step_between hr (by decide) (by rfl) (pa_cons (pv 0) (pa_cons (pv 8) (pa_cons (pv 4) pa_nil)))))
    (pss_cons (ps_if (pt_cmpR (oEqD K rfl hr.units) (pv 9) (pe_lst pa_nil) (nomark _)) (pss_one ps_never) pss_nil)
    (pss_one (ps_expr (peBm K rfl PySem.F.plainAttrs_list PySem.F.slot_list_extend PySem.F.type_list_extend mt_extend (pv 6) (pa_cons (pv 9) pa_nil)))))) pss_nil))))))
    (pss_one (ps_ret (pv 6)))))))), ?_⟩
  rintro ⟨R, M, ls, bl⟩ ok
  have ok : NeedOk R M ls := ok
  have r5 := ok.ok.r5
  have c5 := ok.ok.c5
  have hn : R + M ≤ 10 := by omega
  have hal := aheadOf_len ls (R + M)
  refine rt_seq (st_asg (ev_call (α := List (List Nat) × Bool × Nat) (ls, bl, R + M) (ea_cons (ev_var rfl) (ea_cons (ev_addN (ev_var rfl) (ev_var rfl)) ea_nil)) ⟨ok.ok.sm, hn⟩) (lt_some rfl)) ?_
  refine rt_seq (st_skip (Et.is (et_not (et_B (ev_call (α := List (List Nat) × Bool × List (List Nat)) (ls, bl, aheadOf ls (R + M)) (ea_cons (ev_var rfl) (ea_cons (ev_var rfl) ea_nil)) ⟨by show (aheadOf ls (R + M)).length ≤ 10; omega, fun r hr => by have := (aheadOf_row hr).1; omega⟩))) ?_)) ?_
  · show (!areAll ls (aheadOf ls (R + M))) = false
    rw [ok.all]
    rfl
  generalize hah : aheadOf ls (R + M) = ah at *
  have hrow : ∀ {i : Nat}, i < R + M → ah[i]? = some (ah.getD i []) := fun h => by rw [← hah]; exact aheadOf_getD h
  have hrowE : ∀ {i : Nat}, i < R + M → (ah.map eNs)[i]? = some (eNs (ah.getD i [])) := fun h => by rw [List.getElem?_map, hrow h]; rfl
  have hpart : ∀ p ∈ partsBy ah, (p.length ≤ R + M ∧ ∀ o ∈ p, o < R + M) ∧ p ≠ [] := fun p hp => by
    obtain ⟨j, hj, rfl⟩ := mem_partsBy.mp hp
    have hj : j < R + M := by omega
    have := ok.refl j hj
    rw [hah] at this
    refine ⟨?_, this⟩
    rw [← hah]
    exact partOf_ok hj
  have hp0 : ∀ p ∈ partsBy ah, p.getD 0 0 < R + M := fun p hp => (hpart p hp).1.2 _ (List.mem_of_getElem? (getD_at (List.length_pos_iff.mpr (hpart p hp).2)))
  have hpl := partsBy_len ah
  refine rt_parN (i := 5) (j := 6) (O := oL K []) (ev_call ah (ea_cons (ev_var rfl) ea_nil) ⟨by omega, fun r hr => by rw [← hah] at hr ⊢; rw [aheadOf_len]; have := aheadOf_row hr; exact ⟨by omega, this.2⟩, fun i hi => by have := ok.refl i (by omega); rw [hah] at this; exact this⟩) (en_lst ed_nil (by show 0 ≤ 100000; decide)) (lt_some rfl) (lt_some rfl) fun a => ?_
  have rb : ∀ p ∈ partsBy ah, (ringOf R p).length ≤ 60 := fun p hp => ringOf_len (n := 10) (by have := (hpart p hp).1.1; omega)
  have rings := flatMap_len (f := ringOf R) (b := 60) (partsBy ah) rb
  refine rt_seq (Γ1 := [.pr (D K (eN R)), .pr (D K (eN M)), .pr (D K (eLo bl ls)), .pr (D K (eNss ah)), .no, .pr (D K (eLs (partsBy ah))), .own a (oL K (((partsBy ah).flatMap (ringOf R)).map eP)), .no, .no, .no, .no]) ?_ ?_
  · refine go_forM (xs := partsBy ah) (A := fun p => D K (eL p)) (S := fun i => [.pr (D K (eN R)), .pr (D K (eN M)), .pr (D K (eLo bl ls)), .pr (D K (eNss ah)), .no, .pr (D K (eLs (partsBy ah))), .own a (oL K ((fmTo (ringOf R) (partsBy ah) i).map eP)), .no, .no, .no, .no])
      (ei_listM (ev_var rfl)) (by repeat (first | exact Wk.nil _ | exact Wk.refl _ | refine Wk.cons (by first | exact Or.inr rfl | exact Or.inl rfl) ?_)) (fun i p hi => ?_) (by rw [fmTo_all]; exact (by repeat (first | exact Wk.nil _ | exact Wk.refl _ | refine Wk.cons (by first | exact Or.inr rfl | exact Or.inl rfl) ?_)))
    have hm := List.mem_of_getElem? hi
    obtain ⟨⟨p1, p2⟩, p3⟩ := hpart p hm
    have p4 := List.length_pos_iff.mpr p3
    have htwo := ok.two p (by rw [hah]; exact hm)
    have fl := fmTo_len (g := ringOf R) (b := 60) (partsBy ah) rb i
    have hrc : p.length = 1 ∨ (rowsIn R p ≠ [] ∧ colsIn R p ≠ []) := by
      by_cases h : 1 < p.length
      · exact .inr (two_parts (htwo h) p3)
      · exact .inl (by omega)
    refine tg_name (lt_some rfl) (st_seq (st_skip (Et.is (et_and (b := !(decide (p.getD 0 0 < R) && decide (R ≤ p.getLastD 0))) (et_test (ev_gtN (j := 1) (ev_lenTN (ev_var rfl)) ev_int)) (fun _ => Et.is (et_not (et_test (ev_chLtLe (ev_ixTN (ev_var rfl) (ev_int (n := ((0 : Nat) : Int))) (getD_atE p4)) (ev_var rfl) (ev_ixT (ev_var rfl) (ev_neg ev_int) (atI_last p3))))) ?_)) ?_)) ((go_extend rfl (ev_call (α := Nat × List Nat) (R, p) (ea_cons (ev_var rfl) (ea_cons (ev_var rfl) ea_nil)) ⟨by show p.length ≤ 100; omega, hrc⟩) rfl ?_).wk ?_))
    · have e1 : decide (((p.getD 0 0 : Nat) : Int) < (R : Nat)) = decide (p.getD 0 0 < R) := decide_eq_decide.mpr (by omega)
      have e2 : decide (((R : Nat) : Int) ≤ (p.getLastD 0 : Nat)) = decide (R ≤ p.getLastD 0) := decide_eq_decide.mpr (by omega)
      rw [e1, e2]
    · by_cases h : 1 < p.length
      · obtain ⟨t1, t2⟩ := htwo h
        rw [decide_eq_true t1, decide_eq_true t2, decide_eq_true h]
        rfl
      · rw [decide_eq_false h]
        rfl
    · have := rb p hm
      rw [List.length_map, List.length_map]
      show _ + (ringOf R p).length ≤ 100000
      have := Nat.mul_le_mul_right 60 (Nat.le_trans hpl (by omega : ah.length ≤ 10))
      omega
    · refine Wk.cons (.inr rfl) (Wk.cons (.inr rfl) (Wk.cons (.inr rfl) (Wk.cons (.inr rfl) (Wk.cons (.inl rfl) (Wk.cons (.inr rfl) (Wk.cons (.inr ?_) (by repeat (first | exact Wk.nil _ | exact Wk.refl _ | refine Wk.cons (by first | exact Or.inr rfl | exact Or.inl rfl) ?_))))))))
      rw [fmTo_succ hi, List.map_append]
  have sb : ∀ (under : List (List Nat)) (p o : List Nat), (if coverOf ah under o then stepBetween R o p else []).length ≤ 1 := fun under p o => by
    split
    · unfold stepBetween
      rw [List.length_take]
      exact Nat.min_le_left _ _
    · exact Nat.zero_le _
  have ub : ∀ p, (underOf ah (partsBy ah) p).length ≤ 10 := fun p => by
    have := List.length_filter_le (fun one => !decide (one = p) && decide (one.getD 0 0 ∈ ah.getD (p.getD 0 0) [])) (partsBy ah)
    unfold underOf
    omega
  have cb : ∀ p ∈ partsBy ah, ((underOf ah (partsBy ah) p).flatMap fun one => if coverOf ah (underOf ah (partsBy ah) p) one then stepBetween R one p else []).length ≤ 10 := fun p _ => by
    have := flatMap_len (f := fun one => if coverOf ah (underOf ah (partsBy ah) p) one then stepBetween R one p else []) (b := 1) (underOf ah (partsBy ah) p) fun o _ => sb _ _ _
    have := ub p
    omega
  have h60 := Nat.mul_le_mul_right 60 (Nat.le_trans hpl (by omega : ah.length ≤ 10))
  refine rt_seq (Γ1 := [.pr (D K (eN R)), .pr (D K (eN M)), .pr (D K (eLo bl ls)), .pr (D K (eNss ah)), .no, .pr (D K (eLs (partsBy ah))), .own a (oL K ((neededSteps R M ls).map eP)), .no, .no, .no, .no]) ?_ (rt_ret (ev_own rfl) (Wk.nil _))
  have en : neededSteps R M ls = (partsBy ah).flatMap (ringOf R) ++ (partsBy ah).flatMap fun p => (underOf ah (partsBy ah) p).flatMap fun one => if coverOf ah (underOf ah (partsBy ah) p) one then stepBetween R one p else [] := by
    unfold neededSteps
    rw [hah]
  refine go_forM (xs := partsBy ah) (A := fun p => D K (eL p)) (S := fun i => [.pr (D K (eN R)), .pr (D K (eN M)), .pr (D K (eLo bl ls)), .pr (D K (eNss ah)), .no, .pr (D K (eLs (partsBy ah))), .own a (oL K (((partsBy ah).flatMap (ringOf R) ++ fmTo (fun p => (underOf ah (partsBy ah) p).flatMap fun one => if coverOf ah (underOf ah (partsBy ah) p) one then stepBetween R one p else []) (partsBy ah) i).map eP)), .no, .no, .no, .no])
    (ei_listM (ev_var rfl)) (by rw [show fmTo _ _ 0 = [] from rfl, List.append_nil]; exact (by repeat (first | exact Wk.nil _ | exact Wk.refl _ | refine Wk.cons (by first | exact Or.inr rfl | exact Or.inl rfl) ?_))) (fun i p hi => ?_) (by rw [en, fmTo_all]; exact (by repeat (first | exact Wk.nil _ | exact Wk.refl _ | refine Wk.cons (by first | exact Or.inr rfl | exact Or.inl rfl) ?_)))
  have hm := List.mem_of_getElem? hi
  obtain ⟨⟨p1, p2⟩, p3⟩ := hpart p hm
  have p4 := List.length_pos_iff.mpr p3
  have fl := fmTo_len (g := fun p => (underOf ah (partsBy ah) p).flatMap fun one => if coverOf ah (underOf ah (partsBy ah) p) one then stepBetween R one p else []) (b := 10) (partsBy ah) cb i
  have h10 := Nat.mul_le_mul_right 10 (Nat.le_trans hpl (by omega : ah.length ≤ 10))
  have hu := ub p
  refine tg_name (lt_some rfl) (st_seq (st_asg (P := D K (eLs (underOf ah (partsBy ah) p))) (Ev.is (ev_new (en_lc (xs := partsBy ah) (A := fun o => D K (eL o)) (F := fun o => if !decide (o = p) && decide (o.getD 0 0 ∈ ah.getD (p.getD 0 0) []) then some (eL o) else none) (ei_listM (ev_var rfl)) rfl rfl (by omega) fun o ho =>
    cg_name (by decide) (lt_some rfl) (et_and (et_test (ev_neE okL (x := o) (y := p) (ev_var rfl) (ev_var rfl) trivial trivial)) fun _ => et_test (ev_inL (x := o.getD 0 0) (l := ah.getD (p.getD 0 0) []) (ev_ixTN (ev_var rfl) (ev_int (n := ((0 : Nat) : Int))) (getD_atE (List.length_pos_iff.mpr (hpart o ho).2))) (ev_ixLN (ev_var rfl) (ev_ixTN (ev_var rfl) (ev_int (n := ((0 : Nat) : Int))) (getD_atE p4)) (hrowE (hp0 p hm))))) (fun _ => ev_var rfl) (fun _ => by rfl) (fun _ => by rfl))) ?_) (lt_some rfl)) ?_)
  · rw [filterMap_if]
    rfl
  generalize hund : underOf ah (partsBy ah) p = und at *
  have hmem : ∀ o ∈ und, o ∈ partsBy ah := fun o ho => by
    rw [← hund] at ho
    exact (List.mem_filter.mp ho).1
  have hcov : ∀ o ∈ und, coverOf ah und o = true → stepBetween R o p ≠ [] := fun o ho h => by
    have := ok.cov p (by rw [hah]; exact hm) o (by rw [hah, hund]; exact ho)
    rw [hah, hund] at this
    exact this h
  refine go_forM (xs := und) (A := fun o => D K (eL o)) (S := fun j => [.pr (D K (eN R)), .pr (D K (eN M)), .pr (D K (eLo bl ls)), .pr (D K (eNss ah)), .pr (D K (eL p)), .pr (D K (eLs (partsBy ah))), .own a (oL K (((partsBy ah).flatMap (ringOf R) ++ fmTo (fun p => (underOf ah (partsBy ah) p).flatMap fun one => if coverOf ah (underOf ah (partsBy ah) p) one then stepBetween R one p else []) (partsBy ah) i ++ fmTo (fun one => if coverOf ah und one then stepBetween R one p else []) und j).map eP)), .pr (D K (eLs und)), .no, .no, .no])
    (ei_listM (ev_var rfl)) (by rw [show fmTo (fun one => if coverOf ah und one then stepBetween R one p else []) und 0 = [] from rfl, List.append_nil]; exact (by repeat (first | exact Wk.nil _ | exact Wk.refl _ | refine Wk.cons (by first | exact Or.inr rfl | exact Or.inl rfl) ?_))) (fun j o hj => ?_) ?_
  · have hom := List.mem_of_getElem? hj
    have hop := hmem o hom
    have ho3 := (hpart o hop).2
    have fj := fmTo_len (g := fun one => if coverOf ah und one then stepBetween R one p else []) (b := 1) und (fun o _ => sb _ _ _) j
    refine tg_name (lt_some rfl) (st_if (b := coverOf ah und o) (Et.is (et_not (et_B (K := K) (ev_any (bs := (und.filter fun q => !decide (q = o)).map fun q => decide (o.getD 0 0 ∈ ah.getD (q.getD 0 0) [])) (Ev.is (ev_new (en_lc (xs := und) (A := fun q => D K (eL q)) (F := fun q => if !decide (q = o) then some (.bool (decide (o.getD 0 0 ∈ ah.getD (q.getD 0 0) []))) else none) (ei_listM (ev_var rfl)) rfl rfl (by omega) fun q hq =>
      cg_name (by decide) (lt_some rfl) (et_test (ev_neE okL (x := q) (y := o) (ev_var rfl) (ev_var rfl) trivial trivial)) (fun _ => ev_inL (x := o.getD 0 0) (l := ah.getD (q.getD 0 0) []) (ev_ixTN (ev_var rfl) (ev_int (n := ((0 : Nat) : Int))) (getD_atE (List.length_pos_iff.mpr ho3))) (ev_ixLN (ev_var rfl) (ev_ixTN (ev_var rfl) (ev_int (n := ((0 : Nat) : Int))) (getD_atE (List.length_pos_iff.mpr (hpart q (hmem q hq)).2))) (hrowE (hp0 q (hmem q hq))))) (fun _ => by rfl) (fun _ => by rfl))) ?_)))) ?_) (fun hb => ?_) (fun hb => ?_))
    · rw [filterMap_if, List.map_map]
      rfl
    · unfold coverOf
      rw [List.any_map]
      rfl
    · have hne := hcov o hom hb
      refine (st_seq (st_asg (P := DL K ((stepBetween R o p).map eP)) (ev_call (α := Nat × List Nat × List Nat) (R, o, p) (ea_cons (ev_var rfl) (ea_cons (ev_var rfl) (ea_cons (ev_var rfl) ea_nil))) ⟨by have := (hpart o hop).1.1; show o.length ≤ 100; omega, by show p.length ≤ 100; omega⟩) (lt_some rfl)) (st_seq (st_skip (Et.is (et_test (ev_eqE okPs (x := stepBetween R o p) (y := []) (ev_dl (ev_var rfl)) (ev_lst ed_nil (by show 0 ≤ 100000; decide)) trivial trivial)) (decide_eq_false hne))) (go_extend rfl (ev_var rfl) rfl ?_))).wk ?_
      · have h1 := sb und p o
        rw [if_pos hb] at h1
        rw [List.length_map, List.length_map, List.length_append, List.length_append]
        omega
      · refine Wk.cons (.inr rfl) (Wk.cons (.inr rfl) (Wk.cons (.inr rfl) (Wk.cons (.inr rfl) (Wk.cons (.inr rfl) (Wk.cons (.inr rfl) (Wk.cons (.inr ?_) (by repeat (first | exact Wk.nil _ | exact Wk.refl _ | refine Wk.cons (by first | exact Or.inr rfl | exact Or.inl rfl) ?_))))))))
        rw [fmTo_succ hj, if_pos hb, ← List.append_assoc, List.map_append (l₁ := _ ++ _)]
    · refine st_next.wk ?_
      refine Wk.cons (.inr rfl) (Wk.cons (.inr rfl) (Wk.cons (.inr rfl) (Wk.cons (.inr rfl) (Wk.cons (.inr rfl) (Wk.cons (.inr rfl) (Wk.cons (.inr ?_) (by repeat (first | exact Wk.nil _ | exact Wk.refl _ | refine Wk.cons (by first | exact Or.inr rfl | exact Or.inl rfl) ?_))))))))
      rw [fmTo_succ hj, if_neg (by rw [hb]; exact Bool.false_ne_true), List.append_nil]
  · refine Wk.cons (.inr rfl) (Wk.cons (.inr rfl) (Wk.cons (.inr rfl) (Wk.cons (.inr rfl) (Wk.cons (.inl rfl) (Wk.cons (.inr rfl) (Wk.cons (.inr ?_) (by repeat (first | exact Wk.nil _ | exact Wk.refl _ | refine Wk.cons (by first | exact Or.inr rfl | exact Or.inl rfl) ?_))))))))
    rw [fmTo_succ hi, fmTo_all, hund, ← List.append_assoc]
theorem cal_board_of (T : Tx K mg C) {f : Addr} {fd : FuncData} (F : C8.Def K mg "board_of" (topS 38) f fd) (b : Binds K fd ["rows", "columns", "lots"] []) (c_board_of_steps : C8.Cal P w K mg base 4 "board_of_steps" (sp_board_of_steps K C) []) (c_need_lots : C8.Cal P w K mg base 2 "need_lots" (sp_need_lots K C) []) (c_needed_steps : C8.Cal P w K mg base 4 "needed_steps" (sp_needed_steps K C) []) : C8.Cal P w K mg base 5 "board_of" (sp_board_of K C) [] := by
  have S : FnScope ["rows", "columns", "lots", "told"] ["rows", "columns", "lots"] (C8.fnScope (topS 38)) := C8.fnScope_by (by decide +kernel)
  have nd := S.nd
  refine cal_F (n := 1) F b S (fun _ => rfl) rfl fun cdv A outer s H E hr => ⟨_, (pss_cons (ps_expr (C8.pe_c c_need_lots hr (by decide) (by rfl) (pa_cons (pv 0) (pa_cons (pv 1) (pa_cons (pv 2) pa_nil)))))
    (pss_cons (ps_set (i := 3) nd rfl (Or.inl rfl) (C8.pe_c c_needed_steps hr (by decide) (by rfl) (pa_cons (pv 0) (pa_cons (pv 1) (pa_cons (pv 2) pa_nil)))))
    (pss_one (ps_ret (pe_ifExp (pt_cmpR op_notN (pv 3) pe_non (nomark _)) (C8.pe_c c_board_of_steps hr (by decide) (by rfl) (pa_cons (pv 0) (pa_cons (pv 1) (pa_cons (pv 3) pa_nil)))) pe_non))))), ?_⟩
  rintro ⟨R, M, ls, bl⟩ ok
  have ok : NeedOk R M ls := ok
  refine rt_seq (st_drop (ev_call (α := Nat × Nat × List (List Nat) × Bool) (R, M, ls, bl) (ea_cons (ev_var rfl) (ea_cons (ev_var rfl) (ea_cons (ev_var rfl) ea_nil))) ok.ok)) ?_
  refine rt_seq (st_asg (P := D K (ePs (neededSteps R M ls))) (ev_call (α := Nat × Nat × List (List Nat) × Bool) (R, M, ls, bl) (ea_cons (ev_var rfl) (ea_cons (ev_var rfl) (ea_cons (ev_var rfl) ea_nil))) ok) (lt_some rfl)) ?_
  exact rt_ret (ev_if (et_test (ev_notN (ev_var rfl))) (fun _ => ev_call (α := Nat × Nat × List (Nat × Nat)) (R, M, neededSteps R M ls) (ea_cons (ev_var rfl) (ea_cons (ev_var rfl) (ea_cons (ev_var rfl) ea_nil))) ⟨⟨ok.ok.r1, ok.ok.r5⟩, ok.ok.c1, ok.ok.c5⟩) (fun h => nomatch h)) (Wk.nil _)
theorem cal_fewest_steps (T : Tx K mg C) {f : Addr} {fd : FuncData} (F : C8.Def K mg "fewest_steps" (topS 39) f fd) (b : Binds K fd ["rows", "columns", "lots"] []) (c_need_lots : C8.Cal P w K mg base 2 "need_lots" (sp_need_lots K C) []) (c_needed_steps : C8.Cal P w K mg base 4 "needed_steps" (sp_needed_steps K C) []) : C8.Cal P w K mg base 5 "fewest_steps" (sp_fewest_steps K C) [] := by
  have S : FnScope ["rows", "columns", "lots", "told"] ["rows", "columns", "lots"] (C8.fnScope (topS 39)) := C8.fnScope_by (by decide +kernel)
  have nd := S.nd
  refine cal_F (n := 1) F b S (fun _ => rfl) rfl fun cdv A outer s H E hr => ⟨_, (pss_cons (ps_expr (C8.pe_c c_need_lots hr (by decide) (by rfl) (pa_cons (pv 0) (pa_cons (pv 1) (pa_cons (pv 2) pa_nil)))))
    (pss_cons (ps_set (i := 3) nd rfl (Or.inl rfl) (C8.pe_c c_needed_steps hr (by decide) (by rfl) (pa_cons (pv 0) (pa_cons (pv 1) (pa_cons (pv 2) pa_nil)))))
    (pss_one (ps_ret (pe_ifExp (pt_cmpR op_notN (pv 3) pe_non (nomark _)) (pe_callB (cLen K) (by rfl) T.b_len (by decide +kernel) (pa_cons (pv 3) pa_nil)) pe_non))))), ?_⟩
  rintro ⟨R, M, ls, bl⟩ ok
  have ok : NeedOk R M ls := ok
  refine rt_seq (st_drop (ev_call (α := Nat × Nat × List (List Nat) × Bool) (R, M, ls, bl) (ea_cons (ev_var rfl) (ea_cons (ev_var rfl) (ea_cons (ev_var rfl) ea_nil))) ok.ok)) ?_
  refine rt_seq (st_asg (P := D K (ePs (neededSteps R M ls))) (ev_call (α := Nat × Nat × List (List Nat) × Bool) (R, M, ls, bl) (ea_cons (ev_var rfl) (ea_cons (ev_var rfl) (ea_cons (ev_var rfl) ea_nil))) ok) (lt_some rfl)) ?_
  exact rt_ret (ev_if (et_test (ev_notN (ev_var rfl))) (fun _ => ev_lenLN (ev_var rfl)) (fun h => nomatch h)) (Wk.nil _)
end
end WF

/-! ## text M4 -/
namespace WF
open PySem PySem.Spec PyProof.Rows L2
/-! ### counting, in plain words -/
theorem filter_two {α : Type} {A B : α → Bool} : ∀ (E : List α), (∀ e ∈ E, A e = true → B e = true → False) → (E.filter A).length + (E.filter B).length = (E.filter fun e => A e || B e).length
  | [], _ => rfl
  | e :: E, h => by
    have ih := filter_two E fun x hx => h x (List.mem_cons_of_mem _ hx)
    have h0 := h e (List.mem_cons_self ..)
    rw [List.filter_cons, List.filter_cons, List.filter_cons]
    cases ha : A e <;> cases hb : B e
    · simpa [ha, hb] using ih
    · simp [ha, hb]; omega
    · simp [ha, hb]; omega
    · exact (h0 ha hb).elim
theorem filter_le {α : Type} {A B : α → Bool} : ∀ (E : List α), (∀ e ∈ E, A e = true → B e = true) → (E.filter A).length ≤ (E.filter B).length
  | [], _ => Nat.le_refl _
  | e :: E, h => by
    have ih := filter_le E fun x hx => h x (List.mem_cons_of_mem _ hx)
    have h0 := h e (List.mem_cons_self ..)
    rw [List.filter_cons, List.filter_cons]
    cases ha : A e <;> cases hb : B e
    · simpa [ha, hb] using ih
    · simp [ha, hb]; omega
    · rw [h0 ha] at hb; cases hb
    · simp [ha, hb]; omega
theorem filter_lt {α : Type} {A B : α → Bool} {x : α} : ∀ (E : List α), (∀ e ∈ E, A e = true → B e = true) → x ∈ E → A x = false → B x = true → (E.filter A).length < (E.filter B).length
  | [], _, hx, _, _ => by cases hx
  | e :: E, h, hx, xa, xb => by
    have hs : ∀ e ∈ E, A e = true → B e = true := fun x hx => h x (List.mem_cons_of_mem _ hx)
    have h0 := h e (List.mem_cons_self ..)
    have le := filter_le E hs
    rw [List.filter_cons, List.filter_cons]
    rcases List.mem_cons.mp hx with rfl | hx
    · simp [xa, xb]; omega
    · have ih := filter_lt E hs hx xa xb
      cases ha : A e <;> cases hb : B e
      · simpa [ha, hb] using ih
      · simp [ha, hb]; omega
      · rw [h0 ha] at hb; cases hb
      · simp [ha, hb]; omega
theorem filter_sum {α β : Type} {P : α → β → Bool} {k : α → Nat} {E : List β} : ∀ (xs : List α), xs.Pairwise (fun a b => ∀ e ∈ E, P a e = true → P b e = true → False) → (∀ x ∈ xs, k x ≤ (E.filter (P x)).length) →
    (xs.map k).sum ≤ (E.filter fun e => xs.any fun x => P x e).length
  | [], _, _ => Nat.zero_le _
  | x :: xs, hd, hk => by
    obtain ⟨hd1, hd2⟩ := List.pairwise_cons.mp hd
    have ih := filter_sum xs hd2 fun y hy => hk y (List.mem_cons_of_mem _ hy)
    have h0 := hk x (List.mem_cons_self ..)
    have two := filter_two (A := P x) (B := fun e => xs.any fun x => P x e) E fun e he ha hb => by
      obtain ⟨y, hy, hye⟩ := List.any_eq_true.mp hb
      exact hd1 y hy e he ha hye
    rw [List.map_cons, List.sum_cons]
    simp only [List.any_cons]
    omega
theorem two_le {α : Type} {a b : α} : ∀ {L : List α}, a ∈ L → b ∈ L → a ≠ b → 2 ≤ L.length
  | [], h, _, _ => by cases h
  | [x], h1, h2, ne => by rw [List.mem_singleton] at h1 h2; exact (ne (h1.trans h2.symm)).elim
  | _ :: _ :: _, _, _, _ => by simp
theorem one_le {α : Type} {a : α} {L : List α} (h : a ∈ L) : 1 ≤ L.length := List.length_pos_of_mem h
theorem nodup_le {α : Type} [DecidableEq α] : ∀ {L K : List α}, L.Nodup → (∀ x ∈ L, x ∈ K) → L.length ≤ K.length
  | [], _, _, _ => Nat.zero_le _
  | x :: L, K, hn, hs => by
    obtain ⟨h1, h2⟩ := List.nodup_cons.mp hn
    have hx := hs x (List.mem_cons_self ..)
    have ih := nodup_le (K := K.erase x) h2 fun y hy => by
      have hy' := hs y (List.mem_cons_of_mem _ hy)
      exact (List.mem_erase_of_ne (fun e => h1 (by rw [← e]; exact hy))).mpr hy'
    have := List.length_erase_of_mem hx
    have hp := List.length_pos_of_mem hx
    rw [List.length_cons]
    omega
/-! ### leading -/
inductive Rch (st : List (Nat × Nat)) : Nat → Nat → Prop
  | refl (a : Nat) : Rch st a a
  | step {a b c : Nat} : (a, b) ∈ st → Rch st b c → Rch st a c
theorem Rch.trans {st : List (Nat × Nat)} {a b c : Nat} (h : Rch st a b) (k : Rch st b c) : Rch st a c := by
  induction h with
  | refl _ => exact k
  | step e _ ih => exact .step e (ih k)
theorem Rch.one {st : List (Nat × Nat)} {a b : Nat} (h : (a, b) ∈ st) : Rch st a b := .step h (.refl _)
theorem Rch.of {st st' : List (Nat × Nat)} (hs : ∀ p ∈ st, Rch st' p.1 p.2) {a b : Nat} (h : Rch st a b) : Rch st' a b := by
  induction h with
  | refl a => exact .refl a
  | step e _ ih => exact (hs _ e).trans ih
theorem Rch.exit {st : List (Nat × Nat)} {S : Nat → Prop} {a b : Nat} (h : Rch st a b) : S a → ¬ S b → ∃ x y, (x, y) ∈ st ∧ S x ∧ ¬ S y ∧ Rch st a x ∧ Rch st y b := by
  induction h with
  | refl a => exact fun h1 h2 => (h2 h1).elim
  | step e hr ih =>
    rename_i a b c
    intro h1 h2
    by_cases hb : S b
    · obtain ⟨x, y, h3, h4, h5, h6, h7⟩ := ih hb h2
      exact ⟨x, y, h3, h4, h5, .step e h6, h7⟩
    · exact ⟨a, b, e, h1, hb, .refl _, hr⟩
theorem Rch.lt {st : List (Nat × Nat)} {n : Nat} (hs : ∀ p ∈ st, p.1 < n) {a b : Nat} (h : Rch st a b) (hb : b < n) : a < n := by
  cases h with
  | refl _ => exact hb
  | step e _ => exact hs _ e
theorem closesW_iff {st : List (Nat × Nat)} {l : List Nat} : closes st l = true ↔ ∀ a b, (a, b) ∈ st → b ∈ l → a ∈ l := by
  unfold closes
  rw [List.all_eq_true]
  constructor
  · intro h a b hab hb
    have := h (a, b) hab
    simpa [hb] using this
  · rintro h ⟨a, b⟩ hp
    by_cases hb : b ∈ l
    · simp [h a b hp hb]
    · simp [hb]
theorem closes_rch {st : List (Nat × Nat)} {l : List Nat} : closes st l = true ↔ ∀ a b, Rch st a b → b ∈ l → a ∈ l := by
  rw [closesW_iff]
  constructor
  · intro h a b hr
    induction hr with
    | refl _ => exact id
    | step e _ ih => exact fun hc => h _ _ e (ih hc)
  · exact fun h a b hab => h a b (.one hab)
theorem lotsOf_congr {cs ds : List (List Nat)} (hm : manyOf cs = manyOf ds) (h : ∀ a b, Rch (stepsOf cs) a b ↔ Rch (stepsOf ds) a b) : lotsOf cs = lotsOf ds := by
  have : closes (stepsOf cs) = closes (stepsOf ds) := by
    funext l
    rw [Bool.eq_iff_iff, closes_rch, closes_rch]
    exact ⟨fun k a b hr => k a b ((h a b).mpr hr), fun k a b hr => k a b ((h a b).mp hr)⟩
  unfold lotsOf
  rw [this, hm]
/-! ### all lots -/
theorem filter_allLots (p : Nat → Bool) : ∀ n, (List.range n).filter p ∈ allLots n
  | 0 => List.mem_singleton.mpr rfl
  | n + 1 => by
    have ih := filter_allLots p n
    rw [List.range_succ, List.filter_append]
    show _ ∈ allLots n ++ (allLots n).map (· ++ [n])
    rw [List.mem_append]
    cases h : p n
    · refine .inl ?_
      simpa [h] using ih
    · refine .inr (List.mem_map.mpr ⟨_, ih, ?_⟩)
      simp [h]
theorem allLots_up : ∀ {n : Nat} {l : List Nat}, l ∈ allLots n → l.Pairwise (· < ·)
  | 0, l, h => by
    have : l = [] := by simpa [allLots] using h
    subst this
    exact .nil
  | n + 1, l, h => by
    rcases List.mem_append.mp h with h | h
    · exact allLots_up h
    · obtain ⟨m, h1, rfl⟩ := List.mem_map.mp h
      rw [List.pairwise_append]
      refine ⟨allLots_up h1, List.pairwise_singleton .., fun a ha b hb => ?_⟩
      rw [List.mem_singleton.mp hb]
      exact allLots_lt h1 a ha
theorem allLots_nodup : ∀ n, (allLots n).Nodup
  | 0 => by unfold allLots; simp
  | n + 1 => by
    show List.Nodup (allLots n ++ (allLots n).map (· ++ [n]))
    rw [List.nodup_append]
    refine ⟨allLots_nodup n, ?_, fun a ha b hb e => ?_⟩
    · show List.Pairwise _ _
      rw [List.pairwise_map]
      exact (allLots_nodup n).imp fun {a b} hab e => hab (List.append_cancel_right e)
    · obtain ⟨m, _, rfl⟩ := List.mem_map.mp hb
      have := allLots_lt ha n (by rw [e]; exact List.mem_append_right _ (List.mem_singleton.mpr rfl))
      omega
end WF

/-! ## text M5 -/
namespace WF
open PySem PySem.Spec PyProof.Rows L2
/-! ### lots and where the threads lead -/
noncomputable def lead (st : List (Nat × Nat)) (a b : Nat) : Bool := @decide (Rch st a b) (Classical.propDecidable _)
theorem lead_iff {st : List (Nat × Nat)} {a b : Nat} : lead st a b = true ↔ Rch st a b := by
  unfold lead
  exact @decide_eq_true_iff _ (Classical.propDecidable _)
structure Ctx (R M : Nat) (st : List (Nat × Nat)) (ls : List (List Nat)) : Prop where
  bi : ∀ p ∈ st, p.1 < R + M ∧ p.2 < R + M ∧ ((p.1 < R ∧ R ≤ p.2) ∨ (p.2 < R ∧ R ≤ p.1))
  ah : ∀ t, t < R + M → (aheadOf ls (R + M)).getD t [] = (List.range (R + M)).filter fun o => lead st o t
theorem ctx_of {cs ls : List (List Nat)} (g : Good cs) (h : ls.Perm (lotsOf cs)) : Ctx cs.length (colsOf cs) (stepsOf cs) ls := by
  refine ⟨fun p hp => stepsOf_lt g hp, fun t ht => ?_⟩
  have hm : ∀ l, l ∈ ls ↔ l ∈ allLots (cs.length + colsOf cs) ∧ closes (stepsOf cs) l = true := fun l => by
    rw [h.mem_iff]
    unfold lotsOf
    rw [List.mem_mergeSort, List.mem_filter]
    rfl
  unfold aheadOf
  rw [List.getD_eq_getElem?_getD, List.getElem?_map, List.getElem?_range ht]
  show (List.range _).filter _ = _
  refine List.filter_congr fun o ho => ?_
  rw [Bool.eq_iff_iff, List.all_eq_true, lead_iff]
  constructor
  · intro k
    have := k ((List.range (cs.length + colsOf cs)).filter fun x => lead (stepsOf cs) x t) (List.mem_filter.mpr ⟨(hm _).mpr ⟨filter_allLots _ _, closes_rch.mpr fun a b hr hb => ?_⟩, decide_eq_true (List.mem_filter.mpr ⟨List.mem_range.mpr ht, lead_iff.mpr (.refl _)⟩)⟩)
    · exact lead_iff.mp (List.mem_filter.mp (of_decide_eq_true this)).2
    · obtain ⟨h1, h2⟩ := List.mem_filter.mp hb
      exact List.mem_filter.mpr ⟨List.mem_range.mpr (hr.lt (fun p hp => (stepsOf_lt g hp).1) (List.mem_range.mp h1)), lead_iff.mpr (hr.trans (lead_iff.mp h2))⟩
  · intro hr l hl
    obtain ⟨h1, h2⟩ := List.mem_filter.mp hl
    exact decide_eq_true (closes_rch.mp ((hm l).mp h1).2 o t hr (of_decide_eq_true h2))
section
variable {R M : Nat} {st : List (Nat × Nat)} {ls : List (List Nat)}
theorem Ctx.mem_ah (c : Ctx R M st ls) {t o : Nat} (ht : t < R + M) : o ∈ (aheadOf ls (R + M)).getD t [] ↔ Rch st o t := by
  rw [c.ah t ht, List.mem_filter, List.mem_range, lead_iff]
  exact ⟨fun h => h.2, fun h => ⟨h.lt (fun p hp => (c.bi p hp).1) ht, h⟩⟩
theorem Ctx.lt (c : Ctx R M st ls) {a b : Nat} (h : Rch st a b) (hb : b < R + M) : a < R + M := h.lt (fun p hp => (c.bi p hp).1) hb
theorem Ctx.part (c : Ctx R M st ls) {j : Nat} (hj : j < R + M) : partOf (aheadOf ls (R + M)) j = (List.range (R + M)).filter fun x => lead st x j && lead st j x := by
  unfold partOf
  rw [c.ah j hj, List.filter_filter]
  refine List.filter_congr fun x hx => ?_
  have hx := List.mem_range.mp hx
  have : decide (j ∈ (aheadOf ls (R + M)).getD x []) = lead st j x := by
    rw [Bool.eq_iff_iff, decide_eq_true_iff, c.mem_ah hx, lead_iff]
  rw [this, Bool.and_comm]
theorem Ctx.mem_part (c : Ctx R M st ls) {j x : Nat} (hj : j < R + M) : x ∈ partOf (aheadOf ls (R + M)) j ↔ Rch st x j ∧ Rch st j x := by
  rw [c.part hj, List.mem_filter, List.mem_range, Bool.and_eq_true, lead_iff, lead_iff]
  exact ⟨fun h => h.2, fun h => ⟨c.lt h.1 hj, h⟩⟩
theorem Ctx.part_congr (c : Ctx R M st ls) {i j : Nat} (hj : j < R + M) (h1 : Rch st i j) (h2 : Rch st j i) : partOf (aheadOf ls (R + M)) i = partOf (aheadOf ls (R + M)) j := by
  rw [c.part hj, c.part (c.lt h1 hj)]
  refine List.filter_congr fun x _ => ?_
  rw [Bool.eq_iff_iff, Bool.and_eq_true, Bool.and_eq_true, lead_iff, lead_iff, lead_iff, lead_iff]
  exact ⟨fun h => ⟨h.1.trans h1, h2.trans h.2⟩, fun h => ⟨h.1.trans h2, h1.trans h.2⟩⟩
theorem mem_parts {p : List Nat} : p ∈ partsBy (aheadOf ls (R + M)) ↔ ∃ j < R + M, p = partOf (aheadOf ls (R + M)) j := by
  rw [mem_partsBy, aheadOf_len]
theorem partsTo_nodup (ah : List (List Nat)) (i : Nat) : ((List.range i).foldl (fun ps one => addK ps (partOf ah one)) []).Nodup := by
  induction i with
  | zero => exact List.nodup_nil
  | succ i ih =>
    rw [List.range_succ, List.foldl_append]
    show (addK _ (partOf ah i)).Nodup
    unfold addK
    split
    · exact ih
    · rename_i h
      rw [List.nodup_append]
      refine ⟨ih, by simp, fun a ha b hb e => h ?_⟩
      rw [← List.mem_singleton.mp hb, ← e]
      exact ha
theorem parts_nodup (ah : List (List Nat)) : (partsBy ah).Nodup := (List.Perm.nodup_iff (List.mergeSort_perm _ _)).mpr (partsTo_nodup ah _)
variable {p q : List Nat}
theorem Ctx.part_lt (c : Ctx R M st ls) (hp : p ∈ partsBy (aheadOf ls (R + M))) {x : Nat} (hx : x ∈ p) : x < R + M := by
  obtain ⟨j, hj, rfl⟩ := mem_parts.mp hp
  exact c.lt ((c.mem_part hj).mp hx).1 hj
theorem Ctx.part_rch (c : Ctx R M st ls) (hp : p ∈ partsBy (aheadOf ls (R + M))) {x y : Nat} (hx : x ∈ p) (hy : y ∈ p) : Rch st x y := by
  obtain ⟨j, hj, rfl⟩ := mem_parts.mp hp
  exact ((c.mem_part hj).mp hx).1.trans ((c.mem_part hj).mp hy).2
theorem Ctx.part_in (c : Ctx R M st ls) (hp : p ∈ partsBy (aheadOf ls (R + M))) {x y : Nat} (hx : x ∈ p) (h1 : Rch st x y) (h2 : Rch st y x) : y ∈ p := by
  obtain ⟨j, hj, rfl⟩ := mem_parts.mp hp
  obtain ⟨h3, h4⟩ := (c.mem_part hj).mp hx
  exact (c.mem_part hj).mpr ⟨h2.trans h3, h4.trans h1⟩
theorem Ctx.part_eq (c : Ctx R M st ls) (hp : p ∈ partsBy (aheadOf ls (R + M))) {x : Nat} (hx : x ∈ p) : p = partOf (aheadOf ls (R + M)) x := by
  obtain ⟨j, hj, rfl⟩ := mem_parts.mp hp
  obtain ⟨h3, h4⟩ := (c.mem_part hj).mp hx
  exact (c.part_congr hj h3 h4).symm
theorem Ctx.part_same (c : Ctx R M st ls) (hp : p ∈ partsBy (aheadOf ls (R + M))) (hq : q ∈ partsBy (aheadOf ls (R + M))) {x : Nat} (hx : x ∈ p) (hy : x ∈ q) : p = q := (c.part_eq hp hx).trans (c.part_eq hq hy).symm
theorem Ctx.part_up (c : Ctx R M st ls) (hp : p ∈ partsBy (aheadOf ls (R + M))) : p.Pairwise (· < ·) := by
  obtain ⟨j, hj, rfl⟩ := mem_parts.mp hp
  rw [c.part hj]
  exact (List.pairwise_lt_range).filter _
theorem Ctx.part_self (c : Ctx R M st ls) {j : Nat} (hj : j < R + M) : j ∈ partOf (aheadOf ls (R + M)) j := (c.mem_part hj).mpr ⟨.refl _, .refl _⟩
theorem getD_mem {l : List Nat} {i : Nat} (h : i < l.length) : l.getD i 0 ∈ l := by
  rw [List.getD_eq_getElem?_getD, List.getElem?_eq_getElem h]
  exact List.getElem_mem h
theorem Ctx.part_head (c : Ctx R M st ls) (hp : p ∈ partsBy (aheadOf ls (R + M))) : p.getD 0 0 ∈ p := by
  obtain ⟨j, hj, rfl⟩ := mem_parts.mp hp
  exact getD_mem (List.length_pos_of_mem (c.part_self hj))
theorem Ctx.mem_under (c : Ctx R M st ls) (hp : p ∈ partsBy (aheadOf ls (R + M))) {o : List Nat} : o ∈ underOf (aheadOf ls (R + M)) (partsBy (aheadOf ls (R + M))) p ↔ o ∈ partsBy (aheadOf ls (R + M)) ∧ o ≠ p ∧ Rch st (o.getD 0 0) (p.getD 0 0) := by
  unfold underOf
  rw [List.mem_filter, Bool.and_eq_true, Bool.not_eq_true', decide_eq_false_iff_not, decide_eq_true_iff, c.mem_ah (c.part_lt hp (c.part_head hp))]
theorem Ctx.cover_iff (c : Ctx R M st ls) (hp : p ∈ partsBy (aheadOf ls (R + M))) {o : List Nat} : coverOf (aheadOf ls (R + M)) (underOf (aheadOf ls (R + M)) (partsBy (aheadOf ls (R + M))) p) o = true ↔
    ∀ z ∈ underOf (aheadOf ls (R + M)) (partsBy (aheadOf ls (R + M))) p, z ≠ o → ¬ Rch st (o.getD 0 0) (z.getD 0 0) := by
  unfold coverOf
  rw [Bool.not_eq_true', List.any_eq_false]
  constructor
  · intro h z hz ne hr
    refine h z (List.mem_filter.mpr ⟨hz, by simpa using ne⟩) ?_
    have hz' := ((c.mem_under hp).mp hz).1
    exact decide_eq_true ((c.mem_ah (c.part_lt hz' (c.part_head hz'))).mpr hr)
  · intro h z hz hd
    obtain ⟨h1, h2⟩ := List.mem_filter.mp hz
    have hz' := ((c.mem_under hp).mp h1).1
    exact h z h1 (by simpa using h2) ((c.mem_ah (c.part_lt hz' (c.part_head hz'))).mp (of_decide_eq_true hd))
/-- a covering pair of parts has a step -/
theorem Ctx.cover_step (c : Ctx R M st ls) (hp : p ∈ partsBy (aheadOf ls (R + M))) {o : List Nat} (ho : o ∈ underOf (aheadOf ls (R + M)) (partsBy (aheadOf ls (R + M))) p)
    (h : coverOf (aheadOf ls (R + M)) (underOf (aheadOf ls (R + M)) (partsBy (aheadOf ls (R + M))) p) o = true) : ∃ x y, (x, y) ∈ st ∧ x ∈ o ∧ y ∈ p := by
  obtain ⟨h1, h2, h3⟩ := (c.mem_under hp).mp ho
  have ph := c.part_head hp
  have oh := c.part_head h1
  obtain ⟨x, y, hs, hx, hy, r1, r2⟩ := h3.exit (S := fun v => v ∈ o) oh fun k => h2 (c.part_same h1 hp k ph)
  have yl : y < R + M := (c.bi _ hs).2.1
  refine ⟨x, y, hs, hx, ?_⟩
  apply Classical.byContradiction
  intro hyp
  have hq : partOf (aheadOf ls (R + M)) y ∈ partsBy (aheadOf ls (R + M)) := mem_parts.mpr ⟨y, yl, rfl⟩
  have ys := c.part_self yl
  have yh := c.part_head hq
  refine (c.cover_iff hp).mp h _ ((c.mem_under hp).mpr ⟨hq, fun e => hyp (by rw [← e]; exact ys), (c.part_rch hq yh ys).trans r2⟩) (fun e => hy (by rw [← e]; exact ys)) ?_
  exact (r1.trans (.one hs)).trans (c.part_rch hq ys yh)
theorem canStep_iff {R a b : Nat} : canStep R a b = true ↔ (a < R ∧ R ≤ b) ∨ (b < R ∧ R ≤ a) := by
  unfold canStep
  by_cases h1 : a < R <;> by_cases h2 : b < R <;> simp [h1, h2] <;> omega
theorem mem_between {o p : List Nat} {e : Nat × Nat} (h : e ∈ stepBetween R o p) : e.1 ∈ o ∧ e.2 ∈ p ∧ canStep R e.1 e.2 = true := by
  unfold stepBetween at h
  obtain ⟨f, hf, he⟩ := List.mem_flatMap.mp (List.mem_of_mem_take h)
  obtain ⟨s, hs, rfl⟩ := List.mem_map.mp he
  obtain ⟨h1, h2⟩ := List.mem_filter.mp hs
  exact ⟨hf, h1, h2⟩
theorem between_le {o p : List Nat} : (stepBetween R o p).length ≤ 1 := by
  unfold stepBetween
  rw [List.length_take]
  omega
theorem between_ne {o p : List Nat} {x y : Nat} (hx : x ∈ o) (hy : y ∈ p) (h : canStep R x y = true) : stepBetween R o p ≠ [] := by
  unfold stepBetween
  intro e
  have : ((o.flatMap fun f => (p.filter (canStep R f)).map fun s => (f, s))) = [] := by
    cases h' : (o.flatMap fun f => (p.filter (canStep R f)).map fun s => (f, s)) with
    | nil => rfl
    | cons a l => rw [h'] at e; simp at e
  have hm : (x, y) ∈ (o.flatMap fun f => (p.filter (canStep R f)).map fun s => (f, s)) := List.mem_flatMap.mpr ⟨x, hx, List.mem_map.mpr ⟨y, List.mem_filter.mpr ⟨hy, h⟩, rfl⟩⟩
  rw [this] at hm
  cases hm
theorem Ctx.cover_ne (c : Ctx R M st ls) (hp : p ∈ partsBy (aheadOf ls (R + M))) {o : List Nat} (ho : o ∈ underOf (aheadOf ls (R + M)) (partsBy (aheadOf ls (R + M))) p)
    (h : coverOf (aheadOf ls (R + M)) (underOf (aheadOf ls (R + M)) (partsBy (aheadOf ls (R + M))) p) o = true) : stepBetween R o p ≠ [] := by
  obtain ⟨x, y, hs, hx, hy⟩ := c.cover_step hp ho h
  exact between_ne hx hy (canStep_iff.mpr (c.bi _ hs).2.2)
/-! ### a part of more than one thread -/
theorem Ctx.part_out (c : Ctx R M st ls) (hp : p ∈ partsBy (aheadOf ls (R + M))) {x y : Nat} (hx : x ∈ p) (hy : y ∈ p) (ne : x ≠ y) : (∃ z ∈ p, (x, z) ∈ st) ∧ ∃ z ∈ p, (z, x) ∈ st := by
  have r1 := c.part_rch hp hx hy
  have r2 := c.part_rch hp hy hx
  obtain ⟨a, z, hs, ha, hz, r3, r4⟩ := r1.exit (S := fun v => v = x) rfl fun e => ne e.symm
  obtain ⟨b, d, ht, hb, hd, r5, r6⟩ := r2.exit (S := fun v => v ≠ x) (fun e => ne e.symm) (fun k => k rfl)
  have hd : d = x := Classical.byContradiction hd
  subst ha hd
  exact ⟨⟨z, c.part_in hp hx (.one hs) (r4.trans r2), hs⟩, ⟨b, c.part_in hp hx (r1.trans r5) (.one ht), ht⟩⟩
theorem Ctx.part_two (c : Ctx R M st ls) (hp : p ∈ partsBy (aheadOf ls (R + M))) (h : p.length ≠ 1) {x : Nat} (hx : x ∈ p) : ∃ y ∈ p, x ≠ y := by
  have hu := c.part_up hp
  match p, h, hx, hu with
  | [], _, hx, _ => cases hx
  | [a], h, _, _ => exact (h rfl).elim
  | a :: b :: l, _, hx, hu =>
    have hab : a < b := (List.pairwise_cons.mp hu).1 b (List.mem_cons_self ..)
    by_cases e : x = a
    · exact ⟨b, List.mem_cons_of_mem _ (List.mem_cons_self ..), by omega⟩
    · exact ⟨a, List.mem_cons_self .., e⟩
theorem Ctx.part_step (c : Ctx R M st ls) (hp : p ∈ partsBy (aheadOf ls (R + M))) (h : p.length ≠ 1) {x : Nat} (hx : x ∈ p) : (∃ z ∈ p, (x, z) ∈ st) ∧ ∃ z ∈ p, (z, x) ∈ st := by
  obtain ⟨y, hy, ne⟩ := c.part_two hp h hx
  exact c.part_out hp hx hy ne
theorem Ctx.part_both (c : Ctx R M st ls) (hp : p ∈ partsBy (aheadOf ls (R + M))) (h : p.length ≠ 1) : (∃ r ∈ p, r < R) ∧ ∃ k ∈ p, R ≤ k := by
  have hh := c.part_head hp
  obtain ⟨⟨z, hz, hs⟩, _⟩ := c.part_step hp h hh
  rcases (c.bi _ hs).2.2 with ⟨h1, h2⟩ | ⟨h1, h2⟩
  · exact ⟨⟨_, hh, h1⟩, ⟨z, hz, h2⟩⟩
  · exact ⟨⟨z, hz, h1⟩, ⟨_, hh, h2⟩⟩
end
end WF

/-! ## text M6 -/
namespace WF
open PySem PySem.Spec PyProof.Rows L2
/-! ### the ring of a part -/
section
variable {R M : Nat} {st : List (Nat × Nat)} {ls : List (List Nat)} {p : List Nat}
theorem mem_rows {x : Nat} : x ∈ rowsIn R p ↔ x ∈ p ∧ x < R := by unfold rowsIn; rw [List.mem_filter, decide_eq_true_iff]
theorem mem_cols {x : Nat} : x ∈ colsIn R p ↔ x ∈ p ∧ R ≤ x := by unfold colsIn; rw [List.mem_filter, decide_eq_true_iff]
/-- what stands in a ring -/
theorem mem_ring (h : p.length ≠ 1) {e : Nat × Nat} : e ∈ ringOf R p ↔
    (∃ a, a < min (rowsIn R p).length (colsIn R p).length ∧ (e = ((rowsIn R p).getD a 0, (colsIn R p).getD a 0) ∨ e = ((colsIn R p).getD a 0, (rowsIn R p).getD ((a + 1) % min (rowsIn R p).length (colsIn R p).length) 0))) ∨
    (∃ r ∈ (rowsIn R p).drop (min (rowsIn R p).length (colsIn R p).length), e = ((colsIn R p).getD 0 0, r) ∨ e = (r, (colsIn R p).getD 0 0)) ∨
    ∃ k ∈ (colsIn R p).drop (min (rowsIn R p).length (colsIn R p).length), e = ((rowsIn R p).getD 0 0, k) ∨ e = (k, (rowsIn R p).getD 0 0) := by
  unfold ringOf
  rw [if_neg h, List.mem_append, List.mem_append, List.mem_flatMap, List.mem_flatMap, List.mem_flatMap, or_assoc]
  refine or_congr ?_ (or_congr ?_ ?_)
  · constructor
    · rintro ⟨a, ha, he⟩
      refine ⟨a, List.mem_range.mp ha, ?_⟩
      unfold ringAt at he
      simpa using he
    · rintro ⟨a, ha, he⟩
      refine ⟨a, List.mem_range.mpr ha, ?_⟩
      unfold ringAt
      simpa using he
  · simp
  · simp
theorem ring_in (h : p.length ≠ 1) (hr : rowsIn R p ≠ []) (hc : colsIn R p ≠ []) {e : Nat × Nat} (he : e ∈ ringOf R p) : e.1 ∈ p ∧ e.2 ∈ p ∧ canStep R e.1 e.2 = true := by
  have r0 := List.length_pos_iff.mpr hr
  have c0 := List.length_pos_iff.mpr hc
  have key : (e.1 ∈ rowsIn R p ∧ e.2 ∈ colsIn R p) ∨ (e.2 ∈ rowsIn R p ∧ e.1 ∈ colsIn R p) := by
    rcases (mem_ring h).mp he with ⟨a, ha, rfl | rfl⟩ | ⟨r, hr, rfl | rfl⟩ | ⟨k, hk, rfl | rfl⟩
    · exact .inl ⟨getD_mem (by omega), getD_mem (by omega)⟩
    · exact .inr ⟨getD_mem (by have := Nat.mod_lt (a + 1) (y := min (rowsIn R p).length (colsIn R p).length) (by omega); show (a + 1) % _ < _; omega), getD_mem (by omega)⟩
    · exact .inr ⟨List.mem_of_mem_drop hr, getD_mem c0⟩
    · exact .inl ⟨List.mem_of_mem_drop hr, getD_mem c0⟩
    · exact .inl ⟨getD_mem r0, List.mem_of_mem_drop hk⟩
    · exact .inr ⟨getD_mem r0, List.mem_of_mem_drop hk⟩
  rcases key with ⟨h1, h2⟩ | ⟨h1, h2⟩
  · rw [mem_rows] at h1
    rw [mem_cols] at h2
    exact ⟨h1.1, h2.1, canStep_iff.mpr (.inl ⟨h1.2, h2.2⟩)⟩
  · rw [mem_rows] at h1
    rw [mem_cols] at h2
    exact ⟨h2.1, h1.1, canStep_iff.mpr (.inr ⟨h1.2, h2.2⟩)⟩
theorem ring_rch (h : p.length ≠ 1) (hr : rowsIn R p ≠ []) (hc : colsIn R p ≠ []) {x y : Nat} (hx : x ∈ p) (hy : y ∈ p) : Rch (ringOf R p) x y := by
  have r0 := List.length_pos_iff.mpr hr
  have c0 := List.length_pos_iff.mpr hc
  obtain ⟨m, hm⟩ : ∃ m, m = min (rowsIn R p).length (colsIn R p).length := ⟨_, rfl⟩
  have e1 : ∀ a, a < m → Rch (ringOf R p) ((rowsIn R p).getD a 0) ((colsIn R p).getD a 0) := fun a ha => .one ((mem_ring h).mpr (.inl ⟨a, by omega, .inl rfl⟩))
  have e2 : ∀ a, a < m → Rch (ringOf R p) ((colsIn R p).getD a 0) ((rowsIn R p).getD ((a + 1) % m) 0) := fun a ha => .one ((mem_ring h).mpr (.inl ⟨a, by omega, .inr (by rw [hm])⟩))
  -- from the hub
  have f1 : ∀ a, a < m → Rch (ringOf R p) ((rowsIn R p).getD 0 0) ((rowsIn R p).getD a 0) := by
    intro a
    induction a with
    | zero => exact fun _ => .refl _
    | succ a ih =>
      intro ha
      have := (ih (by omega)).trans ((e1 a (by omega)).trans (e2 a (by omega)))
      rwa [Nat.mod_eq_of_lt ha] at this
  have f2 : ∀ a, a < m → Rch (ringOf R p) ((rowsIn R p).getD 0 0) ((colsIn R p).getD a 0) := fun a ha => (f1 a ha).trans (e1 a ha)
  -- to the hub
  have b1 : ∀ d a, a < m → m - a ≤ d → Rch (ringOf R p) ((rowsIn R p).getD a 0) ((rowsIn R p).getD 0 0) := by
    intro d
    induction d with
    | zero => exact fun a h1 h2 => by omega
    | succ d ih =>
      intro a h1 h2
      have := (e1 a h1).trans (e2 a h1)
      by_cases hz : a + 1 < m
      · rw [Nat.mod_eq_of_lt hz] at this
        exact this.trans (ih (a + 1) hz (by omega))
      · have e : a + 1 = m := by omega
        rw [e, Nat.mod_self] at this
        exact this
  have b2 : ∀ a, a < m → Rch (ringOf R p) ((colsIn R p).getD a 0) ((rowsIn R p).getD 0 0) := fun a ha => (e2 a ha).trans (b1 m _ (Nat.mod_lt _ (by omega)) (by omega))
  have key : ∀ z ∈ p, Rch (ringOf R p) ((rowsIn R p).getD 0 0) z ∧ Rch (ringOf R p) z ((rowsIn R p).getD 0 0) := by
    intro z hz
    have at_ : ∀ {l : List Nat}, z ∈ l → ∃ i, i < l.length ∧ l.getD i 0 = z := fun {l} hl => by
      obtain ⟨i, hi, e⟩ := List.mem_iff_getElem.mp hl
      refine ⟨i, hi, ?_⟩
      rw [List.getD_eq_getElem?_getD, List.getElem?_eq_getElem hi]
      exact e
    have dr : ∀ {l : List Nat} {i : Nat}, i < l.length → m ≤ i → l.getD i 0 ∈ l.drop m := fun {l i} hi hmi => by
      rw [List.getD_eq_getElem?_getD, List.getElem?_eq_getElem hi, Option.getD_some]
      refine List.mem_iff_getElem.mpr ⟨i - m, by rw [List.length_drop]; omega, ?_⟩
      rw [List.getElem_drop]
      congr 1
      omega
    by_cases hl : z < R
    · obtain ⟨i, hi, e⟩ := at_ (mem_rows.mpr ⟨hz, hl⟩)
      by_cases him : i < m
      · rw [← e]
        exact ⟨f1 i him, b1 m i him (by omega)⟩
      · have hd := dr hi (by omega)
        rw [e, hm] at hd
        exact ⟨(f2 0 (by omega)).trans (.one ((mem_ring h).mpr (.inr (.inl ⟨z, hd, .inl rfl⟩)))), (Rch.one ((mem_ring h).mpr (.inr (.inl ⟨z, hd, .inr rfl⟩)))).trans (b2 0 (by omega))⟩
    · obtain ⟨i, hi, e⟩ := at_ (mem_cols.mpr ⟨hz, Nat.le_of_not_lt hl⟩)
      by_cases him : i < m
      · rw [← e]
        exact ⟨f2 i him, b2 i him⟩
      · have hd := dr hi (by omega)
        rw [e, hm] at hd
        exact ⟨.one ((mem_ring h).mpr (.inr (.inr ⟨z, hd, .inl rfl⟩))), .one ((mem_ring h).mpr (.inr (.inr ⟨z, hd, .inr rfl⟩)))⟩
  exact (key x hx).2.trans (key y hy).1
theorem flat_two {α β : Type} {f : α → List β} (hf : ∀ x, (f x).length = 2) : ∀ xs : List α, (xs.flatMap f).length = 2 * xs.length
  | [] => rfl
  | x :: xs => by
    rw [List.flatMap_cons, List.length_append, flat_two hf xs, hf, List.length_cons]
    omega
theorem ring_len (h : p.length ≠ 1) : (ringOf R p).length = 2 * max (rowsIn R p).length (colsIn R p).length := by
  unfold ringOf
  rw [if_neg h, List.length_append, List.length_append, flat_two (fun _ => rfl), flat_two (fun _ => rfl), flat_two (fun _ => rfl), List.length_range, List.length_drop, List.length_drop]
  omega
theorem ring_nil (h : p.length = 1) : ringOf R p = [] := by unfold ringOf; rw [if_pos h]
/-- at least so many steps lie within a part -/
theorem sum_two (xs : List Nat) : (xs.map fun _ => 2).sum = 2 * xs.length := by
  induction xs with
  | nil => rfl
  | cons x xs ih => rw [List.map_cons, List.sum_cons, ih, List.length_cons]; omega
theorem Ctx.ring_le (c : Ctx R M st ls) (hp : p ∈ partsBy (aheadOf ls (R + M))) : (ringOf R p).length ≤ (st.filter fun e => decide (e.1 ∈ p) && decide (e.2 ∈ p)).length := by
  by_cases h : p.length = 1
  · rw [ring_nil h]
    exact Nat.zero_le _
  rw [ring_len h]
  have half : ∀ xs : List Nat, xs.Nodup → (∀ x ∈ xs, x ∈ p) → ((∀ x ∈ xs, x < R) ∨ ∀ x ∈ xs, R ≤ x) → 2 * xs.length ≤ (st.filter fun e => decide (e.1 ∈ p) && decide (e.2 ∈ p)).length := by
    intro xs hn hs hk
    have side : ∀ {x y : Nat}, x ∈ xs → y ∈ xs → ¬ ((x < R ∧ R ≤ y) ∨ (y < R ∧ R ≤ x)) := fun {x y} hx hy => by
      rcases hk with hk | hk
      · have := hk x hx
        have := hk y hy
        omega
      · have := hk x hx
        have := hk y hy
        omega
    have := filter_sum (P := fun (x : Nat) (e : Nat × Nat) => decide (e.1 = x) || decide (e.2 = x)) (k := fun _ => 2) (E := st.filter fun e => decide (e.1 ∈ p) && decide (e.2 ∈ p)) xs ?_ ?_
    · rw [sum_two] at this
      exact Nat.le_trans this (List.length_filter_le _ _)
    · have hn2 : xs.Pairwise fun a b => a ≠ b ∧ a ∈ xs ∧ b ∈ xs := by
        rw [List.pairwise_iff_forall_sublist]
        intro a b hab
        exact ⟨(List.pairwise_iff_forall_sublist.mp hn) hab, hab.subset (List.mem_cons_self ..), hab.subset (List.mem_cons_of_mem _ (List.mem_singleton.mpr rfl))⟩
      refine hn2.imp fun {a b} hab e he h1 h2 => ?_
      obtain ⟨ne, ha, hb⟩ := hab
      have hb3 := (c.bi e (List.mem_filter.mp he).1).2.2
      rw [Bool.or_eq_true, decide_eq_true_iff, decide_eq_true_iff] at h1 h2
      rcases h1 with h1 | h1 <;> rcases h2 with h2 | h2
      · exact ne (h1.symm.trans h2)
      · rw [h1, h2] at hb3
        exact side ha hb hb3
      · rw [h1, h2] at hb3
        exact side hb ha hb3
      · exact ne (h1.symm.trans h2)
    · intro x hx
      have hxp := hs x hx
      obtain ⟨⟨z, hz, s1⟩, ⟨y, hy, s2⟩⟩ := c.part_step hp h hxp
      have b1 := (c.bi _ s1).2.2
      refine two_le (a := (x, z)) (b := (y, x)) ?_ ?_ ?_
      · exact List.mem_filter.mpr ⟨List.mem_filter.mpr ⟨s1, by simp [hxp, hz]⟩, by simp⟩
      · exact List.mem_filter.mpr ⟨List.mem_filter.mpr ⟨s2, by simp [hxp, hy]⟩, by simp⟩
      · intro e
        rw [Prod.mk.injEq] at e
        dsimp only at b1
        omega
  have nd : p.Nodup := (c.part_up hp).imp fun h => Nat.ne_of_lt h
  have h1 := half (rowsIn R p) (nd.sublist List.filter_sublist) (fun x hx => (mem_rows.mp hx).1) (.inl fun x hx => (mem_rows.mp hx).2)
  have h2 := half (colsIn R p) (nd.sublist List.filter_sublist) (fun x hx => (mem_cols.mp hx).1) (.inr fun x hx => (mem_cols.mp hx).2)
  omega
end
end WF

/-! ## text M7 -/
namespace WF
open PySem PySem.Spec PyProof.Rows L2
/-! ### the needed steps -/
section
variable {R M : Nat} {st : List (Nat × Nat)} {ls : List (List Nat)}
theorem mem_needed {e : Nat × Nat} : e ∈ neededSteps R M ls ↔ (∃ p ∈ partsBy (aheadOf ls (R + M)), e ∈ ringOf R p) ∨
    ∃ p ∈ partsBy (aheadOf ls (R + M)), ∃ o ∈ underOf (aheadOf ls (R + M)) (partsBy (aheadOf ls (R + M))) p, coverOf (aheadOf ls (R + M)) (underOf (aheadOf ls (R + M)) (partsBy (aheadOf ls (R + M))) p) o = true ∧ e ∈ stepBetween R o p := by
  unfold neededSteps
  rw [List.mem_append, List.mem_flatMap, List.mem_flatMap]
  refine or_congr Iff.rfl ⟨?_, ?_⟩
  · rintro ⟨p, hp, h⟩
    obtain ⟨o, ho, h⟩ := List.mem_flatMap.mp h
    split at h
    · rename_i hc
      exact ⟨p, hp, o, ho, hc, h⟩
    · cases h
  · rintro ⟨p, hp, o, ho, hc, h⟩
    refine ⟨p, hp, List.mem_flatMap.mpr ⟨o, ho, ?_⟩⟩
    rw [if_pos hc]
    exact h
theorem Ctx.ring_ok (c : Ctx R M st ls) {p : List Nat} (hp : p ∈ partsBy (aheadOf ls (R + M))) (h : p.length ≠ 1) : rowsIn R p ≠ [] ∧ colsIn R p ≠ [] := by
  obtain ⟨⟨r, hr, r1⟩, ⟨k, hk, k1⟩⟩ := c.part_both hp h
  exact ⟨List.ne_nil_of_mem (mem_rows.mpr ⟨hr, r1⟩), List.ne_nil_of_mem (mem_cols.mpr ⟨hk, k1⟩)⟩
/-- each needed step leads where the board leads, and can be a step -/
theorem Ctx.needed_sound (c : Ctx R M st ls) {e : Nat × Nat} (he : e ∈ neededSteps R M ls) : Rch st e.1 e.2 ∧ e.1 < R + M ∧ e.2 < R + M ∧ canStep R e.1 e.2 = true := by
  rcases mem_needed.mp he with ⟨p, hp, h⟩ | ⟨p, hp, o, ho, _, h⟩
  · by_cases h1 : p.length = 1
    · rw [ring_nil h1] at h
      cases h
    · obtain ⟨h2, h3⟩ := c.ring_ok hp h1
      obtain ⟨h4, h5, h6⟩ := ring_in h1 h2 h3 h
      exact ⟨c.part_rch hp h4 h5, c.part_lt hp h4, c.part_lt hp h5, h6⟩
  · obtain ⟨h1, h2, h3⟩ := mem_between h
    obtain ⟨h4, h5, h6⟩ := (c.mem_under hp).mp ho
    exact ⟨((c.part_rch h4 h1 (c.part_head h4)).trans h6).trans (c.part_rch hp (c.part_head hp) h2), c.part_lt h4 h1, c.part_lt hp h2, h3⟩
theorem Ctx.needed_part (c : Ctx R M st ls) {p : List Nat} (hp : p ∈ partsBy (aheadOf ls (R + M))) {x y : Nat} (hx : x ∈ p) (hy : y ∈ p) : Rch (neededSteps R M ls) x y := by
  by_cases h1 : p.length = 1
  · obtain ⟨a, rfl⟩ := List.length_eq_one_iff.mp h1
    rw [List.mem_singleton.mp hx, List.mem_singleton.mp hy]
    exact .refl _
  · obtain ⟨h2, h3⟩ := c.ring_ok hp h1
    exact (ring_rch h1 h2 h3 hx hy).of fun e he => .one (mem_needed.mpr (.inl ⟨p, hp, he⟩))
theorem Ctx.needed_all (c : Ctx R M st ls) : ∀ k a b, b < R + M → Rch st a b → ((List.range (R + M)).filter fun x => lead st a x && lead st x b).length ≤ k → Rch (neededSteps R M ls) a b := by
  intro k
  induction k with
  | zero =>
    intro a b hb hr hk
    have hb' : b ∈ (List.range (R + M)).filter fun x => lead st a x && lead st x b := List.mem_filter.mpr ⟨List.mem_range.mpr hb, by rw [Bool.and_eq_true, lead_iff, lead_iff]; exact ⟨hr, .refl _⟩⟩
    have := List.length_pos_of_mem hb'
    omega
  | succ k ih =>
    intro a b hb hr hk
    have ha := c.lt hr hb
    have hp : partOf (aheadOf ls (R + M)) a ∈ partsBy (aheadOf ls (R + M)) := mem_parts.mpr ⟨a, ha, rfl⟩
    have hq : partOf (aheadOf ls (R + M)) b ∈ partsBy (aheadOf ls (R + M)) := mem_parts.mpr ⟨b, hb, rfl⟩
    have ap := c.part_self ha
    have bq := c.part_self hb
    generalize partOf (aheadOf ls (R + M)) a = p at hp ap
    generalize partOf (aheadOf ls (R + M)) b = q at hq bq
    by_cases e : p = q
    · subst e
      exact c.needed_part hp ap bq
    have ph := c.part_head hp
    have qh := c.part_head hq
    have hu : p ∈ underOf (aheadOf ls (R + M)) (partsBy (aheadOf ls (R + M))) q := (c.mem_under hq).mpr ⟨hp, e, ((c.part_rch hp ph ap).trans hr).trans (c.part_rch hq bq qh)⟩
    by_cases hc : coverOf (aheadOf ls (R + M)) (underOf (aheadOf ls (R + M)) (partsBy (aheadOf ls (R + M))) q) p = true
    · obtain ⟨s, hs⟩ := List.exists_mem_of_ne_nil _ (c.cover_ne hq hu hc)
      obtain ⟨h1, h2, _⟩ := mem_between hs
      exact (c.needed_part hp ap h1).trans (.step (mem_needed.mpr (.inr ⟨q, hq, p, hu, hc, hs⟩)) (c.needed_part hq h2 bq))
    · have : ∃ z ∈ underOf (aheadOf ls (R + M)) (partsBy (aheadOf ls (R + M))) q, z ≠ p ∧ Rch st (p.getD 0 0) (z.getD 0 0) := by
        apply Classical.byContradiction
        intro hn
        exact hc ((c.cover_iff hq).mpr fun z hz ne hr => hn ⟨z, hz, ne, hr⟩)
      obtain ⟨z, hz, ne, hpz⟩ := this
      obtain ⟨z1, z2, z3⟩ := (c.mem_under hq).mp hz
      have zh := c.part_head z1
      generalize z.getD 0 0 = v at hpz z3 zh
      have r1 : Rch st a v := (c.part_rch hp ap ph).trans hpz
      have r2 : Rch st v b := z3.trans (c.part_rch hq qh bq)
      have hv := c.part_lt z1 zh
      have n1 : ¬ Rch st v a := fun h => ne (c.part_same z1 hp zh (c.part_in hp ap r1 h))
      have n2 : ¬ Rch st b v := fun h => z2 (c.part_same z1 hq zh (c.part_in hq bq h r2))
      refine (ih a v hv r1 ?_).trans (ih v b hb r2 ?_)
      · refine Nat.le_of_lt_succ (Nat.lt_of_lt_of_le (filter_lt (x := b) _ (fun x _ h => ?_) (List.mem_range.mpr hb) ?_ ?_) hk)
        · rw [Bool.and_eq_true, lead_iff, lead_iff] at h ⊢
          exact ⟨h.1, h.2.trans r2⟩
        · rw [Bool.and_eq_false_iff]
          refine .inr ?_
          rw [Bool.eq_false_iff]
          exact fun h => n2 (lead_iff.mp h)
        · rw [Bool.and_eq_true, lead_iff, lead_iff]
          exact ⟨hr, .refl _⟩
      · refine Nat.le_of_lt_succ (Nat.lt_of_lt_of_le (filter_lt (x := a) _ (fun x _ h => ?_) (List.mem_range.mpr ha) ?_ ?_) hk)
        · rw [Bool.and_eq_true, lead_iff, lead_iff] at h ⊢
          exact ⟨r1.trans h.1, h.2⟩
        · rw [Bool.and_eq_false_iff]
          refine .inl ?_
          rw [Bool.eq_false_iff]
          exact fun h => n1 (lead_iff.mp h)
        · rw [Bool.and_eq_true, lead_iff, lead_iff]
          exact ⟨.refl _, hr⟩
theorem Ctx.needed_rch (c : Ctx R M st ls) {a b : Nat} : Rch (neededSteps R M ls) a b ↔ Rch st a b :=
  ⟨fun h => h.of fun e he => (c.needed_sound he).1, fun h => h.of fun e he => c.needed_all _ _ _ (c.bi e he).2.1 (.one he) (Nat.le_refl _)⟩
/-- so many steps are needed -/
theorem Ctx.needed_le (c : Ctx R M st ls) : (neededSteps R M ls).length ≤ st.length := by
  obtain ⟨ps, hps⟩ : ∃ ps, ps = partsBy (aheadOf ls (R + M)) := ⟨_, rfl⟩
  obtain ⟨un, hun⟩ : ∃ un : List Nat → List (List Nat), un = underOf (aheadOf ls (R + M)) ps := ⟨_, rfl⟩
  have nd : ps.Nodup := hps ▸ parts_nodup _
  have pair : ∀ {xs : List (List Nat)}, xs.Nodup → (∀ x ∈ xs, x ∈ ps) → xs.Pairwise fun a b => a ∈ ps ∧ b ∈ ps ∧ a ≠ b := fun {xs} hn hs => by
    rw [List.pairwise_iff_forall_sublist]
    intro a b hab
    exact ⟨hs a (hab.subset (List.mem_cons_self ..)), hs b (hab.subset (List.mem_cons_of_mem _ (List.mem_singleton.mpr rfl))), (List.pairwise_iff_forall_sublist.mp hn) hab⟩
  have same : ∀ {p q : List Nat} {x : Nat}, p ∈ ps → q ∈ ps → x ∈ p → x ∈ q → p = q := fun hp hq => c.part_same (hps ▸ hp) (hps ▸ hq)
  have hunm : ∀ p ∈ ps, ∀ o ∈ un p, o ∈ ps ∧ o ≠ p := fun p hp o ho => by
    rw [hun, hps] at ho
    have := (c.mem_under (hps ▸ hp)).mp ho
    exact ⟨hps ▸ this.1, this.2.1⟩
  have hunn : ∀ p, (un p).Nodup := fun p => by rw [hun]; exact nd.sublist List.filter_sublist
  have s1 := filter_sum (P := fun (p : List Nat) (e : Nat × Nat) => decide (e.1 ∈ p) && decide (e.2 ∈ p)) (k := fun p => (ringOf R p).length) (E := st) ps ((pair nd fun _ h => h).imp fun {a b} hab e _ h1 h2 => by
    rw [Bool.and_eq_true, decide_eq_true_iff, decide_eq_true_iff] at h1 h2
    exact hab.2.2 (same hab.1 hab.2.1 h1.1 h2.1)) fun p hp => c.ring_le (hps ▸ hp)
  have s2 := filter_sum (P := fun (p : List Nat) (e : Nat × Nat) => decide (e.2 ∈ p) && (un p).any fun o => decide (e.1 ∈ o)) (k := fun p => ((un p).flatMap fun o => if coverOf (aheadOf ls (R + M)) (un p) o then stepBetween R o p else []).length) (E := st) ps
    ((pair nd fun _ h => h).imp fun {a b} hab e _ h1 h2 => by
      rw [Bool.and_eq_true, decide_eq_true_iff] at h1 h2
      exact hab.2.2 (same hab.1 hab.2.1 h1.1 h2.1)) fun p hp => by
    have := filter_sum (P := fun (o : List Nat) (e : Nat × Nat) => decide (e.1 ∈ o)) (k := fun o => (if coverOf (aheadOf ls (R + M)) (un p) o then stepBetween R o p else []).length) (E := st.filter fun e => decide (e.2 ∈ p)) (un p)
      ((pair (hunn p) fun o ho => (hunm p hp o ho).1).imp fun {a b} hab e _ h1 h2 => by
        rw [decide_eq_true_iff] at h1 h2
        exact hab.2.2 (same hab.1 hab.2.1 h1 h2)) fun o ho => by
      split
      · rename_i hc
        rw [hun, hps] at ho hc
        obtain ⟨x, y, hs, hx, hy⟩ := c.cover_step (hps ▸ hp) ho hc
        exact Nat.le_trans between_le (one_le (a := (x, y)) (List.mem_filter.mpr ⟨List.mem_filter.mpr ⟨hs, decide_eq_true hy⟩, decide_eq_true hx⟩))
      · exact Nat.zero_le _
    rw [List.length_flatMap]
    refine Nat.le_trans this ?_
    rw [List.filter_filter]
    exact filter_le _ fun e _ h => by
      rw [Bool.and_eq_true] at h ⊢
      exact h.symm
  have s3 := filter_two (A := fun e => ps.any fun p => decide (e.1 ∈ p) && decide (e.2 ∈ p)) (B := fun e => ps.any fun p => decide (e.2 ∈ p) && (un p).any fun o => decide (e.1 ∈ o)) st fun e _ h1 h2 => by
    obtain ⟨p, hp, h1⟩ := List.any_eq_true.mp h1
    obtain ⟨q, hq, h2⟩ := List.any_eq_true.mp h2
    rw [Bool.and_eq_true, decide_eq_true_iff] at h1 h2
    obtain ⟨o, ho, h3⟩ := List.any_eq_true.mp h2.2
    have h3 := of_decide_eq_true h3
    have h1' := of_decide_eq_true h1.2
    obtain ⟨o1, o2⟩ := hunm q hq o ho
    exact o2 ((same o1 hp h3 h1.1).trans (same hp hq h1' h2.1))
  have s4 := List.length_filter_le (fun e => (ps.any fun p => decide (e.1 ∈ p) && decide (e.2 ∈ p)) || ps.any fun p => decide (e.2 ∈ p) && (un p).any fun o => decide (e.1 ∈ o)) st
  unfold neededSteps
  rw [← hps, ← hun, List.length_append, List.length_flatMap, List.length_flatMap]
  omega
end
/-! ### the board built from them -/
theorem signOf_out (a b : Bool) : (signOf a b ∈ [62, 120] ↔ a = true) ∧ (signOf a b ∈ [60, 120] ↔ b = true) := by cases a <;> cases b <;> decide
theorem built_cell {R C : Nat} {st : List (Nat × Nat)} {i j : Nat} (hi : i < R) (hj : j < C) : cellOf (boardOfSteps R C st) i j = signOf (decide ((i, R + j) ∈ st)) (decide ((R + j, i) ∈ st)) := by
  unfold cellOf boardOfSteps
  rw [List.getD_eq_getElem?_getD (l := List.map _ _), List.getElem?_map, List.getElem?_range hi]
  show List.getD (List.map _ _) j 0 = _
  rw [List.getD_eq_getElem?_getD, List.getElem?_map, List.getElem?_range hj]
  rfl
theorem mem_built {R C : Nat} {st : List (Nat × Nat)} (g : Good (boardOfSteps R C st)) (hR : (boardOfSteps R C st).length = R) (hC : colsOf (boardOfSteps R C st) = C) (q : Nat × Nat) :
    q ∈ stepsOf (boardOfSteps R C st) ↔ q ∈ st ∧ q.1 < R + C ∧ q.2 < R + C ∧ canStep R q.1 q.2 = true := by
  rw [mem_stepsOf g, hR, hC]
  constructor
  · rintro ⟨i, j, hi, hj, h⟩
    rw [built_cell hi hj, (signOf_out _ _).1, (signOf_out _ _).2, decide_eq_true_iff, decide_eq_true_iff] at h
    rcases h with ⟨h, rfl⟩ | ⟨h, rfl⟩
    · exact ⟨h, by show i < _; omega, by show R + j < _; omega, canStep_iff.mpr (.inl ⟨hi, Nat.le_add_right _ _⟩)⟩
    · exact ⟨h, by show R + j < _; omega, by show i < _; omega, canStep_iff.mpr (.inr ⟨hi, Nat.le_add_right _ _⟩)⟩
  · rintro ⟨h, h1, h2, h3⟩
    obtain ⟨a, b⟩ := q
    dsimp only at h1 h2 h3
    rcases canStep_iff.mp h3 with ⟨h4, h5⟩ | ⟨h4, h5⟩
    · have e : R + (b - R) = b := by omega
      refine ⟨a, b - R, h4, by omega, .inl ⟨?_, by rw [e]⟩⟩
      rw [built_cell h4 (by omega), (signOf_out _ _).1, decide_eq_true_iff, e]
      exact h
    · have e : R + (a - R) = a := by omega
      refine ⟨b, a - R, h4, by omega, .inr ⟨?_, by rw [e]⟩⟩
      rw [built_cell h4 (by omega), (signOf_out _ _).2, decide_eq_true_iff, e]
      exact h
/-! ### the search leads only where the steps lead -/
theorem dfsFold_sound {st st' : List (Nat × Nat)} {t here : Nat} (hh : Rch st t here) : ∀ {xs : List (Nat × Nat)} {s : List Nat × List Nat}, (∀ p ∈ xs, p ∈ st) → (∀ x ∈ s.1, Rch st t x) → (∀ x ∈ s.2, Rch st t x) →
    (∀ x ∈ (xs.foldl (dfsAdd here) s).1, Rch st t x) ∧ ∀ x ∈ (xs.foldl (dfsAdd here) s).2, Rch st t x
  | [], _, _, h1, h2 => ⟨h1, h2⟩
  | p :: xs, s, hs, h1, h2 => by
    rw [List.foldl_cons]
    have hp := hs p (List.mem_cons_self ..)
    have h3 : (∀ x ∈ (dfsAdd here s p).1, Rch st t x) ∧ ∀ x ∈ (dfsAdd here s p).2, Rch st t x := by
      unfold dfsAdd
      split
      · rename_i hc
        have hr : Rch st t p.2 := hh.trans (.one (by rw [← hc.1]; exact hp))
        constructor <;> intro x hx <;> rcases List.mem_append.mp hx with hx | hx
        · exact h1 x hx
        · rw [List.mem_singleton.mp hx]; exact hr
        · exact h2 x hx
        · rw [List.mem_singleton.mp hx]; exact hr
      · exact ⟨h1, h2⟩
    exact dfsFold_sound (st' := st') hh (fun q hq => hs q (List.mem_cons_of_mem _ hq)) h3.1 h3.2
theorem dfsAt_sound {st : List (Nat × Nat)} {t : Nat} : ∀ i, (∀ x ∈ (dfsAt st t i).1, Rch st t x) ∧ ∀ x ∈ (dfsAt st t i).2, Rch st t x
  | 0 => by
    constructor <;> intro x hx <;> rw [List.mem_singleton.mp hx] <;> exact .refl _
  | i + 1 => by
    obtain ⟨h1, h2⟩ := dfsAt_sound (st := st) (t := t) i
    show (∀ x ∈ (dfsTurn st (dfsAt st t i)).1, _) ∧ ∀ x ∈ (dfsTurn st (dfsAt st t i)).2, _
    unfold dfsTurn
    split
    · exact ⟨h1, h2⟩
    · rename_i hne
      refine dfsFold_sound (st' := st) (h2 _ ?_) (fun _ h => h) h1 fun x hx => h2 x (List.dropLast_subset _ hx)
      rw [List.getLastD_eq_getLast?, List.getLast?_eq_some_getLast hne]
      exact List.getLast_mem _
theorem leadFrom_sound {cs : List (List Nat)} {t x : Nat} (h : x ∈ leadFrom cs t) : Rch (stepsOf cs) t x := by
  unfold leadFrom upN at h
  exact (dfsAt_sound _).1 x (List.mem_mergeSort.mp h)
theorem idle_same {cs : List (List Nat)} (g : Good cs) {s : Nat × Nat} (hs : s ∈ stepsOf cs) (h : isIdle cs s = true) : lotsOf (withoutStep cs s) = lotsOf cs := by
  refine lotsOf_congr ?_ fun a b => ⟨fun hr => hr.of fun q hq => .one ((mem_withoutStep g hs q).mp hq).1, fun hr => hr.of fun q hq => ?_⟩
  · unfold manyOf rowsOf
    rw [withoutStep_len, withoutStep_cols g hs]
  · by_cases e : q = s
    · rw [e]
      exact leadFrom_sound (of_decide_eq_true h)
    · exact .one ((mem_withoutStep g hs q).mpr ⟨hq, e⟩)
theorem without_lt {cs : List (List Nat)} (g : Good cs) {s : Nat × Nat} (hs : s ∈ stepsOf cs) : (stepsOf (withoutStep cs s)).length < (stepsOf cs).length := by
  have := nodup_le (K := (stepsOf cs).erase s) (stepsOf_nodup (withoutStep_good g hs)) fun q hq => by
    obtain ⟨h1, h2⟩ := (mem_withoutStep g hs q).mp hq
    exact (List.mem_erase_of_ne h2).mpr h1
  have h2 := List.length_erase_of_mem hs
  have h3 := List.length_pos_of_mem hs
  omega
theorem leanTo_same {cs : List (List Nat)} (g : Good cs) : ∀ i, (leanTo cs i).length = cs.length ∧ colsOf (leanTo cs i) = colsOf cs ∧ lotsOf (leanTo cs i) = lotsOf cs
  | 0 => ⟨rfl, rfl, rfl⟩
  | i + 1 => by
    obtain ⟨h1, h2, h3⟩ := leanTo_same g i
    obtain ⟨gi, hi⟩ := leanTo_inv g i
    cases h : (stepsOf cs)[i]? with
    | none =>
      have hl := List.getElem?_eq_none_iff.mp h
      have e : leanTo cs (i + 1) = leanTo cs i := by
        unfold leanTo
        rw [List.take_of_length_le (by omega), List.take_of_length_le hl]
      rw [e]
      exact ⟨h1, h2, h3⟩
    | some s =>
      rw [leanTo_succ h]
      obtain ⟨hlt, hse⟩ := List.getElem?_eq_some_iff.mp h
      have hm := hi s (by rw [List.drop_eq_getElem_cons hlt, hse]; exact List.mem_cons_self ..)
      unfold leanTurn
      split
      · rename_i hid
        exact ⟨(withoutStep_len s).trans h1, (withoutStep_cols gi hm).trans h2, (idle_same gi hm hid).trans h3⟩
      · exact ⟨h1, h2, h3⟩
end WF

/-! ## text M2 -/
namespace WF
open PySem PySem.Spec PyProof.Rows L2
/-! ### the law's own functions in plain words -/
structure Row where
  sc : List Int
  cnt : Nat
  seed : Int
  carry : Int
def rowD (r : Row) : List PyData := [.list (r.sc.map .int), .int (r.cnt : Nat), .int r.seed, .int r.carry]
def taken (r : Row) (m : Nat) : Nat × Row :=
  if 0 < r.carry then ((r.carry % (m : Nat)).toNat, { r with carry := r.carry / (m : Nat) })
  else if r.sc.length < r.cnt + 1 then ((((r.seed * 48271 + 11) % 2147483647) / 7 % (m : Nat)).toNat, { r with cnt := r.cnt + 1, seed := (r.seed * 48271 + 11) % 2147483647 })
  else ((r.sc.getD r.cnt 0 % (m : Nat)).toNat, ⟨r.sc, r.cnt + 1, (r.seed * 48271 + r.sc.getD r.cnt 0 + 11) % 2147483647, if (10 : Int) ^ 18 ≤ r.sc.getD r.cnt 0 then r.sc.getD r.cnt 0 / (m : Nat) else r.carry⟩)
theorem emod_lt {x : Int} {m : Nat} (h : 0 < m) : (x % (m : Nat)).toNat < m := by
  have h1 := Int.emod_nonneg x (b := (m : Int)) (by omega)
  have h2 := Int.emod_lt_of_pos x (b := (m : Int)) (by omega)
  omega
theorem taken_lt {r : Row} {m : Nat} (h : 0 < m) : (taken r m).1 < m := by
  unfold taken
  split
  · exact emod_lt h
  · split
    · exact emod_lt h
    · exact emod_lt h
theorem taken_sc {r : Row} {m : Nat} : (taken r m).2.sc = r.sc := by
  unfold taken
  split
  · rfl
  · split <;> rfl
end WF

/-! ## text W11 -/
namespace WF
open PySem PySem.Spec PyProof.Rows L2
abbrev sp__law_taken (K : PySem.W.Frag) (_ : Addr) : Sp := spR (α := Row × Nat) (fun a => oL K (rowD a.1)) (fun a => [D K (eN a.2)]) (fun a => 0 < a.2 ∧ a.2 ≤ 100000) (fun a => oL K (rowD (taken a.1 a.2).2)) (fun a => D K (eN (taken a.1 a.2).1))
section
variable {P : Program} {w : World} {K : PySem.W.Frag} {mg : Str → Option Value} {base : Heap} {C : Addr}
theorem ev_modE {Γ Γ1 Γ2 : List Sl} {ta tb : TE} {i : Int} {m : Nat} (ha : Ev Γ ta (D K (.int i)) Γ1) (hb : Ev Γ1 tb (D K (eN m)) Γ2) (hm : 0 < m) : Ev Γ (tOp (rI (fun _ j => 0 < j) fun i j => .int (i % j)) ta tb) (D K (eN (i % (m : Nat)).toNat)) Γ2 :=
  (ev_mod ha hb (by omega)).is (congrArg (fun z => D K (.int z)) (Int.toNat_of_nonneg (Int.emod_nonneg i (by omega))).symm)
theorem atI_row0 (r : Row) : atI (rowD r) 0 = some (.list (r.sc.map .int)) := rfl
theorem atI_row1 (r : Row) : atI (rowD r) 1 = some (.int (r.cnt : Nat)) := rfl
theorem atI_row2 (r : Row) : atI (rowD r) 2 = some (.int r.seed) := rfl
theorem atI_row3 (r : Row) : atI (rowD r) 3 = some (.int r.carry) := rfl
theorem cal__law_taken (T : Tx K mg C) {f : Addr} {fd : FuncData} (F : C8.Def K mg "_law_taken" (topS 41) f fd) (b : Binds K fd ["_law_row", "_law_many_here"] [])  : C8.Cal P w K mg base 1 "_law_taken" (sp__law_taken K C) [] := by
  have S : FnScope ["_law_row", "_law_many_here", "_law_cell", "_law_found"] ["_law_row", "_law_many_here"] (C8.fnScope (topS 41)) := C8.fnScope_by (by decide +kernel)
  have nd := S.nd
  refine cal_R (n := 2) F b S (fun _ => rfl) rfl fun cdv A outer s H E hr => ⟨_, (pss_cons (ps_if (pt_cmpR op_gt (pe_ix (ixL K) (pv 0) pe_int (fun _ _ => rfl)) pe_int (nomark _)) (pss_cons (ps_set (i := 3) nd rfl (Or.inl rfl) (pe_op op_mod (pe_callTy call_int1 (by rfl) T.b_int (by decide +kernel) (pa_cons (pe_ix (ixL K) (pv 0) pe_int (fun _ _ => rfl)) pa_nil)) (pv 1)))
    (pss_cons (ps_asg (pe_op op_fdiv (pe_ix (ixL K) (pv 0) pe_int (fun _ _ => rfl)) (pv 1)) (pg_sub (pv 0) pe_int set_list))
    (pss_one (ps_ret (pv 3))))) pss_nil)
    (pss_cons (ps_asg (pe_op op_add (pe_ix (ixL K) (pv 0) pe_int (fun _ _ => rfl)) pe_int) (pg_sub (pv 0) pe_int set_list))
    (pss_cons (ps_if (pt_cmpR op_gt (pe_ix (ixL K) (pv 0) pe_int (fun _ _ => rfl)) (pe_callB (cLen K) (by rfl) T.b_len (by decide +kernel) (pa_cons (pe_ix (ixL K) (pv 0) pe_int (fun _ _ => rfl)) pa_nil)) (nomark _)) (pss_cons (ps_asg (pe_op op_mod (pe_callTy call_int1 (by rfl) T.b_int (by decide +kernel) (pa_cons (pe_op op_add (pe_op op_mul (pe_ix (ixL K) (pv 0) pe_int (fun _ _ => rfl)) pe_int) pe_int) pa_nil)) pe_int) (pg_sub (pv 0) pe_int set_list))
    (pss_one (ps_ret (pe_op op_mod (pe_callTy call_int1 (by rfl) T.b_int (by decide +kernel) (pa_cons (pe_op op_fdiv (pe_ix (ixL K) (pv 0) pe_int (fun _ _ => rfl)) pe_int) pa_nil)) (pv 1))))) pss_nil)
    (pss_cons (ps_set (i := 2) nd rfl (Or.inl rfl) (pe_ix (ixL K) (pe_ix (ixL K) (pv 0) pe_int (fun _ _ => rfl)) (pe_op op_sub (pe_ix (ixL K) (pv 0) pe_int (fun _ _ => rfl)) pe_int) (fun _ _ => rfl)))
    (pss_cons (ps_asg (pe_op op_mod (pe_callTy call_int1 (by rfl) T.b_int (by decide +kernel) (pa_cons (pe_op op_add (pe_op op_add (pe_op op_mul (pe_ix (ixL K) (pv 0) pe_int (fun _ _ => rfl)) pe_int) (pv 2)) pe_int) pa_nil)) pe_int) (pg_sub (pv 0) pe_int set_list))
    (pss_cons (ps_if (pt_cmpR op_ge (pv 2) (pe_op op_pow pe_int pe_int) (nomark _)) (pss_one (ps_asg (pe_op op_fdiv (pv 2) (pv 1)) (pg_sub (pv 0) pe_int set_list))) pss_nil)
    (pss_one (ps_ret (pe_op op_mod (pe_callTy call_int1 (by rfl) T.b_int (by decide +kernel) (pa_cons (pv 2) pa_nil)) (pv 1)))))))))), ?_⟩
  rintro ⟨r, m⟩ ⟨h1, h2⟩ y
  have h1 : 0 < m := h1
  have h2 : m ≤ 100000 := h2
  show Rt _ _ (D K (eN (taken r m).1)) [.own y (oL K (rowD (taken r m).2))]
  unfold taken
  refine rt_ifRet (b := decide ((0 : Int) < r.carry)) (et_test (ev_gt (ev_ixO rfl ev_int rfl (atI_row3 r)) ev_int)) (fun hb => ?_) (fun hb => ?_)
  · have hb := of_decide_eq_true hb
    rw [if_pos hb]
    refine rt_seq (st_asg (ev_modE (ev_intI (ev_ixO rfl ev_int rfl (atI_row3 r))) (ev_var rfl) h1) (lt_some rfl)) ?_
    refine rt_seq (go_setL (j := 3) (d := .int (r.carry / (m : Nat))) (ev_fdiv (ev_ixO rfl ev_int rfl (atI_row3 r)) (ev_var rfl) ⟨by omega, by omega⟩) rfl ev_int rfl (by show 3 < 4; decide)) ?_
    exact rt_ret (ev_var rfl) (by repeat (first | exact Wk.nil _ | exact Wk.refl _ | refine Wk.cons (by first | exact Or.inr rfl | exact Or.inl rfl) ?_))
  · have hb := of_decide_eq_false hb
    rw [if_neg hb]
    refine rt_seq (go_setL (j := 1) (d := .int ((r.cnt + 1 : Nat))) (ev_addN (i := r.cnt) (j := 1) (ev_ixO rfl ev_int rfl (atI_row1 r)) ev_int) rfl ev_int rfl (by show 1 < 4; decide)) ?_
    refine rt_ifRet (b := decide (r.sc.length < r.cnt + 1)) (Et.is (et_test (ev_gt (ev_ixO rfl ev_int rfl (d := .int ((r.cnt + 1 : Nat) : Int)) rfl) (ev_lenL (ev_ixO rfl ev_int rfl (d := .list (r.sc.map .int)) rfl)))) ?_) (fun hc => ?_) (fun hc => ?_)
    · rw [List.length_map]
      exact decide_eq_decide.mpr (by omega)
    · have hc := of_decide_eq_true hc
      rw [if_pos hc]
      refine rt_seq (go_setL (j := 2) (d := .int ((r.seed * 48271 + 11) % 2147483647)) (ev_mod (ev_intI (ev_add (ev_mul (ev_ixO rfl ev_int rfl (d := .int r.seed) rfl) ev_int (.inr ⟨by decide, by decide⟩)) ev_int)) ev_int (by decide)) rfl ev_int rfl (by show 2 < 4; decide)) ?_
      exact rt_ret (ev_modE (ev_intI (ev_fdiv (ev_ixO rfl ev_int rfl (d := .int ((r.seed * 48271 + 11) % 2147483647)) rfl) ev_int ⟨by decide, by decide⟩)) (ev_var rfl) h1) (by repeat (first | exact Wk.nil _ | exact Wk.refl _ | refine Wk.cons (by first | exact Or.inr rfl | exact Or.inl rfl) ?_))
    · have hc := of_decide_eq_false hc
      rw [if_neg hc]
      have hat : r.sc[r.cnt]? = some (r.sc.getD r.cnt 0) := by
        rw [List.getD_eq_getElem?_getD, List.getElem?_eq_getElem (by omega)]
        rfl
      refine rt_seq (st_asg (P := D K (.int (r.sc.getD r.cnt 0))) (ev_ixL (ev_ixO rfl ev_int rfl (d := .list (r.sc.map .int)) rfl) (ev_sub (ev_ixO rfl ev_int rfl (d := .int ((r.cnt + 1 : Nat) : Int)) rfl) ev_int) ?_) (lt_some rfl)) ?_
      · rw [show (((r.cnt + 1 : Nat) : Int) - 1) = ((r.cnt : Nat) : Int) by omega]
        exact atI_nat (by rw [List.getElem?_map, hat]; rfl)
      refine rt_seq (go_setL (j := 2) (d := .int ((r.seed * 48271 + r.sc.getD r.cnt 0 + 11) % 2147483647)) (ev_mod (ev_intI (ev_add (ev_add (ev_mul (ev_ixO rfl ev_int rfl (d := .int r.seed) rfl) ev_int (.inr ⟨by decide, by decide⟩)) (ev_var rfl)) ev_int)) ev_int (by decide)) rfl ev_int rfl (by show 2 < 4; decide)) ?_
      refine rt_seq (Γ1 := [.own y (oL K (rowD ⟨r.sc, r.cnt + 1, (r.seed * 48271 + r.sc.getD r.cnt 0 + 11) % 2147483647, if (10 : Int) ^ 18 ≤ r.sc.getD r.cnt 0 then r.sc.getD r.cnt 0 / (m : Nat) else r.carry⟩)), .pr (D K (eN m)), .pr (D K (.int (r.sc.getD r.cnt 0))), .no]) (st_if (b := decide ((10 : Int) ^ 18 ≤ r.sc.getD r.cnt 0)) (et_test (ev_ge (ev_var rfl) (ev_pow (j := 18) ev_int ev_int ⟨by decide, by decide, by decide⟩))) (fun hd => ?_) (fun hd => ?_)) (rt_ret (ev_modE (ev_intI (ev_var rfl)) (ev_var rfl) h1) (by repeat (first | exact Wk.nil _ | exact Wk.refl _ | refine Wk.cons (by first | exact Or.inr rfl | exact Or.inl rfl) ?_)))
      · rw [if_pos (of_decide_eq_true hd)]
        exact (go_setL (j := 3) (d := .int (r.sc.getD r.cnt 0 / (m : Nat))) (ev_fdiv (ev_var rfl) (ev_var rfl) ⟨by omega, by omega⟩) rfl ev_int rfl (by show 3 < 4; decide)).wk (by repeat (first | exact Wk.nil _ | exact Wk.refl _ | refine Wk.cons (by first | exact Or.inr rfl | exact Or.inl rfl) ?_))
      · rw [if_neg (of_decide_eq_false hd)]
        exact st_next.wk (by repeat (first | exact Wk.nil _ | exact Wk.refl _ | refine Wk.cons (by first | exact Or.inr rfl | exact Or.inl rfl) ?_))
end
end WF

/-! ## text W12 -/
namespace WF
open PySem PySem.Spec PyProof.Rows L2
def lawAllLots (n : Nat) : List (List Nat) := (allLots n).mergeSort (PySem.W.dataLe false sizeKey)
abbrev sp__law_many (K : PySem.W.Frag) (_ : Addr) : Sp := spF (α := List (List Nat)) (fun cs => [D K (eC cs)]) Good (fun cs => D K (eN (manyOf cs)))
abbrev sp__law_is_closed (K : PySem.W.Frag) (_ : Addr) : Sp := spF (α := List (Nat × Nat) × List Nat) (fun a => [D K (ePs a.1), D K (eL a.2)]) (fun a => a.1.length ≤ 100000) (fun a => D K (.bool (closes a.1 a.2)))
abbrev sp__law_all_lots (K : PySem.W.Frag) (_ : Addr) : Sp := spF (α := Nat) (fun n => [D K (eN n)]) (fun n => n ≤ 10) (fun n => D K (eLs (lawAllLots n)))
abbrev sp__law_steps (K : PySem.W.Frag) (_ : Addr) : Sp := spF (α := List (List Nat)) (fun cs => [D K (eC cs)]) Good (fun cs => D K (ePs (stepsOf cs)))
abbrev sp__law_lots (K : PySem.W.Frag) (_ : Addr) : Sp := spF (α := List (List Nat)) (fun cs => [D K (eC cs)]) Good (fun cs => D K (eLs (lotsOf cs)))
theorem closes_iff (st : List (Nat × Nat)) (lot : List Nat) : decide ((st.filter fun p => decide (p.2 ∈ lot) && !decide (p.1 ∈ lot)).map (·.1) = []) = closes st lot := by
  unfold closes
  rw [Bool.eq_iff_iff, decide_eq_true_iff, List.map_eq_nil_iff, List.filter_eq_nil_iff, List.all_eq_true]
  constructor
  · intro h p hp
    have := h p hp
    cases h1 : decide (p.1 ∈ lot) <;> cases h2 : decide (p.2 ∈ lot) <;> simp_all
  · intro h p hp
    have := h p hp
    cases h1 : decide (p.1 ∈ lot) <;> cases h2 : decide (p.2 ∈ lot) <;> simp_all
theorem filter_sort {β : Type} (k : β → PyData) (p : β → Bool) (l : List β) : (l.mergeSort (PySem.W.dataLe false k)).filter p = (l.filter p).mergeSort (PySem.W.dataLe false k) := by
  have T := PySem.W.sortLe_total (PyProof.Rows.listOrd PyProof.Rows.itemOrd) false fun b => PySem.W.keyToks (k b)
  refine PySem.W.sort_unique T ?_ fun c => ?_
  · exact (PySem.W.sort_pairwise T l).filter p
  · have h1 : ∀ (m : List β) (s : β → Bool), (m.filter p).filter s = (m.filter s).filter p := fun m s => by
      rw [List.filter_filter, List.filter_filter]
      congr 1
      funext a
      exact Bool.and_comm _ _
    rw [h1, h1]
    exact congrArg (List.filter p) (PySem.W.sort_stable T l c)
theorem sign_in {c : Nat} {ss : List Str} {cs : List Nat} (h : ss = cs.map fun c => (⟨#[c]⟩ : Str)) : decide ((⟨[c].toArray⟩ : Str) ∈ ss) = decide (c ∈ cs) := by
  subst h
  apply decide_eq_decide.mpr
  rw [List.mem_map]
  constructor
  · rintro ⟨d, h1, h2⟩
    have := congrArg (fun z : Str => z.cps.toList) h2
    have e : d = c := by simpa using this
    rw [← e]
    exact h1
  · intro h
    exact ⟨c, h, rfl⟩
section
variable {P : Program} {w : World} {K : PySem.W.Frag} {mg : Str → Option Value} {base : Heap} {C : Addr}
theorem cal__law_many (T : Tx K mg C) {f : Addr} {fd : FuncData} (F : C8.Def K mg "_law_many" (topS 45) f fd) (b : Binds K fd ["_law_cells_here"] [])  : C8.Cal P w K mg base 1 "_law_many" (sp__law_many K C) [] := by
  have S : FnScope ["_law_cells_here"] ["_law_cells_here"] (C8.fnScope (topS 45)) := C8.fnScope_by (by decide +kernel)
  have nd := S.nd
  refine cal_F (n := 0) F b S (fun _ => rfl) rfl fun cdv A outer s H E hr => ⟨_, (pss_one (ps_ret (pe_op op_add (pe_callB (cLen K) (by rfl) T.b_len (by decide +kernel) (pa_cons (pv 0) pa_nil)) (pe_callB call_len_str (by rfl) T.b_len (by decide +kernel) (pa_cons (pe_ix (ixT K) (pv 0) pe_int (fun _ _ => rfl)) pa_nil))))), ?_⟩
  intro cs g
  exact rt_ret (ev_addN (ev_lenTN (ev_var rfl)) (ev_lenSN (ev_ixT (ev_var rfl) ev_int (atI_nat (i := 0) (by rw [List.getElem?_map, cs_at0 g]; rfl))) (by have := g.c5; unfold colsOf at this; omega))) (Wk.nil _)
theorem cal__law_is_closed (T : Tx K mg C) {f : Addr} {fd : FuncData} (F : C8.Def K mg "_law_is_closed" (topS 46) f fd) (b : Binds K fd ["_law_told", "_law_lot"] [])  : C8.Cal P w K mg base 1 "_law_is_closed" (sp__law_is_closed K C) [] := by
  have S : FnScope ["_law_told", "_law_lot", "_law_one", "_law_other"] ["_law_told", "_law_lot"] (C8.fnScope (topS 46)) := C8.fnScope_by (by decide +kernel)
  have nd := S.nd
  refine cal_F (n := 2) F b S (fun _ => rfl) rfl fun cdv A outer s H E hr => ⟨_, (pss_one (ps_ret (pe_cmpR (oEqD K rfl hr.units) (pe_lc (own := [("_law_one", 2), ("_law_other", 3)]) (g := (gTup K 2 (gCons (gName 2) (gCons (gName 3) gNil)))) rfl nd (piL K rfl (pv 0)) (blkOk_by (by kernel_rfl)) (fun _ _ _ _ _ => (pgTup K rfl rfl (pgs_cons (pg_name (i := 2) nd rfl (by first | exact Or.inl rfl | exact Or.inr rfl)) (pgs_cons (pg_name (i := 3) nd rfl (by first | exact Or.inl rfl | exact Or.inr rfl)) pgs_nil)))) (fun _ _ _ _ _ => (pts_one (PW.pt (pw_and (pt_cmpR (oIn K) (pv 3) (pv 1) (by rfl)) (pw_and1 (pt_cmpR (oNin K) (pv 2) (pv 1) (by rfl))))))) (fun _ _ _ _ _ => (pv 2))) (pe_lst pa_nil) (nomark _)))), ?_⟩
  rintro ⟨st, lot⟩ hp
  refine rt_ret (Ev.is (ev_eqE okNs (x := (st.filter fun p => decide (p.2 ∈ lot) && !decide (p.1 ∈ lot)).map (·.1)) (y := []) (Ev.is (ev_new (en_lc (xs := st) (A := fun p => D K (eP p)) (F := fun p => if decide (p.2 ∈ lot) && !decide (p.1 ∈ lot) then some (eN p.1) else none) (ei_listM (ev_var rfl)) rfl rfl hp fun p hp =>
    cg_pair (by decide) (lt_some rfl) (by decide) (lt_some rfl) (et_and (et_test (ev_inT (ev_var rfl) (ev_var rfl))) fun _ => et_test (ev_ninT (ev_var rfl) (ev_var rfl))) (fun _ => ev_var rfl) (fun _ => by rfl) (fun _ => by rfl))) ?_) (ev_lst ed_nil (by show 0 ≤ 100000; decide)) trivial trivial) ?_) (Wk.nil _)
  · rw [filterMap_if]
    show _ = D K (.list (((st.filter _).map (·.1)).map eN))
    rw [List.map_map]
    rfl
  · rw [← closes_iff]
theorem cal__law_all_lots (T : Tx K mg C) {f : Addr} {fd : FuncData} (F : C8.Def K mg "_law_all_lots" (topS 44) f fd) (b : Binds K fd ["_law_many_here"] [])  : C8.Cal P w K mg base 1 "_law_all_lots" (sp__law_all_lots K C) [] := by
  have S : FnScope ["_law_many_here", "_law_found", "_law_thread", "_law_size", "_law_lot"] ["_law_many_here"] (C8.fnScope (topS 44)) := C8.fnScope_by (by decide +kernel)
  have nd := S.nd
  refine cal_F (n := 4) F b S (fun _ => rfl) rfl fun cdv A outer s H E hr => ⟨_, (pss_cons (ps_set (i := 1) nd rfl (Or.inl rfl) (pe_lst (pa_cons (pe_tup pa_nil) pa_nil)))
    (pss_cons (ps_for PassesOwn.never rfl (pi_range1 (by rfl) T.b_range (pa_cons (pv 0) pa_nil)) (pg_name (i := 2) nd rfl (by first | exact Or.inl rfl | exact Or.inr rfl))
    (pss_one (ps_set (i := 1) nd rfl (Or.inl rfl) (pe_op op_cat (pv 1) (pe_lc (own := [("_law_lot", 4)]) (g := (gName 4)) rfl nd (piL K rfl (pv 1)) (blkOk_by (by kernel_rfl)) (fun _ _ _ _ _ => (pg_name (i := 4) nd rfl (by first | exact Or.inl rfl | exact Or.inr rfl))) (fun _ _ _ _ _ => pts_nil) (fun _ _ _ _ _ => (pe_op (oCatT K) (pv 4) (pe_tup (pa_cons (pv 2) pa_nil)))))))))
    (pss_one (ps_ret (pe_lc (own := [("_law_size", 3), ("_law_lot", 4)]) (g := (gTup K 2 (gCons (gName 3) (gCons (gName 4) gNil)))) rfl nd (piL K rfl (pe_callB (cSortedD K rfl (in65 hr)) (by rfl) T.b_sorted (by decide +kernel) (pa_cons (pe_lc (own := [("_law_lot", 4)]) (g := (gName 4)) rfl nd (piL K rfl (pv 1)) (blkOk_by (by kernel_rfl)) (fun _ _ _ _ _ => (pg_name (i := 4) nd rfl (by first | exact Or.inl rfl | exact Or.inr rfl))) (fun _ _ _ _ _ => pts_nil) (fun _ _ _ _ _ => (pe_tup (pa_cons (pe_callB (cLen K) (by rfl) T.b_len (by decide +kernel) (pa_cons (pv 4) pa_nil)) (pa_cons (pv 4) pa_nil))))) pa_nil))) (blkOk_by (by kernel_rfl)) (fun _ _ _ _ _ => (pgTup K rfl rfl (pgs_cons (pg_name (i := 3) nd rfl (by first | exact Or.inl rfl | exact Or.inr rfl)) (pgs_cons (pg_name (i := 4) nd rfl (by first | exact Or.inl rfl | exact Or.inr rfl)) pgs_nil)))) (fun _ _ _ _ _ => pts_nil) (fun _ _ _ _ _ => (pv 4))))))), ?_⟩
  intro n hn
  refine rt_seq (st_asg (P := DL K ((allLots 0).map eL)) (ev_newL (en_lst (ed_cons (ev_tup ed_nil (by decide)) ed_nil) (by show 1 ≤ 100000; decide))) (lt_some rfl)) ?_
  have hz := allLots_small hn
  refine rt_seq (Γ1 := [.pr (D K (eN n)), .pr (DL K ((allLots n).map eL)), .no, .no, .no]) ?_ (rt_ret (Ev.is (ev_new (en_lc (xs := lawAllLots n) (A := fun l => D K (sizeKey l)) (F := fun l => if true then some (eL l) else none) (ei_listM (enc := sizeKey) (ev_new (en_sort (enc := sizeKey) (xs := allLots n) (Ev.is (ev_new (en_lc (xs := allLots n) (A := fun l => D K (eL l)) (F := fun l => if true then some (sizeKey l) else none) (ei_listM (ev_dl (ev_var rfl))) rfl rfl (by omega) fun l hl =>
      cg_name (by decide) (lt_some rfl) et_yes (fun _ => ev_pair (ev_lenTN (ev_var rfl)) (ev_var rfl)) (fun h => nomatch h) (fun _ => by rfl))) ?_) ?_ (.inl fun b _ => ⟨_, _, rfl⟩) ?_))) rfl rfl ?_ fun l hl =>
    cg_pair (by decide) (lt_some rfl) (by decide) (lt_some rfl) et_yes (fun _ => ev_var rfl) (fun h => nomatch h) (fun _ => by rfl))) ?_) (Wk.nil _))
  · refine go_forM (xs := List.range n) (A := fun i => D K (eN i)) (S := fun i => [.pr (D K (eN n)), .pr (DL K ((allLots i).map eL)), .no, .no, .no]) (ei_rngN (ev_var rfl) (by omega)) (by repeat (first | exact Wk.nil _ | exact Wk.refl _ | refine Wk.cons (by first | exact Or.inr rfl | exact Or.inl rfl) ?_)) (fun i x hx => ?_) (by rw [List.length_range]; exact (by repeat (first | exact Wk.nil _ | exact Wk.refl _ | refine Wk.cons (by first | exact Or.inr rfl | exact Or.inl rfl) ?_)))
    obtain ⟨hi, rfl⟩ := range_at hx
    have hz := allLots_small (n := x) (by omega)
    refine tg_name (lt_some rfl) ?_
    refine (st_asg (P := DL K ((allLots (x + 1)).map eL)) (Ev.is (ev_newL (en_cat (ev_var rfl) (ev_newL (en_lc (xs := allLots x) (A := fun l => D K (eL l)) (F := fun l => if true then some (eL (l ++ [x])) else none) (ei_listM (ev_dl (ev_var rfl))) rfl rfl (by omega) fun l hl =>
      cg_name (by decide) (lt_some rfl) et_yes (fun _ => Ev.is (ev_catT (ev_var rfl) (ev_tup (ed_cons (ev_var rfl) ed_nil) (by show 1 ≤ 100000; decide)) ?_) ?_) (fun h => nomatch h) (fun _ => by rfl))) ?_)) ?_) (lt_some rfl)).wk (by repeat (first | exact Wk.nil _ | exact Wk.refl _ | refine Wk.cons (by first | exact Or.inr rfl | exact Or.inl rfl) ?_))
    · have := allLots_mem hl
      simp only [List.length_map, List.length_cons, List.length_nil]
      omega
    · show D K (.tuple (l.map eN ++ [eN x])) = D K (.tuple ((l ++ [x]).map eN))
      rw [List.map_append]
      rfl
    · rw [filterMap_some, List.length_map, List.length_map]
      omega
    · rw [filterMap_some]
      show DL K ((allLots x).map eL ++ (allLots x).map fun l => eL (l ++ [x])) = DL K ((allLots x ++ (allLots x).map (· ++ [x])).map eL)
      rw [List.map_append, List.map_map]
      rfl
  · rw [filterMap_some]
  · intro l l'
    rw [← szKey_toI, ← szKey_toI]
    exact alike_key _ _
  · intro l _
    rw [← szKey_toI]
    exact Nat.le_trans (depth_key _) (by decide)
  · unfold lawAllLots
    rw [List.length_mergeSort]
    omega
  · rw [filterMap_some]
theorem cal__law_steps (T : Tx K mg C) {f : Addr} {fd : FuncData} (F : C8.Def K mg "_law_steps" (topS 43) f fd) (b : Binds K fd ["_law_cells_here"] [])  : C8.Cal P w K mg base 1 "_law_steps" (sp__law_steps K C) [] := by
  have S : FnScope ["_law_cells_here", "_law_found", "_law_at", "_law_place"] ["_law_cells_here"] (C8.fnScope (topS 43)) := C8.fnScope_by (by decide +kernel)
  have nd := S.nd
  refine cal_F (n := 3) F b S (fun _ => rfl) rfl fun cdv A outer s H E hr => ⟨_, (pss_cons (ps_set (i := 1) nd rfl (Or.inl rfl) (pe_lst pa_nil))
    (pss_cons (ps_for PassesOwn.never rfl (pi_range1 (by rfl) T.b_range (pa_cons (pe_callB (cLen K) (by rfl) T.b_len (by decide +kernel) (pa_cons (pv 0) pa_nil)) pa_nil)) (pg_name (i := 2) nd rfl (by first | exact Or.inl rfl | exact Or.inr rfl))
    (pss_one (ps_for PassesOwn.never rfl (pi_range1 (by rfl) T.b_range (pa_cons (pe_callB call_len_str (by rfl) T.b_len (by decide +kernel) (pa_cons (pe_ix (ixT K) (pv 0) pe_int (fun _ _ => rfl)) pa_nil)) pa_nil)) (pg_name (i := 3) nd rfl (by first | exact Or.inl rfl | exact Or.inr rfl))
    (pss_cons (ps_if (pt_cmpR (oIn K) (pe_ix ix_str (pe_ix (ixT K) (pv 0) (pv 2) (fun _ _ => rfl)) (pv 3) (fun _ _ => rfl)) (pe_lst (pa_cons pe_str (pa_cons pe_str pa_nil))) (by rfl)) (pss_one (ps_expr (peBm K rfl PySem.F.plainAttrs_list PySem.F.slot_list_append PySem.F.type_list_append mt_append (pv 1) (pa_cons (pe_tup (pa_cons (pv 2) (pa_cons (pe_op op_add (pe_callB (cLen K) (by rfl) T.b_len (by decide +kernel) (pa_cons (pv 0) pa_nil)) (pv 3)) pa_nil))) pa_nil)))) pss_nil)
    (pss_one (ps_if (pt_cmpR (oIn K) (pe_ix ix_str (pe_ix (ixT K) (pv 0) (pv 2) (fun _ _ => rfl)) (pv 3) (fun _ _ => rfl)) (pe_lst (pa_cons pe_str (pa_cons pe_str pa_nil))) (by rfl)) (pss_one (ps_expr (peBm K rfl PySem.F.plainAttrs_list PySem.F.slot_list_append PySem.F.type_list_append mt_append (pv 1) (pa_cons (pe_tup (pa_cons (pe_op op_add (pe_callB (cLen K) (by rfl) T.b_len (by decide +kernel) (pa_cons (pv 0) pa_nil)) (pv 3)) (pa_cons (pv 2) pa_nil))) pa_nil)))) pss_nil))))))
    (pss_one (ps_ret (pe_callB (cSortedD K rfl (in65 hr)) (by rfl) T.b_sorted (by decide +kernel) (pa_cons (pv 1) pa_nil)))))), ?_⟩
  intro cs g
  refine rt_new (O := oL K []) (en_lst ed_nil (by show 0 ≤ 100000; decide)) (lt_some rfl) fun a => ?_
  have hl := g.r5
  have hc := g.c5
  have h0 : (cs.map eS)[0]? = some (eS (cs.getD 0 [])) := by rw [List.getElem?_map, cs_at0 g]; rfl
  refine rt_seq (Γ1 := [.pr (D K (eC cs)), .own a (oL K ((stepsRaw cs).map eP)), .no, .no]) ?_ (rt_ret (ev_new (en_sort (ev_own rfl) alike_eP (.inl fun b _ => ⟨_, _, rfl⟩) fun b _ => depth_eP b)) (Wk.nil _))
  refine go_forM (xs := List.range cs.length) (A := fun i => D K (eN i)) (S := fun i => [.pr (D K (eC cs)), .own a (oL K ((rawTo cs i).map eP)), .no, .no]) (ei_rngN (ev_lenTN (ev_var rfl)) (by omega)) (by repeat (first | exact Wk.nil _ | exact Wk.refl _ | refine Wk.cons (by first | exact Or.inr rfl | exact Or.inl rfl) ?_)) (fun i x hx => ?_) (by rw [List.length_range, rawTo_len]; exact (by repeat (first | exact Wk.nil _ | exact Wk.refl _ | refine Wk.cons (by first | exact Or.inr rfl | exact Or.inl rfl) ?_)))
  obtain ⟨hi, rfl⟩ := range_at hx
  have hc1 : cs[x]? = some (cs.getD x []) := by rw [List.getD_eq_getElem?_getD, List.getElem?_eq_getElem hi]; rfl
  have hm := List.mem_of_getElem? hc1
  have hln := g.ln _ hm
  have hl5 : (cs.getD x []).length ≤ 5 := by omega
  refine tg_name (lt_some rfl) ?_
  refine go_forM (xs := List.range (colsOf cs)) (A := fun i => D K (eN i)) (S := fun j => [.pr (D K (eC cs)), .own a (oL K ((rawTo cs x ++ lineTo cs.length x (cs.getD x []) j).map eP)), .pr (D K (eN x)), .no]) (ei_rngN (ev_lenSN (ev_ixTN (ev_var rfl) (ev_int (n := ((0 : Nat) : Int))) h0) (by unfold colsOf at hc; omega)) (by unfold colsOf at hc; omega)) (by rw [show lineTo cs.length x (cs.getD x []) 0 = [] from rfl, List.append_nil]; exact (by repeat (first | exact Wk.nil _ | exact Wk.refl _ | refine Wk.cons (by first | exact Or.inr rfl | exact Or.inl rfl) ?_))) (fun j y hy => ?_) (by rw [List.length_range, rawTo_succ hc1, hln]; exact (by repeat (first | exact Wk.nil _ | exact Wk.refl _ | refine Wk.cons (by first | exact Or.inr rfl | exact Or.inl rfl) ?_)))
  obtain ⟨hj, rfl⟩ := range_at hy
  have hcell := getD_at (l := cs.getD x []) (i := y) (by omega)
  refine tg_name (lt_some rfl) ?_
  have hb := rawTo_bound (i := x) g
  have hb2 := lineTo_bound (m := cs.length) (a := x) (j := y) hl5
  refine (st_seq (go_ifApp (b := decide ((cs.getD x []).getD y 0 ∈ [62, 120])) (d := eP (x, cs.length + y)) (Et.is (et_test (ev_inLS (x := ⟨[(cs.getD x []).getD y 0].toArray⟩) (ns := [">", "x"]) (ev_ixSN (ev_ixTN (ev_var rfl) (ev_var rfl) (by rw [List.getElem?_map, hc1]; rfl)) (ev_var rfl) (by omega) hcell) (ev_lst (ed_cons ev_str (ed_cons ev_str ed_nil)) (by show 2 ≤ 100000; decide)))) ?_) rfl (ev_pair (ev_var rfl) (ev_addN (ev_lenTN (ev_var rfl)) (ev_var rfl))) ?_) <|
    go_ifApp (b := decide ((cs.getD x []).getD y 0 ∈ [60, 120])) (d := eP (cs.length + y, x)) (Et.is (et_test (ev_inLS (x := ⟨[(cs.getD x []).getD y 0].toArray⟩) (ns := ["<", "x"]) (ev_ixSN (ev_ixTN (ev_var rfl) (ev_var rfl) (by rw [List.getElem?_map, hc1]; rfl)) (ev_var rfl) (by omega) hcell) (ev_lst (ed_cons ev_str (ed_cons ev_str ed_nil)) (by show 2 ≤ 100000; decide)))) ?_) rfl (ev_pair (ev_addN (ev_lenTN (ev_var rfl)) (ev_var rfl)) (ev_var rfl)) ?_).wk ?_
  · exact sign_in rfl
  · rw [List.length_map, List.length_append]; omega
  · exact sign_in rfl
  · rw [List.length_append, List.length_map, List.length_append]
    split <;> simp only [List.length_cons, List.length_nil] <;> omega
  · refine Wk.cons (.inr rfl) (Wk.cons (.inr (congrArg (fun z => Sl.own a (oL K z)) ?_)) (by repeat (first | exact Wk.nil _ | exact Wk.refl _ | refine Wk.cons (by first | exact Or.inr rfl | exact Or.inl rfl) ?_)))
    rw [lineTo_succ hcell]
    unfold stepsAt
    rw [List.map_append, List.map_append, List.map_append, ← List.append_assoc, ← List.append_assoc, List.map_append]
    congr 1
    · congr 1
      by_cases h : (cs.getD x []).getD y 0 ∈ [62, 120]
      · rw [if_pos (decide_eq_true h), if_pos h]; rfl
      · rw [if_neg h, if_neg (by simpa using h)]; rfl
    · by_cases h : (cs.getD x []).getD y 0 ∈ [60, 120]
      · rw [if_pos (decide_eq_true h), if_pos h]; rfl
      · rw [if_neg h, if_neg (by simpa using h)]; rfl
theorem cal__law_lots (T : Tx K mg C) {f : Addr} {fd : FuncData} (F : C8.Def K mg "_law_lots" (topS 47) f fd) (b : Binds K fd ["_law_cells_here"] []) (c__law_all_lots : C8.Cal P w K mg base 1 "_law_all_lots" (sp__law_all_lots K C) []) (c__law_is_closed : C8.Cal P w K mg base 1 "_law_is_closed" (sp__law_is_closed K C) []) (c__law_many : C8.Cal P w K mg base 1 "_law_many" (sp__law_many K C) []) (c__law_steps : C8.Cal P w K mg base 1 "_law_steps" (sp__law_steps K C) []) : C8.Cal P w K mg base 2 "_law_lots" (sp__law_lots K C) [] := by
  have S : FnScope ["_law_cells_here", "_law_told", "_law_lot"] ["_law_cells_here"] (C8.fnScope (topS 47)) := C8.fnScope_by (by decide +kernel)
  have nd := S.nd
  refine cal_F (n := 2) F b S (fun _ => rfl) rfl fun cdv A outer s H E hr => ⟨_, (pss_cons (ps_set (i := 1) nd rfl (Or.inr rfl) (C8.pe_c c__law_steps hr (by decide) (by rfl) (pa_cons (pv 0) pa_nil)))
    (pss_one (ps_ret (pe_lc (own := [("_law_lot", 2)]) (g := (gName 2)) rfl nd (piL K rfl (C8.pe_c c__law_all_lots hr (by decide) (by rfl) (pa_cons (C8.pe_c c__law_many hr (by decide) (by rfl) (pa_cons (pv 0) pa_nil)) pa_nil))) (blkOk_by (by kernel_rfl)) (fun _ _ _ _ _ => (pg_name (i := 2) nd rfl (by first | exact Or.inl rfl | exact Or.inr rfl))) (fun _ _ _ _ _ => (pts_one (pt_val (C8.pe_c c__law_is_closed hr (by decide) (by rfl) (pa_cons (pv 1) (pa_cons (pv 2) pa_nil)))))) (fun _ _ _ _ _ => (pv 2)))))), ?_⟩
  intro cs g
  have hm := manyOf_le g
  have hz := allLots_small hm
  refine rt_seq (st_asg (ev_call cs (ea_cons (ev_var rfl) ea_nil) g) (lt_some rfl)) ?_
  refine rt_ret (Ev.is (ev_new (en_lc (xs := lawAllLots (manyOf cs)) (A := fun l => D K (eL l)) (F := fun l => if closes (stepsOf cs) l then some (eL l) else none) (ei_listM (ev_call (manyOf cs) (ea_cons (ev_call cs (ea_cons (ev_var rfl) ea_nil) g) ea_nil) hm)) rfl rfl ?_ fun l hl =>
    cg_name (by decide) (lt_some rfl) (et_B (ev_call (α := List (Nat × Nat) × List Nat) (stepsOf cs, l) (ea_cons (ev_var rfl) (ea_cons (ev_var rfl) ea_nil)) (by have := stepsOf_bound g; show (stepsOf cs).length ≤ 100000; omega))) (fun _ => ev_var rfl) (fun _ => by rfl) (fun _ => by rfl))) ?_) (Wk.nil _)
  · unfold lawAllLots
    rw [List.length_mergeSort]
    omega
  · rw [filterMap_if]
    unfold lawAllLots lotsOf
    rw [filter_sort]
end
end WF

/-! ## text W13 -/
namespace WF
open PySem PySem.Spec PyProof.Rows L2
def longer (t : List Nat) : List (List Nat) := signs.map fun s => t ++ [s]
def texts : Nat → List (List Nat)
  | 0 => [[]]
  | n + 1 => (texts n).flatMap longer
def cutRow (M : Nat) (t : List Nat) (a : Nat) : List Nat := (t.drop (a * M)).take M
def cutCells (R M : Nat) (t : List Nat) : List (List Nat) := (List.range R).map (cutRow M t)
def allCells (R M : Nat) : List (List (List Nat)) := (texts (R * M)).map (cutCells R M)
theorem longer_len (t : List Nat) : (longer t).length = 4 := rfl
theorem texts_len : ∀ n, (texts n).length = 4 ^ n
  | 0 => rfl
  | n + 1 => by
    have h : ∀ xs : List (List Nat), (xs.flatMap longer).length = xs.length * 4 := fun xs => by
      induction xs with
      | nil => rfl
      | cons x xs ih => rw [List.flatMap_cons, List.length_append, ih, longer_len, List.length_cons, Nat.succ_mul]; omega
    show ((texts n).flatMap longer).length = _
    rw [h, texts_len n, Nat.pow_succ]
theorem texts_small {n : Nat} (h : n ≤ 4) : (texts n).length ≤ 256 := by
  rw [texts_len]
  exact Nat.le_trans (Nat.pow_le_pow_right (by decide) h) (by decide)
theorem texts_mem : ∀ {n : Nat} {t : List Nat}, t ∈ texts n ↔ t.length = n ∧ ∀ c ∈ t, c ∈ signs
  | 0, t => by
    show t ∈ [[]] ↔ _
    rw [List.mem_singleton]
    constructor
    · rintro rfl
      exact ⟨rfl, fun c h => by cases h⟩
    · rintro ⟨h, _⟩
      exact List.length_eq_zero_iff.mp h
  | n + 1, t => by
    show t ∈ (texts n).flatMap longer ↔ _
    rw [List.mem_flatMap]
    constructor
    · rintro ⟨u, hu, ht⟩
      obtain ⟨s, hs, rfl⟩ := List.mem_map.mp ht
      obtain ⟨h1, h2⟩ := texts_mem.mp hu
      refine ⟨by rw [List.length_append, h1]; rfl, fun c hc => ?_⟩
      rcases List.mem_append.mp hc with hc | hc
      · exact h2 c hc
      · rw [List.mem_singleton.mp hc]; exact hs
    · rintro ⟨h1, h2⟩
      have hne : t ≠ [] := fun e => by rw [e] at h1; cases h1
      refine ⟨t.dropLast, texts_mem.mpr ⟨by rw [List.length_dropLast]; omega, fun c hc => h2 c ((List.dropLast_sublist t).subset hc)⟩, List.mem_map.mpr ⟨t.getLast hne, h2 _ (List.getLast_mem hne), List.dropLast_concat_getLast hne⟩⟩
theorem cutCells_good {R M : Nat} {t : List Nat} (r1 : 1 ≤ R) (r5 : R ≤ 5) (c1 : 1 ≤ M) (c5 : M ≤ 5) (hl : t.length = R * M) (hs : ∀ c ∈ t, c ∈ signs) : Good (cutCells R M t) ∧ rowsOf (cutCells R M t) = R ∧ colsOf (cutCells R M t) = M := by
  have h0 : (cutCells R M t).length = R := by unfold cutCells; rw [List.length_map, List.length_range]
  have ln : ∀ l ∈ cutCells R M t, l.length = M := fun l h => by
    obtain ⟨a, ha, rfl⟩ := List.mem_map.mp h
    have ha := List.mem_range.mp ha
    unfold cutRow
    rw [List.length_take, List.length_drop, hl]
    have := Nat.mul_le_mul_right M (show a + 1 ≤ R from ha)
    rw [Nat.succ_mul] at this
    omega
  have hc : colsOf (cutCells R M t) = M := ln _ (by
    rw [List.getD_eq_getElem?_getD, List.getElem?_eq_getElem (by omega)]
    exact List.getElem_mem _)
  refine ⟨⟨by omega, by omega, by omega, by omega, fun l h => by rw [hc]; exact ln l h, fun l h c hcm => ?_⟩, h0, hc⟩
  obtain ⟨a, _, rfl⟩ := List.mem_map.mp h
  exact hs c (List.mem_of_mem_drop (List.mem_of_mem_take hcm))
theorem cutS_mid {l : List Nat} {i j : Nat} (h : i ≤ j) (h2 : j ≤ l.length) : cutS ⟨l.toArray⟩ (some (i : Nat)) (some (j : Nat)) = ⟨((l.drop i).take (j - i)).toArray⟩ := by
  unfold cutS
  rw [HT.sIx_nat, HT.sIx_nat]
  simp only [Str.length, List.size_toArray, Nat.min_eq_left h2, Nat.min_eq_left (Nat.le_trans h h2)]
/-- a board's text is among all -/
theorem mem_allCells {R M : Nat} {cs : List (List Nat)} : (Good cs ∧ cs.length = R ∧ colsOf cs = M) → cs ∈ allCells R M := by
  rintro ⟨g, rfl, rfl⟩
  have hf : ∀ (xs : List (List Nat)) (m : Nat), (∀ l ∈ xs, l.length = m) → xs.flatten.length = xs.length * m := fun xs m h => by
    induction xs with
    | nil => simp
    | cons x xs ih => rw [List.flatten_cons, List.length_append, ih (fun l hl => h l (List.mem_cons_of_mem _ hl)), h x (List.mem_cons_self ..), List.length_cons, Nat.succ_mul]; omega
  have hcut : ∀ (xs : List (List Nat)) (m : Nat), (∀ l ∈ xs, l.length = m) → (List.range xs.length).map (cutRow m xs.flatten) = xs := fun xs m h => by
    induction xs with
    | nil => rfl
    | cons x xs ih =>
      have hx := h x (List.mem_cons_self ..)
      rw [List.length_cons, List.range_succ_eq_map, List.map_cons, List.map_map]
      congr 1
      · unfold cutRow
        rw [Nat.zero_mul, List.drop_zero, List.flatten_cons, List.take_append_of_le_length (by omega), List.take_of_length_le (by omega)]
      · have ih' := ih fun l hl => h l (List.mem_cons_of_mem _ hl)
        refine Eq.trans (List.map_congr_left fun a _ => ?_) ih'
        show cutRow m (x ++ xs.flatten) (a + 1) = cutRow m xs.flatten a
        unfold cutRow
        rw [List.drop_append, List.drop_of_length_le (by rw [hx, Nat.succ_mul]; omega), List.nil_append, hx, Nat.succ_mul, Nat.add_sub_cancel]
  refine List.mem_map.mpr ⟨cs.flatten, texts_mem.mpr ⟨hf cs _ g.ln, fun c hc => ?_⟩, hcut cs _ g.ln⟩
  obtain ⟨l, hl, hcl⟩ := List.mem_flatten.mp hc
  exact g.sg l hl c hcl
structure SzOk4 (R M : Nat) : Prop where
  r1 : 1 ≤ R
  r5 : R ≤ 5
  c1 : 1 ≤ M
  c5 : M ≤ 5
  p : R * M ≤ 4
theorem allCells_good {R M : Nat} (z : SzOk4 R M) {cs : List (List Nat)} (h : cs ∈ allCells R M) : Good cs ∧ rowsOf cs = R ∧ colsOf cs = M := by
  obtain ⟨t, ht, rfl⟩ := List.mem_map.mp h
  obtain ⟨h1, h2⟩ := texts_mem.mp ht
  exact cutCells_good z.r1 z.r5 z.c1 z.c5 h1 h2
def fewestList (R M : Nat) (ls : List (List Nat)) : List Nat := ((allCells R M).filter fun cs => decide (lotsOf cs = ls)).map fun cs => (stepsOf cs).length
def fewestOf (R M : Nat) (ls : List (List Nat)) : Nat := (fewestList R M ls).min?.getD 0
abbrev sp__law_all_cells (K : PySem.W.Frag) (_ : Addr) : Sp := spF (α := Nat × Nat) (fun a => [D K (eN a.1), D K (eN a.2)]) (fun a => SzOk4 a.1 a.2) (fun a => D K (.list ((allCells a.1 a.2).map eC)))
abbrev sp__law_fewest (K : PySem.W.Frag) (_ : Addr) : Sp := spF (α := Nat × Nat × List (List Nat)) (fun a => [D K (eN a.1), D K (eN a.2.1), D K (eLs a.2.2)]) (fun a => SzOk4 a.1 a.2.1 ∧ fewestList a.1 a.2.1 a.2.2 ≠ []) (fun a => D K (eN (fewestOf a.1 a.2.1 a.2.2)))
abbrev sp__law_equal (K : PySem.W.Frag) (_ : Addr) : Sp := spF (α := Nat × Nat) (fun a => [D K (eN a.1), D K (eN a.2)]) (fun _ => True) (fun a => D K (.bool (decide (a.1 = a.2))))
section
variable {P : Program} {w : World} {K : PySem.W.Frag} {mg : Str → Option Value} {base : Heap} {C : Addr}
theorem cal__law_equal (T : Tx K mg C) {f : Addr} {fd : FuncData} (F : C8.Def K mg "_law_equal" (topS 50) f fd) (b : Binds K fd ["_law_actual", "_law_expected"] [])  : C8.Cal P w K mg base 1 "_law_equal" (sp__law_equal K C) [] := by
  have S : FnScope ["_law_actual", "_law_expected", "_law_k", "_law_key"] ["_law_actual", "_law_expected"] (C8.fnScope (topS 50)) := C8.fnScope_by (by decide +kernel)
  have nd := S.nd
  refine cal_F (n := 2) F b S (fun _ => rfl) rfl fun cdv A outer s H E hr => ⟨_, (pss_cons (ps_if (pt_cmpR op_isN (pv 1) pe_non (nomark _)) (pss_one ps_never) pss_nil)
    (pss_cons (ps_if (pt_val (pe_callB (cIsi K) (by rfl) T.b_isinstance (by decide +kernel) (pa_cons (pv 1) (pa_cons (pe_bltn (v := .ty "bool") (by rfl) T.b_bool (by decide +kernel) rfl) pa_nil)))) (pss_one ps_never) pss_nil)
    (pss_cons (ps_if (pt_val (pe_callB (cIsi K) (by rfl) T.b_isinstance (by decide +kernel) (pa_cons (pv 1) (pa_cons (pe_bltn (v := .ty "int") (by rfl) T.b_int (by decide +kernel) rfl) pa_nil)))) (pss_one (ps_ret (pe_and (pe_callB (cIsi K) (by rfl) T.b_isinstance (by decide +kernel) (pa_cons (pv 0) (pa_cons (pe_bltn (v := .ty "int") (by rfl) T.b_int (by decide +kernel) rfl) pa_nil))) (pe_and (pe_not (pe_callB (cIsi K) (by rfl) T.b_isinstance (by decide +kernel) (pa_cons (pv 0) (pa_cons (pe_bltn (v := .ty "bool") (by rfl) T.b_bool (by decide +kernel) rfl) pa_nil)))) (pe_one (pe_cmpR op_eq (pv 0) (pv 1) (nomark _))))))) pss_nil)
    (pss_cons ps_never
    (pss_cons ps_never
    (pss_cons ps_never
    (pss_cons ps_never
    (pss_cons ps_never
    (pss_one ps_never))))))))), ?_⟩
  rintro ⟨x, y⟩ _
  refine rt_ifRet (b := false) (Et.is (et_test (ev_isN (d := eN y) (ev_var rfl))) rfl) (fun h => nomatch h) fun _ => ?_
  refine rt_ifRet (b := false) (et_B (ev_isi (ev_var rfl) kit_int_bool)) (fun h => nomatch h) fun _ => ?_
  exact rt_ifRet (b := true) (tz := _) (et_B (ev_isi (ev_var rfl) kit_int_int)) (fun _ => rt_ret ((ev_andV (b := decide (x = y)) (ev_isi (ev_var rfl) kit_int_int) fun _ => (ev_andV (b := decide (x = y)) (ev_notV (ev_isi (ev_var rfl) kit_int_bool)) fun _ => ev_eqN (ev_var rfl) (ev_var rfl)).is rfl).is rfl) (Wk.nil _)) fun h => nomatch h
theorem cal__law_all_cells (T : Tx K mg C) {f : Addr} {fd : FuncData} (F : C8.Def K mg "_law_all_cells" (topS 42) f fd) (b : Binds K fd ["_law_rows", "_law_columns"] [])  : C8.Cal P w K mg base 1 "_law_all_cells" (sp__law_all_cells K C) [] := by
  have S : FnScope ["_law_rows", "_law_columns", "_law_found", "_law_at", "_law_longer", "_law_text", "_law_sign"] ["_law_rows", "_law_columns"] (C8.fnScope (topS 42)) := C8.fnScope_by (by decide +kernel)
  have nd := S.nd
  refine cal_F (n := 5) F b S (fun _ => rfl) rfl fun cdv A outer s H E hr => ⟨_, (pss_cons (ps_set (i := 2) nd rfl (Or.inl rfl) (pe_lst (pa_cons pe_str pa_nil)))
    (pss_cons (ps_for PassesOwn.never rfl (pi_range1 (by rfl) T.b_range (pa_cons (pe_op op_mul (pv 0) (pv 1)) pa_nil)) (pg_name (i := 3) nd rfl (by first | exact Or.inl rfl | exact Or.inr rfl))
    (pss_cons (ps_set (i := 4) nd rfl (Or.inl rfl) (pe_lst pa_nil))
    (pss_cons (ps_for PassesOwn.never rfl (piL K rfl (pv 2)) (pg_name (i := 5) nd rfl (by first | exact Or.inl rfl | exact Or.inr rfl))
    (pss_one (ps_set (i := 4) nd rfl (Or.inl rfl) (pe_op op_cat (pv 4) (pe_lc (own := [("_law_sign", 6)]) (g := (gName 6)) rfl nd (pi_str pe_str) (blkOk_by (by kernel_rfl)) (fun _ _ _ _ _ => (pg_name (i := 6) nd rfl (by first | exact Or.inl rfl | exact Or.inr rfl))) (fun _ _ _ _ _ => pts_nil) (fun _ _ _ _ _ => (pe_op op_add_str (pv 5) (pv 6))))))))
    (pss_one (ps_set (i := 2) nd rfl (Or.inl rfl) (pv 4))))))
    (pss_one (ps_ret (pe_lc (own := [("_law_text", 5)]) (g := (gName 5)) rfl nd (piL K rfl (pv 2)) (blkOk_by (by kernel_rfl)) (fun _ _ _ _ _ => (pg_name (i := 5) nd rfl (by first | exact Or.inl rfl | exact Or.inr rfl))) (fun _ _ _ _ _ => pts_nil) (fun _ _ _ _ _ => (pe_callTy (cTup K) (by rfl) T.b_tuple (by decide +kernel) (pa_cons (pe_lc (own := [("_law_at", 3)]) (g := (gName 3)) rfl nd (pi_range1 (by rfl) T.b_range (pa_cons (pv 0) pa_nil)) (blkOk_by (by kernel_rfl)) (fun _ _ _ _ _ => (pg_name (i := 3) nd rfl (by first | exact Or.inl rfl | exact Or.inr rfl))) (fun _ _ _ _ _ => pts_nil) (fun _ _ _ _ _ => (pe_slice sl_str (pv 5) (po_some (pe_op op_mul (pv 3) (pv 1))) (po_some (pe_op op_mul (pe_op op_add (pv 3) pe_int) (pv 1)))))) pa_nil)))))))), ?_⟩
  rintro ⟨R, M⟩ ⟨r1, r5, c1, c5, hp⟩
  have r5 : R ≤ 5 := r5
  have c5 : M ≤ 5 := c5
  have hp : R * M ≤ 4 := hp
  refine rt_seq (st_asg (P := DL K ((texts 0).map eS)) (ev_newL (en_lst (ed_cons ev_str ed_nil) (by show 1 ≤ 100000; decide))) (lt_some rfl)) ?_
  have hz := texts_small hp
  refine rt_seq (Γ1 := [.pr (D K (eN R)), .pr (D K (eN M)), .pr (DL K ((texts (R * M)).map eS)), .no, .no, .no, .no]) ?_ (rt_ret (Ev.is (ev_new (en_lc (xs := texts (R * M)) (A := fun t => D K (eS t)) (F := fun t => if true then some (eC (cutCells R M t)) else none) (ei_listM (ev_dl (ev_var rfl))) rfl rfl (by omega) fun t ht =>
    cg_name (by decide) (lt_some rfl) et_yes (fun _ => ev_tupleOf (Ev.is (ev_new (K := K) (en_lc (xs := List.range R) (A := fun a => D K (eN a)) (F := fun a => if true then some (eS (cutRow M t a)) else none) (ei_rngN (ev_var rfl) (by omega)) rfl rfl (by rw [List.length_range]; omega) fun a ha =>
      cg_name (by decide) (lt_some rfl) et_yes (fun _ => Ev.is (ev_slS (ev_var rfl) (eo_some (ev_mulN (ev_var rfl) (ev_var rfl) (by have := List.mem_range.mp ha; omega))) (eo_some (ev_mulN (ev_addN (j := 1) (ev_var rfl) ev_int) (ev_var rfl) (by have := List.mem_range.mp ha; omega))) ?_) ?_) (fun h => nomatch h) (fun _ => by rfl))) ?_)) (fun h => nomatch h) (fun _ => by rfl))) ?_) (Wk.nil _))
  · refine go_forM (xs := List.range (R * M)) (A := fun i => D K (eN i)) (S := fun i => [.pr (D K (eN R)), .pr (D K (eN M)), .pr (DL K ((texts i).map eS)), .no, .no, .no, .no]) (ei_rngN (ev_mulN (ev_var rfl) (ev_var rfl) (by omega)) (by omega)) (by repeat (first | exact Wk.nil _ | exact Wk.refl _ | refine Wk.cons (by first | exact Or.inr rfl | exact Or.inl rfl) ?_)) (fun i x hx => ?_) (by rw [List.length_range]; exact (by repeat (first | exact Wk.nil _ | exact Wk.refl _ | refine Wk.cons (by first | exact Or.inr rfl | exact Or.inl rfl) ?_)))
    obtain ⟨hi, rfl⟩ := range_at hx
    have hz := texts_small (n := x) (by omega)
    refine tg_name (lt_some rfl) (st_seq (st_asg (P := DL K []) (ev_newL (en_lst ed_nil (by show 0 ≤ 100000; decide))) (lt_some rfl)) (st_seq (Γ1 := [.pr (D K (eN R)), .pr (D K (eN M)), .pr (DL K ((texts x).map eS)), .no, .pr (DL K ((texts (x + 1)).map eS)), .no, .no]) ?_ ((st_asg (ev_var rfl) (lt_some rfl)).wk (by repeat (first | exact Wk.nil _ | exact Wk.refl _ | refine Wk.cons (by first | exact Or.inr rfl | exact Or.inl rfl) ?_)))))
    refine go_forM (xs := texts x) (A := fun t => D K (eS t)) (S := fun j => [.pr (D K (eN R)), .pr (D K (eN M)), .pr (DL K ((texts x).map eS)), .no, .pr (DL K ((fmTo longer (texts x) j).map eS)), .no, .no]) (ei_listM (ev_dl (ev_var rfl))) (by repeat (first | exact Wk.nil _ | exact Wk.refl _ | refine Wk.cons (by first | exact Or.inr rfl | exact Or.inl rfl) ?_)) (fun j t hj => ?_) (by rw [fmTo_all]; exact (by repeat (first | exact Wk.nil _ | exact Wk.refl _ | refine Wk.cons (by first | exact Or.inr rfl | exact Or.inl rfl) ?_)))
    have htl := (texts_mem.mp (List.mem_of_getElem? hj)).1
    have hfl := fmTo_len (g := longer) (b := 4) (texts x) (fun t _ => Nat.le_of_eq (longer_len t)) j
    refine tg_name (lt_some rfl) ((st_asg (P := DL K ((fmTo longer (texts x) (j + 1)).map eS)) (Ev.is (ev_newL (en_cat (ev_var rfl) (ev_newL (en_lc (xs := signs) (A := fun c => D K (eS [c])) (F := fun c => if true then some (eS (t ++ [c])) else none) (ei_str ev_str) rfl rfl (by decide) fun c hc =>
      cg_name (by decide) (lt_some rfl) et_yes (fun _ => Ev.is (ev_addS (x := ⟨t.toArray⟩) (y := ⟨[c].toArray⟩) (ev_var rfl) (ev_var rfl) ?_) ?_) (fun h => nomatch h) (fun _ => by rfl))) ?_)) ?_) (lt_some rfl)).wk (by repeat (first | exact Wk.nil _ | exact Wk.refl _ | refine Wk.cons (by first | exact Or.inr rfl | exact Or.inl rfl) ?_)))
    · show t.toArray.size + [c].toArray.size ≤ 100000
      rw [List.size_toArray, List.size_toArray]
      simp only [List.length_cons, List.length_nil]
      omega
    · rw [str_app]
    · rw [filterMap_some, List.length_map, List.length_map]
      show _ + 4 ≤ 100000
      omega
    · rw [filterMap_some, fmTo_succ hj, List.map_append]
      show DL K (_ ++ signs.map fun c => eS (t ++ [c])) = DL K (_ ++ (signs.map fun c => t ++ [c]).map eS)
      rw [List.map_map]
      rfl
  · show t.toArray.size ≤ 100000
    rw [List.size_toArray, (texts_mem.mp ht).1]
    omega
  · have ha := List.mem_range.mp ha
    have h1 := Nat.mul_le_mul_right M (show a + 1 ≤ R from ha)
    rw [cutS_mid (Nat.mul_le_mul_right M (Nat.le_succ a)) (by rw [(texts_mem.mp ht).1]; exact h1)]
    unfold cutRow
    rw [Nat.succ_mul, Nat.add_sub_cancel_left]
  · rw [filterMap_some]
    show D K (.list ((List.range R).map fun a => eS (cutRow M t a))) = D K (.list (((List.range R).map (cutRow M t)).map eS))
    rw [List.map_map]
    rfl
  · rw [filterMap_some]
    show D K (.list ((texts (R * M)).map fun t => eC (cutCells R M t))) = D K (.list (((texts (R * M)).map (cutCells R M)).map eC))
    rw [List.map_map]
    rfl
theorem cal__law_fewest (T : Tx K mg C) {f : Addr} {fd : FuncData} (F : C8.Def K mg "_law_fewest" (topS 49) f fd) (b : Binds K fd ["_law_rows", "_law_columns", "_law_lots_here"] []) (c__law_all_cells : C8.Cal P w K mg base 1 "_law_all_cells" (sp__law_all_cells K C) []) (c__law_lots : C8.Cal P w K mg base 2 "_law_lots" (sp__law_lots K C) []) (c__law_steps : C8.Cal P w K mg base 1 "_law_steps" (sp__law_steps K C) []) : C8.Cal P w K mg base 3 "_law_fewest" (sp__law_fewest K C) [] := by
  have S : FnScope ["_law_rows", "_law_columns", "_law_lots_here", "_law_some", "_law_cells_here"] ["_law_rows", "_law_columns", "_law_lots_here"] (C8.fnScope (topS 49)) := C8.fnScope_by (by decide +kernel)
  have nd := S.nd
  refine cal_F (n := 2) F b S (fun _ => rfl) rfl fun cdv A outer s H E hr => ⟨_, (pss_cons (ps_setLc (i := 3) (own := [("_law_cells_here", 4)]) (g := (gName 4)) rfl nd rfl rfl (sw_true rfl rfl rfl (by decide +kernel)) (piL K rfl (C8.pe_c c__law_all_cells hr (by decide) (by rfl) (pa_cons (pv 0) (pa_cons (pv 1) pa_nil)))) (blkOk_by (by kernel_rfl)) (fun _ _ _ _ _ => (pg_name (i := 4) nd rfl (by first | exact Or.inl rfl | exact Or.inr rfl))) (fun _ _ _ _ _ => (pts_one (pt_cmpR (oEqD K rfl hr.units) (C8.pe_c c__law_lots hr (by decide) (by rfl) (pa_cons (pv 4) pa_nil)) (pv 2) (nomark _)))) (fun _ _ _ _ _ => (pe_callB (cLen K) (by rfl) T.b_len (by decide +kernel) (pa_cons (C8.pe_c c__law_steps hr (by decide) (by rfl) (pa_cons (pv 4) pa_nil)) pa_nil))))
    (pss_one (ps_ret (pe_ifExp (pt_cmpR (oNeD K rfl hr.units) (pv 3) (pe_lst pa_nil) (nomark _)) (pe_callB (cMinL K rfl rfl) (by rfl) T.b_min (by decide +kernel) (pa_cons (pv 3) pa_nil)) pe_non)))), ?_⟩
  rintro ⟨R, M, ls⟩ ⟨z, hne⟩
  have z : SzOk4 R M := z
  have hne : fewestList R M ls ≠ [] := hne
  have hz : (allCells R M).length ≤ 256 := by unfold allCells; rw [List.length_map]; exact texts_small z.p
  obtain ⟨m, hmm⟩ : ∃ m, (fewestList R M ls).min? = some m := by
    cases h : (fewestList R M ls).min? with
    | none => exact absurd (List.min?_eq_none_iff.mp h) hne
    | some m => exact ⟨m, rfl⟩
  have hmin := List.min?_eq_some_iff.mp hmm
  refine rt_seq (st_asg (P := D K (eNs (fewestList R M ls))) (Ev.is (ev_new (en_lc (xs := allCells R M) (A := fun cs => D K (eC cs)) (F := fun cs => if decide (lotsOf cs = ls) then some (eN (stepsOf cs).length) else none) (ei_listM (ev_call (α := Nat × Nat) (R, M) (ea_cons (ev_var rfl) (ea_cons (ev_var rfl) ea_nil)) z)) rfl rfl (by omega) fun cs hcs =>
    cg_name (by decide) (lt_some rfl) (et_test (ev_eqE okLs (x := lotsOf cs) (y := ls) (ev_call cs (ea_cons (ev_var rfl) ea_nil) (allCells_good z hcs).1) (ev_var rfl) trivial trivial)) (fun _ => ev_lenLN (ev_call cs (ea_cons (ev_var rfl) ea_nil) (allCells_good z hcs).1)) (fun _ => by rfl) (fun _ => by rfl))) ?_) (lt_some rfl)) ?_
  · rw [filterMap_if]
    show D K (.list (((allCells R M).filter _).map fun cs => eN (stepsOf cs).length)) = D K (.list ((((allCells R M).filter _).map fun cs => (stepsOf cs).length).map eN))
    rw [List.map_map]
    rfl
  refine rt_ret (ev_if (b := true) (Et.is (et_test (ev_neE okNs (x := fewestList R M ls) (y := []) (ev_var rfl) (ev_lst ed_nil (by show 0 ≤ 100000; decide)) trivial trivial)) ?_) (fun _ => Ev.is (ev_minL (ns := (fewestList R M ls).map fun n : Nat => (n : Int)) (m := (m : Int)) (Ev.is (ev_var rfl) ?_) ?_ ?_ ?_) ?_) (fun h => nomatch h)) (Wk.nil _)
  · rw [decide_eq_false hne]
    rfl
  · rw [← map_eN]
  · rw [List.length_map]
    exact List.length_pos_iff.mpr hne
  · exact List.mem_map.mpr ⟨m, hmin.1, rfl⟩
  · intro y hy
    obtain ⟨n, hn, rfl⟩ := List.mem_map.mp hy
    have := hmin.2 n hn
    omega
  · show D K (.int (m : Int)) = D K (eN (fewestOf R M ls))
    unfold fewestOf
    rw [hmm]
    rfl
end
end WF

/-! ## text W14 -/
namespace WF
open PySem PySem.Spec PyProof.Rows L2
theorem erase_perm {α : Type} : ∀ {l : List α} {k : Nat} (h : k < l.length), (l[k] :: l.eraseIdx k).Perm l
  | x :: xs, 0, _ => List.Perm.refl _
  | x :: xs, k + 1, h => by
    have hk : k < xs.length := by simpa using h
    have ih := erase_perm (l := xs) (k := k) hk
    show (xs[k] :: x :: xs.eraseIdx k).Perm (x :: xs)
    exact (List.Perm.swap _ _ _).trans (ih.cons x)
theorem map_erase {α β : Type} (f : α → β) : ∀ {l : List α} (k : Nat), (l.eraseIdx k).map f = (l.map f).eraseIdx k
  | [], _ => rfl
  | x :: xs, 0 => rfl
  | x :: xs, k + 1 => congrArg (f x :: ·) (map_erase f k)
/-- the lots in mixed order -/
def mixTo (r : Row) (ls : List (List Nat)) : Nat → Row × List (List Nat) × List (List Nat)
  | 0 => (r, ls, [])
  | i + 1 => ((taken (mixTo r ls i).1 (mixTo r ls i).2.1.length).2, (mixTo r ls i).2.1.eraseIdx (taken (mixTo r ls i).1 (mixTo r ls i).2.1.length).1,
      (mixTo r ls i).2.2 ++ [(mixTo r ls i).2.1.getD (taken (mixTo r ls i).1 (mixTo r ls i).2.1.length).1 []])
def mixed (r : Row) (ls : List (List Nat)) : (Bool × List (List Nat)) × Row :=
  ((!decide ((taken (mixTo r ls ls.length).1 2).1 = 0), (mixTo r ls ls.length).2.2), (taken (mixTo r ls ls.length).1 2).2)
theorem mix_inv (r : Row) (ls : List (List Nat)) : ∀ i ≤ ls.length, (mixTo r ls i).2.1.length = ls.length - i ∧ ((mixTo r ls i).2.1 ++ (mixTo r ls i).2.2).Perm ls ∧ (mixTo r ls i).2.2.length = i
  | 0, _ => ⟨rfl, by show (ls ++ []).Perm ls; rw [List.append_nil], rfl⟩
  | i + 1, h => by
    obtain ⟨h1, h2, h3⟩ := mix_inv r ls i (by omega)
    have hp : 0 < (mixTo r ls i).2.1.length := by omega
    have hk := taken_lt (r := (mixTo r ls i).1) hp
    refine ⟨?_, ?_, ?_⟩
    · show ((mixTo r ls i).2.1.eraseIdx _).length = _
      rw [List.length_eraseIdx, if_pos hk]
      omega
    · show ((mixTo r ls i).2.1.eraseIdx _ ++ ((mixTo r ls i).2.2 ++ [(mixTo r ls i).2.1.getD _ []])).Perm ls
      refine List.Perm.trans ?_ h2
      generalize (taken (mixTo r ls i).1 (mixTo r ls i).2.1.length).1 = k at hk
      have e : (mixTo r ls i).2.1.getD k [] = (mixTo r ls i).2.1[k] := by rw [List.getD_eq_getElem?_getD, List.getElem?_eq_getElem hk]; rfl
      rw [e]
      have p1 : ((mixTo r ls i).2.1[k] :: (mixTo r ls i).2.1.eraseIdx k).Perm (mixTo r ls i).2.1 := erase_perm hk
      refine List.Perm.trans ?_ (p1.append_right _)
      rw [← List.append_assoc]
      refine (List.perm_append_singleton _ _).trans ?_
      rfl
    · show ((mixTo r ls i).2.2 ++ [_]).length = _
      rw [List.length_append, h3]
      rfl
theorem mixed_perm (r : Row) (ls : List (List Nat)) : (mixed r ls).1.2.Perm ls := by
  obtain ⟨h1, h2, _⟩ := mix_inv r ls ls.length (Nat.le_refl _)
  have e : (mixTo r ls ls.length).2.1 = [] := List.length_eq_zero_iff.mp (by omega)
  rw [e] at h2
  exact h2
abbrev sp__law_mixed (K : PySem.W.Frag) (_ : Addr) : Sp := spR (α := Row × List (List Nat)) (fun a => oL K (rowD a.1)) (fun a => [D K (eLs a.2)]) (fun a => a.2.length ≤ 10000) (fun a => oL K (rowD (mixed a.1 a.2).2)) (fun a => D K (eLo (mixed a.1 a.2).1.1 (mixed a.1 a.2).1.2))
section
variable {P : Program} {w : World} {K : PySem.W.Frag} {mg : Str → Option Value} {base : Heap} {C : Addr}
theorem Ev.wk {Γ Γ1 Γ' : List Sl} {te : TE} {P : Pr} (h : Ev Γ te P Γ1) (w : Wk Γ1 Γ') : Ev Γ te P Γ' := fun σ G H k Q q => h σ G H k Q fun v G' H' m k' p => q v G' H' (m.wk w.own) (k'.wk w) p
theorem cal__law_mixed (T : Tx K mg C) {f : Addr} {fd : FuncData} (F : C8.Def K mg "_law_mixed" (topS 48) f fd) (b : Binds K fd ["_law_row", "_law_lots_here"] []) (c__law_taken : C8.Cal P w K mg base 1 "_law_taken" (sp__law_taken K C) []) : C8.Cal P w K mg base 2 "_law_mixed" (sp__law_mixed K C) [] := by
  have S : FnScope ["_law_row", "_law_lots_here", "_law_left", "_law_found"] ["_law_row", "_law_lots_here"] (C8.fnScope (topS 48)) := C8.fnScope_by (by decide +kernel)
  have nd := S.nd
  refine cal_R (n := 2) F b S (fun _ => rfl) rfl fun cdv A outer s H E hr => ⟨_, (pss_cons (ps_par (i := 2) (j := 3) rfl nd rfl rfl (by decide) rfl rfl (pa_cons (pe_callTy (cList K) (by rfl) T.b_list (by decide +kernel) (pa_cons (pv 1) pa_nil)) (pa_cons (pe_lst pa_nil) pa_nil)) (by rfl))
    (pss_cons (ps_while PassesOwn.never (pt_cmpR (oNeD K rfl hr.units) (pv 2) (pe_lst pa_nil) (nomark _)) (pss_one (ps_expr (peBm K rfl PySem.F.plainAttrs_list PySem.F.slot_list_append PySem.F.type_list_append mt_append (pv 3) (pa_cons (peBm K rfl PySem.F.plainAttrs_list PySem.F.slot_list_pop PySem.F.type_list_pop mt_popAt (pv 2) (pa_cons (C8.pe_c c__law_taken hr (by decide) (by rfl) (pa_cons (pv 0) (pa_cons (pe_callB (cLen K) (by rfl) T.b_len (by decide +kernel) (pa_cons (pv 2) pa_nil)) pa_nil))) pa_nil)) pa_nil)))))
    (pss_one (ps_ret (pe_ifExp (pt_cmpR op_eq (C8.pe_c c__law_taken hr (by decide) (by rfl) (pa_cons (pv 0) (pa_cons pe_int pa_nil))) pe_int (nomark _)) (pv 3) (pe_callTy (cTup K) (by rfl) T.b_tuple (by decide +kernel) (pa_cons (pv 3) pa_nil))))))), ?_⟩
  rintro ⟨r, ls⟩ h1 y
  have h1 : ls.length ≤ 10000 := h1
  refine rt_parNN (i := 2) (j := 3) (O := oL K (ls.map eL)) (O' := oL K []) (en_listOf (ev_var rfl) (.inl rfl)) (en_lst ed_nil (by show 0 ≤ 100000; decide)) (lt_some rfl) (lt_some rfl) fun p q => ?_
  refine rt_seq (Γ1 := [.own y (oL K (rowD (mixTo r ls ls.length).1)), .pr (D K (eLs ls)), .no, .own q (oL K ((mixTo r ls ls.length).2.2.map eL))]) ?_ ?_
  · refine go_whileW (S := fun i => [.own y (oL K (rowD (mixTo r ls i).1)), .pr (D K (eLs ls)), .own p (oL K ((mixTo r ls i).2.1.map eL)), .own q (oL K ((mixTo r ls i).2.2.map eL))]) (n := ls.length) (by repeat (first | exact Wk.nil _ | exact Wk.refl _ | refine Wk.cons (by first | exact Or.inr rfl | exact Or.inl rfl) ?_)) ?_ ?_ ?_ (by repeat (first | exact Wk.nil _ | exact Wk.refl _ | refine Wk.cons (by first | exact Or.inr rfl | exact Or.inl rfl) ?_))
    · intro i hi
      obtain ⟨m1, m2, m3⟩ := mix_inv r ls i (by omega)
      refine Et.is (et_test (ev_neEmpty rfl (okLs.shaped trivial))) ?_
      have hp : (mixTo r ls i).2.1 ≠ [] := fun e => by rw [e] at m1; simp only [List.length_nil] at m1; omega
      cases e : (mixTo r ls i).2.1 with
      | nil => exact absurd e hp
      | cons x xs => rfl
    · intro i hi
      obtain ⟨m1, m2, m3⟩ := mix_inv r ls i (by omega)
      have hp : 0 < (mixTo r ls i).2.1.length := by omega
      have hk := taken_lt (r := (mixTo r ls i).1) hp
      refine (st_append (d := eL ((mixTo r ls i).2.1.getD (taken (mixTo r ls i).1 (mixTo r ls i).2.1.length).1 [])) rfl (ev_popAt (k := (taken (mixTo r ls i).1 (mixTo r ls i).2.1.length).1) rfl (ev_callR (α := Row × Nat) ((mixTo r ls i).1, (mixTo r ls i).2.1.length) rfl (ea_cons (Ev.is (ev_lenO rfl) ?_) ea_nil) rfl ⟨hp, by show (mixTo r ls i).2.1.length ≤ 100000; omega⟩) rfl ?_ (by omega)) rfl ?_).wk ?_
      · rw [List.length_map]
      · rw [List.getElem?_map, List.getD_eq_getElem?_getD, List.getElem?_eq_getElem hk]
        rfl
      · rw [List.length_map]
        omega
      · refine Wk.cons (.inr rfl) (Wk.cons (.inr rfl) (Wk.cons (.inr (congrArg (fun z => Sl.own p (oL K z)) ?_)) (Wk.cons (.inr (congrArg (fun z => Sl.own q (oL K z)) ?_)) (Wk.nil _))))
        · show ((mixTo r ls i).2.1.eraseIdx _).map eL = ((mixTo r ls i).2.1.map eL).eraseIdx _
          exact map_erase _ _
        · show ((mixTo r ls i).2.2 ++ [_]).map eL = (mixTo r ls i).2.2.map eL ++ [_]
          rw [List.map_append]
          rfl
    · obtain ⟨m1, m2, m3⟩ := mix_inv r ls ls.length (Nat.le_refl _)
      refine Et.is (et_test (ev_neEmpty rfl (okLs.shaped trivial))) ?_
      rw [List.length_eq_zero_iff.mp (show (mixTo r ls ls.length).2.1.length = 0 by omega)]
      rfl
  · refine rt_ret (Γ1 := [.own y (oL K (rowD (mixed r ls).2)), .pr (D K (eLs ls)), .no, .no]) (ev_if (b := decide ((taken (mixTo r ls ls.length).1 2).1 = 0)) (et_test (ev_eqN (j := 0) (ev_callR (α := Row × Nat) ((mixTo r ls ls.length).1, 2) rfl (ea_cons ev_int ea_nil) rfl ⟨by show 0 < 2; decide, by show 2 ≤ 100000; decide⟩) ev_int)) (fun hb => ?_) (fun hb => ?_)) (by repeat (first | exact Wk.nil _ | exact Wk.refl _ | refine Wk.cons (by first | exact Or.inr rfl | exact Or.inl rfl) ?_))
    · have e : (mixed r ls).1.1 = false := by
        show (!decide ((taken (mixTo r ls ls.length).1 2).1 = 0)) = false
        rw [hb]
        rfl
      refine Ev.wk (Ev.is (ev_own rfl) ?_) (by repeat (first | exact Wk.nil _ | exact Wk.refl _ | refine Wk.cons (by first | exact Or.inr rfl | exact Or.inl rfl) ?_))
      show D K (eLs _) = D K (eLo (mixed r ls).1.1 _)
      rw [e]
      rfl
    · have e : (mixed r ls).1.1 = true := by
        show (!decide ((taken (mixTo r ls ls.length).1 2).1 = 0)) = true
        rw [hb]
        rfl
      refine Ev.wk (Ev.is (ev_tupleOfO rfl) ?_) (by repeat (first | exact Wk.nil _ | exact Wk.refl _ | refine Wk.cons (by first | exact Or.inr rfl | exact Or.inl rfl) ?_))
      show D K (.tuple _) = D K (eLo (mixed r ls).1.1 _)
      rw [e]
      rfl
end
end WF

/-! ## text W15 -/
namespace WF
open PySem PySem.Spec PyProof.Rows L2
theorem joinL_signs : ∀ cs : List Nat, TL.joinL [] (cs.map fun c => [c]) = cs
  | [] => rfl
  | [c] => rfl
  | c :: d :: r => by
    show [c] ++ ([] ++ TL.joinL [] ((d :: r).map fun c => [c])) = _
    rw [joinL_signs (d :: r)]
    rfl
theorem join_signs (cs : List Nat) : Txt.join (⟨#[]⟩ : Str) (cs.map fun c => (⟨#[c]⟩ : Str)) = ⟨cs.toArray⟩ := by
  have e : (cs.map fun c => (⟨#[c]⟩ : Str)) = (cs.map fun c => [c]).map fun a : List Nat => (⟨a.toArray⟩ : Str) := by
    rw [List.map_map]
    rfl
  rw [e]
  have h := SX.join_S [] (cs.map fun c => [c])
  rw [joinL_signs] at h
  exact h
def wordsOf : List (List Nat) := [[46, 60, 62, 120], [46, 46, 46, 46, 60, 62, 120], [60, 62], [60, 62, 120], [46, 120], [62, 62, 62, 62, 62, 62, 60], [46, 46, 46, 46, 46, 60, 62], [46], [120], [62]]
def lettersTo (r : Row) (w : List Nat) : Nat → List Nat × Row
  | 0 => ([], r)
  | i + 1 => ((lettersTo r w i).1 ++ [w.getD (taken (lettersTo r w i).2 w.length).1 0], (taken (lettersTo r w i).2 w.length).2)
def linesTo (r : Row) (w : List Nat) (M : Nat) : Nat → List (List Nat) × Row
  | 0 => ([], r)
  | i + 1 => ((linesTo r w M i).1 ++ [(lettersTo (linesTo r w M i).2 w M).1], (lettersTo (linesTo r w M i).2 w M).2)
def letterAt (r : Row) (w : List Nat) (k : Nat) : Nat := w.getD (taken (lettersTo r w k).2 w.length).1 0
theorem letters_map (r : Row) (w : List Nat) : ∀ n, (lettersTo r w n).1 = (List.range n).map (letterAt r w)
  | 0 => rfl
  | n + 1 => by
    rw [List.range_succ, List.map_append, ← letters_map r w n]
    rfl
def lcW (r : Row) : List Nat := wordsOf.getD (taken r 10).1 []
def lcR (r : Row) (m : Nat) : Nat := 1 + (taken (taken r 10).2 m).1
def lcM (r : Row) (m : Nat) : Nat := 1 + (taken (taken (taken r 10).2 m).2 m).1
def lcL (r : Row) (m : Nat) : List (List Nat) × Row := linesTo (taken (taken (taken r 10).2 m).2 m).2 (lcW r) (lcM r m) (lcR r m)
def lcT (r : Row) (m : Nat) : Nat × Row := taken (lcL r m).2 3
def lcA (r : Row) (m : Nat) : Nat × Row := taken (lcT r m).2 (lcR r m)
def lcP (r : Row) (m : Nat) : Nat × Row := taken (lcA r m).2 (lcM r m)
def lcS (r : Row) (m : Nat) : Nat × Row := taken (lcP r m).2 4
def lawCells (r : Row) (m : Nat) : List (List Nat) × Row :=
  if (lcT r m).1 = 0 then (setCell (lcL r m).1 (lcA r m).1 (lcP r m).1 (signs.getD (lcS r m).1 0), (lcS r m).2) else ((lcL r m).1, (lcT r m).2)
theorem word_ok {k : Nat} (h : k < 10) : wordsOf.getD k [] ≠ [] ∧ (wordsOf.getD k []).length ≤ 10 ∧ ∀ c ∈ wordsOf.getD k [], c ∈ signs := by
  have : ∀ k : Fin 10, wordsOf.getD k.1 [] ≠ [] ∧ (wordsOf.getD k.1 []).length ≤ 10 ∧ ∀ c ∈ wordsOf.getD k.1 [], c ∈ signs := by decide
  exact this ⟨k, h⟩
theorem letters_ok {r : Row} {w : List Nat} (hw : w ≠ []) (hs : ∀ c ∈ w, c ∈ signs) : ∀ i, (lettersTo r w i).1.length = i ∧ ∀ c ∈ (lettersTo r w i).1, c ∈ signs
  | 0 => ⟨rfl, fun c h => by cases h⟩
  | i + 1 => by
    obtain ⟨h1, h2⟩ := letters_ok (r := r) hw hs i
    have hp := List.length_pos_iff.mpr hw
    have hk := taken_lt (r := (lettersTo r w i).2) hp
    refine ⟨?_, fun c hc => ?_⟩
    · show ((lettersTo r w i).1 ++ [_]).length = _
      rw [List.length_append, h1]
      rfl
    · have hc : c ∈ (lettersTo r w i).1 ++ [w.getD (taken (lettersTo r w i).2 w.length).1 0] := hc
      rcases List.mem_append.mp hc with hc | hc
      · exact h2 c hc
      · rw [List.mem_singleton.mp hc]
        exact hs _ (List.mem_of_getElem? (getD_at hk))
theorem lines_ok {r : Row} {w : List Nat} {M : Nat} (hw : w ≠ []) (hs : ∀ c ∈ w, c ∈ signs) : ∀ i, (linesTo r w M i).1.length = i ∧ ∀ l ∈ (linesTo r w M i).1, l.length = M ∧ ∀ c ∈ l, c ∈ signs
  | 0 => ⟨rfl, fun c h => by cases h⟩
  | i + 1 => by
    obtain ⟨h1, h2⟩ := lines_ok (r := r) (M := M) hw hs i
    refine ⟨?_, fun l hc => ?_⟩
    · show ((linesTo r w M i).1 ++ [_]).length = _
      rw [List.length_append, h1]
      rfl
    · have hc : l ∈ (linesTo r w M i).1 ++ [(lettersTo (linesTo r w M i).2 w M).1] := hc
      rcases List.mem_append.mp hc with hc | hc
      · exact h2 l hc
      · rw [List.mem_singleton.mp hc]
        exact letters_ok hw hs M
theorem lcL_good {r : Row} {m : Nat} (h1 : 1 ≤ m) (h5 : m ≤ 5) : Good (lcL r m).1 ∧ (lcL r m).1.length = lcR r m ∧ colsOf (lcL r m).1 = lcM r m := by
  have w := word_ok (taken_lt (r := r) (show 0 < 10 by decide))
  have hR : lcR r m ≤ m := by have := taken_lt (r := (taken r 10).2) (show 0 < m by omega); unfold lcR; omega
  have hM : lcM r m ≤ m := by have := taken_lt (r := (taken (taken r 10).2 m).2) (show 0 < m by omega); unfold lcM; omega
  have hR1 : 1 ≤ lcR r m := Nat.le_add_right _ _
  have hM1 : 1 ≤ lcM r m := Nat.le_add_right _ _
  obtain ⟨a, b⟩ := lines_ok (r := (taken (taken (taken r 10).2 m).2 m).2) (w := lcW r) (M := lcM r m) w.1 w.2.2 (lcR r m)
  have hl : (lcL r m).1.length = lcR r m := a
  have hb : ∀ l ∈ (lcL r m).1, l.length = lcM r m ∧ ∀ c ∈ l, c ∈ signs := b
  have hc : colsOf (lcL r m).1 = lcM r m := (hb _ (by
    rw [List.getD_eq_getElem?_getD, List.getElem?_eq_getElem (by omega)]
    exact List.getElem_mem _)).1
  exact ⟨⟨by omega, by omega, by omega, by omega, fun l h => by rw [hc]; exact (hb l h).1, fun l h => (hb l h).2⟩, hl, hc⟩
theorem lawCells_good {r : Row} {m : Nat} (h1 : 1 ≤ m) (h5 : m ≤ 5) : Good (lawCells r m).1 := by
  obtain ⟨g, e1, e2⟩ := lcL_good (r := r) h1 h5
  unfold lawCells
  split
  · have hR1 : 0 < lcR r m := by unfold lcR; omega
    have h4 := taken_lt (r := (lcP r m).2) (show 0 < 4 by decide)
    refine setCell_good g (by have := taken_lt (r := (lcT r m).2) hR1; unfold lcA; omega) ?_
    exact List.mem_of_getElem? (getD_at h4)
  · exact g
abbrev sp__law_cells (K : PySem.W.Frag) (_ : Addr) : Sp := spR (α := Row × Nat) (fun a => oL K (rowD a.1)) (fun a => [D K (eN a.2)]) (fun a => 1 ≤ a.2 ∧ a.2 ≤ 5) (fun a => oL K (rowD (lawCells a.1 a.2).2)) (fun a => D K (eC (lawCells a.1 a.2).1))
section
variable {P : Program} {w : World} {K : PySem.W.Frag} {mg : Str → Option Value} {base : Heap} {C : Addr}
theorem Ev.wkN {Γ Γ1 Γ' : List Sl} {te : TE} {O : Ob} (h : EvN Γ te O Γ1) (e : Γ1 = Γ') : EvN Γ te O Γ' := e ▸ h
/-- the row and the number: a draw -/
theorem ev_draw {Γ Γ1 : List Sl} {y : Addr} {r : Row} {m : Nat} {ta : TE} {E : XK} {Ox : Ob} (h0 : Γ[0]? = some (.own y Ox)) (h : Ev Γ ta (D K (eN m)) Γ1) (h1 : Γ1[0]? = some (.own y (oL K (rowD r)))) (hm : 0 < m) (hm2 : m ≤ 100000) :
    Ev Γ (tCall (sp__law_taken K C) [] E (tCons (tVar 0) (tCons ta tNil))) (D K (eN (taken r m).1)) (Γ1.set 0 (.own y (oL K (rowD (taken r m).2)))) := ev_callR (α := Row × Nat) (r, m) h0 (ea_cons h ea_nil) h1 ⟨hm, hm2⟩
theorem cal__law_cells (T : Tx K mg C) {f : Addr} {fd : FuncData} (F : C8.Def K mg "_law_cells" (topS 51) f fd) (b : Binds K fd ["_law_row", "_law_most"] []) (c__law_taken : C8.Cal P w K mg base 1 "_law_taken" (sp__law_taken K C) []) : C8.Cal P w K mg base 2 "_law_cells" (sp__law_cells K C) [] := by
  have S : FnScope ["_law_row", "_law_most", "_law_some", "_law_lines", "_law_at", "_law_rows", "_law_columns", "_law_place"] ["_law_row", "_law_most"] (C8.fnScope (topS 51)) := C8.fnScope_by (by decide +kernel)
  have nd := S.nd
  refine cal_R (n := 6) F b S (fun _ => rfl) rfl fun cdv A outer s H E hr => ⟨_, (pss_cons (ps_set (i := 2) nd rfl (Or.inr rfl) (pe_ix (ixL K) (pe_lst (pa_cons pe_str (pa_cons pe_str (pa_cons pe_str (pa_cons pe_str (pa_cons pe_str (pa_cons pe_str (pa_cons pe_str (pa_cons pe_str (pa_cons pe_str (pa_cons pe_str pa_nil))))))))))) (C8.pe_c c__law_taken hr (by decide) (by rfl) (pa_cons (pv 0) (pa_cons pe_int pa_nil))) (fun _ _ => rfl)))
    (pss_cons (ps_par (i := 5) (j := 6) rfl nd rfl rfl (by decide) rfl rfl (pa_cons (pe_op op_add pe_int (C8.pe_c c__law_taken hr (by decide) (by rfl) (pa_cons (pv 0) (pa_cons (pv 1) pa_nil)))) (pa_cons (pe_op op_add pe_int (C8.pe_c c__law_taken hr (by decide) (by rfl) (pa_cons (pv 0) (pa_cons (pv 1) pa_nil)))) pa_nil)) (by rfl))
    (pss_cons (ps_set (i := 3) nd rfl (Or.inl rfl) (pe_lst pa_nil))
    (pss_cons (ps_for PassesOwn.never rfl (pi_range1 (by rfl) T.b_range (pa_cons (pv 5) pa_nil)) (pg_name (i := 4) nd rfl (by first | exact Or.inl rfl | exact Or.inr rfl))
    (pss_one (ps_expr (peBm K rfl PySem.F.plainAttrs_list PySem.F.slot_list_append PySem.F.type_list_append mt_append (pv 3) (pa_cons (peJoin K rfl pe_str (pe_lc (own := [("_law_place", 7)]) (g := (gName 7)) rfl nd (pi_range1 (by rfl) T.b_range (pa_cons (pv 6) pa_nil)) (blkOk_by (by kernel_rfl)) (fun _ _ _ _ _ => (pg_name (i := 7) nd rfl (by first | exact Or.inl rfl | exact Or.inr rfl))) (fun _ _ _ _ _ => pts_nil) (fun _ _ _ _ _ => (pe_ix ix_str (pv 2) (C8.pe_c c__law_taken hr (by decide) (by rfl) (pa_cons (pv 0) (pa_cons (pe_callB call_len_str (by rfl) T.b_len (by decide +kernel) (pa_cons (pv 2) pa_nil)) pa_nil))) (fun _ _ => rfl))))) pa_nil)))))
    (pss_cons (ps_if (pt_cmpR op_eq (C8.pe_c c__law_taken hr (by decide) (by rfl) (pa_cons (pv 0) (pa_cons pe_int pa_nil))) pe_int (nomark _)) (pss_cons (ps_par (i := 4) (j := 7) rfl nd rfl rfl (by decide) rfl rfl (pa_cons (C8.pe_c c__law_taken hr (by decide) (by rfl) (pa_cons (pv 0) (pa_cons (pv 5) pa_nil))) (pa_cons (C8.pe_c c__law_taken hr (by decide) (by rfl) (pa_cons (pv 0) (pa_cons (pv 6) pa_nil))) pa_nil)) (by rfl))
    (pss_one (ps_asg (pe_op op_add_str (pe_op op_add_str (pe_slice sl_str (pe_ix (ixL K) (pv 3) (pv 4) (fun _ _ => rfl)) po_none (po_some (pv 7))) (pe_ix ix_str pe_str (C8.pe_c c__law_taken hr (by decide) (by rfl) (pa_cons (pv 0) (pa_cons pe_int pa_nil))) (fun _ _ => rfl))) (pe_slice sl_str (pe_ix (ixL K) (pv 3) (pv 4) (fun _ _ => rfl)) (po_some (pe_op op_add (pv 7) pe_int)) po_none)) (pg_sub (pv 3) (pv 4) set_list)))) pss_nil)
    (pss_one (ps_ret (pe_callTy (cTup K) (by rfl) T.b_tuple (by decide +kernel) (pa_cons (pv 3) pa_nil))))))))), ?_⟩
  rintro ⟨r, m⟩ ⟨h1, h5⟩ y
  have h1 : 1 ≤ m := h1
  have h5 : m ≤ 5 := h5
  obtain ⟨g, e1, e2⟩ := lcL_good (r := r) h1 h5
  have w := word_ok (taken_lt (r := r) (show 0 < 10 by decide))
  have hw : (lcW r).length ≤ 10 := w.2.1
  have hw0 : lcW r ≠ [] := w.1
  have hwp := List.length_pos_iff.mpr hw0
  have hR5 : lcR r m ≤ 5 := by have := g.r5; omega
  have hM5 : lcM r m ≤ 5 := by have := g.c5; omega
  refine rt_seq (st_asg (P := D K (eS (lcW r))) (ev_ixLN (ds := wordsOf.map eS) (i := (taken r 10).1) (ev_lst (ed_cons ev_str (ed_cons ev_str (ed_cons ev_str (ed_cons ev_str (ed_cons ev_str (ed_cons ev_str (ed_cons ev_str (ed_cons ev_str (ed_cons ev_str (ed_cons ev_str ed_nil)))))))))) (by show 10 ≤ 100000; decide)) (ev_draw (m := 10) rfl ev_int rfl (by decide) (by decide)) ?_) (lt_some rfl)) ?_
  · rw [List.getElem?_map]
    have hk := taken_lt (r := r) (show 0 < 10 by decide)
    unfold lcW
    rw [List.getD_eq_getElem?_getD, List.getElem?_eq_getElem (show (taken r 10).1 < wordsOf.length from hk)]
    rfl
  refine rt_seq (go_par (P1 := D K (eN (lcR r m))) (P2 := D K (eN (lcM r m))) (ev_addN (i := 1) ev_int (ev_draw rfl (ev_var rfl) rfl (by omega) (by omega))) (ev_addN (i := 1) ev_int (ev_draw rfl (ev_var rfl) rfl (by omega) (by omega))) (lt_some rfl) (lt_some rfl)) ?_
  refine rt_new (O := oL K []) (en_lst ed_nil (by show 0 ≤ 100000; decide)) (lt_some rfl) fun a => ?_
  refine rt_seq (Γ1 := [.own y (oL K (rowD (lcL r m).2)), .pr (D K (eN m)), .pr (D K (eS (lcW r))), .own a (oL K ((lcL r m).1.map eS)), .no, .pr (D K (eN (lcR r m))), .pr (D K (eN (lcM r m))), .no]) ?_ ?_
  · refine go_forM (xs := List.range (lcR r m)) (A := fun i => D K (eN i)) (S := fun i => [.own y (oL K (rowD (linesTo (taken (taken (taken r 10).2 m).2 m).2 (lcW r) (lcM r m) i).2)), .pr (D K (eN m)), .pr (D K (eS (lcW r))), .own a (oL K ((linesTo (taken (taken (taken r 10).2 m).2 m).2 (lcW r) (lcM r m) i).1.map eS)), .no, .pr (D K (eN (lcR r m))), .pr (D K (eN (lcM r m))), .no])
      (ei_rngN (ev_var rfl) (by omega)) (by repeat (first | exact Wk.nil _ | exact Wk.refl _ | refine Wk.cons (by first | exact Or.inr rfl | exact Or.inl rfl) ?_)) (fun i x hx => ?_) (by rw [List.length_range]; exact (by repeat (first | exact Wk.nil _ | exact Wk.refl _ | refine Wk.cons (by first | exact Or.inr rfl | exact Or.inl rfl) ?_)))
    obtain ⟨hi, rfl⟩ := range_at hx
    obtain ⟨l1, l2⟩ := letters_ok (r := (linesTo (taken (taken (taken r 10).2 m).2 m).2 (lcW r) (lcM r m) x).2) hw0 w.2.2 (lcM r m)
    have ll := (lines_ok (r := (taken (taken (taken r 10).2 m).2 m).2) (w := lcW r) (M := lcM r m) hw0 w.2.2 x).1
    refine tg_name (lt_some rfl) ?_
    refine (st_append (d := eS (lettersTo (linesTo (taken (taken (taken r 10).2 m).2 m).2 (lcW r) (lcM r m) x).2 (lcW r) (lcM r m)).1) (Γ1 := [.own y (oL K (rowD (lettersTo (linesTo (taken (taken (taken r 10).2 m).2 m).2 (lcW r) (lcM r m) x).2 (lcW r) (lcM r m)).2)), .pr (D K (eN m)), .pr (D K (eS (lcW r))), .own a (oL K ((linesTo (taken (taken (taken r 10).2 m).2 m).2 (lcW r) (lcM r m) x).1.map eS)), .pr (D K (eN x)), .pr (D K (eN (lcR r m))), .pr (D K (eN (lcM r m))), .no]) rfl
      (Ev.is (ev_join (z := ⟨#[]⟩) (zs := (lettersTo (linesTo (taken (taken (taken r 10).2 m).2 m).2 (lcW r) (lcM r m) x).2 (lcW r) (lcM r m)).1.map fun c => (⟨#[c]⟩ : Str)) ev_str (Ev.is (ev_new (K := K) (Ev.wkN (en_lcS (S := fun k => [.own y (oL K (rowD (lettersTo (linesTo (taken (taken (taken r 10).2 m).2 m).2 (lcW r) (lcM r m) x).2 (lcW r) k).2)), .pr (D K (eN m)), .pr (D K (eS (lcW r))), .own a (oL K ((linesTo (taken (taken (taken r 10).2 m).2 m).2 (lcW r) (lcM r m) x).1.map eS)), .pr (D K (eN x)), .pr (D K (eN (lcR r m))), .pr (D K (eN (lcM r m))), .no])
        (F := fun k => if true then some (eS [letterAt (linesTo (taken (taken (taken r 10).2 m).2 m).2 (lcW r) (lcM r m) x).2 (lcW r) k]) else none) (ei_rngN (ev_var rfl) (by omega)) (fun _ => rfl) (fun _ _ hv => by rw [List.mem_singleton.mp hv]; rfl) rfl (by rw [List.length_map, List.length_range]; omega) fun k X hX => ?_) ?_)) ?_) ?_) ?_) rfl ?_).wk ?_
    · rw [List.getElem?_map] at hX
      cases hk : (List.range (lcM r m))[k]? with
      | none => rw [hk] at hX; cases hX
      | some k' =>
        rw [hk] at hX
        cases hX
        obtain ⟨hk2, rfl⟩ := range_at hk
        refine cg_name (by decide) (lt_some rfl) et_yes (fun _ => ev_ixSN (ev_var rfl) (ev_draw rfl (ev_lenSN (ev_var rfl) (by omega)) rfl hwp (by omega)) (by omega) ?_) (fun h => nomatch h) (fun _ => by rfl)
        exact getD_at (taken_lt hwp)
    · rw [List.length_map, List.length_range]
    · rw [filterMap_some, List.length_map, List.length_range, letters_map, List.map_map, List.map_map]
      rfl
    · rw [List.map_map, List.length_map]
      show ((lettersTo _ _ _).1.map fun _ => 1).sum + _ * 0 ≤ 100000
      rw [Nat.mul_zero, Nat.add_zero]
      have hsum : ∀ l : List Nat, (l.map fun _ => 1).sum = l.length := fun l => by
        induction l with
        | nil => rfl
        | cons x xs ih => rw [List.map_cons, List.sum_cons, ih, List.length_cons]; omega
      rw [hsum]
      omega
    · rw [join_signs]
    · rw [List.length_map]
      omega
    · refine Wk.cons (.inr rfl) (Wk.cons (.inr rfl) (Wk.cons (.inr rfl) (Wk.cons (.inr (congrArg (fun z => Sl.own a (oL K z)) ?_)) (by repeat (first | exact Wk.nil _ | exact Wk.refl _ | refine Wk.cons (by first | exact Or.inr rfl | exact Or.inl rfl) ?_)))))
      show ((linesTo _ _ _ x).1 ++ [_]).map eS = _
      rw [List.map_append]
      rfl
  · refine rt_seq (Γ1 := [.own y (oL K (rowD (lawCells r m).2)), .pr (D K (eN m)), .pr (D K (eS (lcW r))), .own a (oL K ((lawCells r m).1.map eS)), .no, .pr (D K (eN (lcR r m))), .pr (D K (eN (lcM r m))), .no]) (st_if (b := decide ((lcT r m).1 = 0)) (et_test (ev_eqN (j := 0) (ev_draw (m := 3) rfl ev_int rfl (by decide) (by decide)) ev_int)) (fun hb => ?_) (fun hb => ?_)) (rt_ret (ev_tupleOfO rfl) (by repeat (first | exact Wk.nil _ | exact Wk.refl _ | refine Wk.cons (by first | exact Or.inr rfl | exact Or.inl rfl) ?_)))
    · have hb := of_decide_eq_true hb
      have e : lawCells r m = (setCell (lcL r m).1 (lcA r m).1 (lcP r m).1 (signs.getD (lcS r m).1 0), (lcS r m).2) := if_pos hb
      have hA : (lcA r m).1 < (lcL r m).1.length := by
        rw [e1]
        exact taken_lt (by unfold lcR; omega)
      have hP : (lcP r m).1 < lcM r m := taken_lt (by unfold lcM; omega)
      have hat : ((lcL r m).1.map eS)[(lcA r m).1]? = some (eS ((lcL r m).1.getD (lcA r m).1 [])) := by
        rw [List.getElem?_map, List.getD_eq_getElem?_getD, List.getElem?_eq_getElem hA]
        rfl
      have hlen : ((lcL r m).1.getD (lcA r m).1 []).length = lcM r m := by
        rw [← e2]
        refine g.ln _ (List.mem_of_getElem? (i := (lcA r m).1) ?_)
        rw [List.getD_eq_getElem?_getD, List.getElem?_eq_getElem hA]
        rfl
      have hS := taken_lt (r := (lcP r m).2) (show 0 < 4 by decide)
      rw [e]
      refine (st_seq (go_par (P1 := D K (eN (lcA r m).1)) (P2 := D K (eN (lcP r m).1)) (ev_draw rfl (ev_var rfl) rfl (by unfold lcR; omega) (by omega)) (ev_draw rfl (ev_var rfl) rfl (by unfold lcM; omega) (by omega)) (lt_some rfl) (lt_some rfl))
        (go_setL (j := (lcA r m).1) (d := eS (((lcL r m).1.getD (lcA r m).1 []).set (lcP r m).1 (signs.getD (lcS r m).1 0))) (Ev.is (ev_addS (ev_addS (ev_slS (ev_ixO rfl (ev_var rfl) rfl (atI_nat hat)) eo_none (eo_some (ev_var rfl)) ?_) (ev_ixSN (z := signs) (c := signs.getD (lcS r m).1 0) ev_str (ev_draw (m := 4) rfl ev_int rfl (by decide) (by decide)) (by decide) (getD_at hS)) ?_) (ev_slS (ev_ixO rfl (ev_var rfl) rfl (atI_nat hat)) (eo_some (ev_addN (j := 1) (ev_var rfl) ev_int)) eo_none ?_) ?_) ?_) rfl (ev_var rfl) rfl ?_)).wk ?_
      · show ((lcL r m).1.getD (lcA r m).1 []).toArray.size ≤ 100000
        rw [List.size_toArray]
        omega
      · rw [cutS_to (by omega)]
        show (((lcL r m).1.getD (lcA r m).1 []).take _).toArray.size + [_].toArray.size ≤ 100000
        rw [List.size_toArray, List.size_toArray, List.length_take]
        simp only [List.length_cons, List.length_nil]
        omega
      · show ((lcL r m).1.getD (lcA r m).1 []).toArray.size ≤ 100000
        rw [List.size_toArray]
        omega
      · rw [cutS_to (by omega), cutS_from (by omega), str_app]
        show (((lcL r m).1.getD (lcA r m).1 []).take _ ++ [_]).toArray.size + (((lcL r m).1.getD (lcA r m).1 []).drop _).toArray.size ≤ 100000
        rw [List.size_toArray, List.size_toArray, List.length_append, List.length_take, List.length_drop]
        simp only [List.length_cons, List.length_nil]
        omega
      · rw [cutS_to (by omega), cutS_from (by omega), str_app, str_app, set_cut (by omega)]
      · rw [List.length_map]
        exact hA
      · refine Wk.cons (.inr rfl) (Wk.cons (.inr rfl) (Wk.cons (.inr rfl) (Wk.cons (.inr (congrArg (fun z => Sl.own a (oL K z)) ?_)) (by repeat (first | exact Wk.nil _ | exact Wk.refl _ | refine Wk.cons (by first | exact Or.inr rfl | exact Or.inl rfl) ?_)))))
        show ((lcL r m).1.set _ _).map eS = ((lcL r m).1.map eS).set _ (eS _)
        rw [List.map_set]
    · have hb := of_decide_eq_false hb
      have e : lawCells r m = ((lcL r m).1, (lcT r m).2) := if_neg hb
      rw [e]
      exact st_next.wk (by repeat (first | exact Wk.nil _ | exact Wk.refl _ | refine Wk.cons (by first | exact Or.inr rfl | exact Or.inl rfl) ?_))
end
end WF

/-! ## text M3 -/
namespace WF
open PySem PySem.Spec PyProof.Rows L2
/-! ### what the law asks of the mathematics -/
abbrev built (cs ls : List (List Nat)) : List (List Nat) := boardOfSteps cs.length (colsOf cs) (neededSteps cs.length (colsOf cs) ls)
theorem built_dims {cs ls : List (List Nat)} (g : Good cs) : Good (built cs ls) ∧ (built cs ls).length = cs.length ∧ colsOf (built cs ls) = colsOf cs := by
  have h0 : (built cs ls).length = cs.length := by unfold built boardOfSteps; rw [List.length_map, List.length_range]
  refine ⟨boardOfSteps_good g.r1 g.r5 g.c1 g.c5, h0, ?_⟩
  have hm : (built cs ls).getD 0 [] ∈ built cs ls := by
    have := g.r1
    rw [List.getD_eq_getElem?_getD, List.getElem?_eq_getElem (by omega)]
    exact List.getElem_mem _
  obtain ⟨r, _, e⟩ := List.mem_map.mp hm
  unfold colsOf
  rw [← e, List.length_map, List.length_range]
  rfl
theorem need_ok {cs ls : List (List Nat)} (g : Good cs) (h : ls.Perm (lotsOf cs)) : NeedOk cs.length (colsOf cs) ls := by
  have c := ctx_of g h
  have hn : cs.length + colsOf cs ≤ 10 := manyOf_le g
  have hp2 : ls.Perm ((allLots (cs.length + colsOf cs)).filter (closes (stepsOf cs))) := h.trans (by unfold lotsOf; exact List.mergeSort_perm _ _)
  have hm : ∀ l ∈ ls, l ∈ allLots (cs.length + colsOf cs) := fun l hl => (List.mem_filter.mp (hp2.mem_iff.mp hl)).1
  refine ⟨⟨g.r1, g.r5, g.c1, g.c5, fun l hl => ⟨allLots_lt (hm l hl), allLots_up (hm l hl)⟩, ?_, ?_, fun l hl => ?_⟩, ?_, fun i hi => List.ne_nil_of_mem (c.part_self hi), fun p hp h1 => ?_, fun p hp o ho hc => c.cover_ne hp ho hc⟩
  · exact hp2.nodup_iff.mpr ((allLots_nodup _).sublist List.filter_sublist)
  · have h1 := List.length_filter_le (closes (stepsOf cs)) (allLots (cs.length + colsOf cs))
    have h2 := allLots_small hn
    have h3 := hp2.length_eq
    omega
  · have := allLots_mem (hm l hl)
    omega
  · unfold areAll
    rw [decide_eq_true_iff, aheadOf_len, hp2.length_eq]
    congr 1
    refine List.filter_congr fun l hl => ?_
    have hlt := allLots_lt hl
    rw [Bool.eq_iff_iff, closes_rch]
    unfold keepsIn liesIn
    rw [List.all_eq_true]
    constructor
    · intro k t ht
      rw [List.all_eq_true]
      intro o ho
      exact decide_eq_true (k o t ((c.mem_ah (hlt t ht)).mp ho) ht)
    · intro k a b hr hb
      have := k b hb
      rw [List.all_eq_true] at this
      exact of_decide_eq_true (this a ((c.mem_ah (hlt b hb)).mpr hr))
  · obtain ⟨⟨r, hr, r1⟩, ⟨k, hk, k1⟩⟩ := c.part_both hp (by omega)
    have hu := c.part_up hp
    have fst : ∀ {l : List Nat} {x : Nat}, l.Pairwise (· < ·) → x ∈ l → l.getD 0 0 ≤ x := fun {l x} hl hx => by
      match l, hl, hx with
      | a :: l, hl, hx =>
        show a ≤ x
        rcases List.mem_cons.mp hx with rfl | hx
        · exact Nat.le_refl _
        · exact Nat.le_of_lt ((List.pairwise_cons.mp hl).1 x hx)
    have lst : ∀ {l : List Nat} {x : Nat}, l.Pairwise (· < ·) → x ∈ l → x ≤ l.getLastD 0 := fun {l x} hl hx => by
      have hne := List.ne_nil_of_mem hx
      have e : l.getLastD 0 = l.getLast hne := by rw [List.getLastD_eq_getLast?, List.getLast?_eq_some_getLast hne]; rfl
      rw [e]
      rw [← List.dropLast_concat_getLast hne] at hl hx
      rcases List.mem_append.mp hx with hx | hx
      · exact Nat.le_of_lt ((List.pairwise_append.mp hl).2.2 x hx _ (List.mem_singleton.mpr rfl))
      · exact Nat.le_of_eq (List.mem_singleton.mp hx)
    exact ⟨Nat.lt_of_le_of_lt (fst hu hr) r1, Nat.le_trans k1 (lst hu hk)⟩
theorem mem_builtOf {cs ls : List (List Nat)} (g : Good cs) (h : ls.Perm (lotsOf cs)) (q : Nat × Nat) : q ∈ stepsOf (built cs ls) ↔ q ∈ neededSteps cs.length (colsOf cs) ls := by
  obtain ⟨d1, d2, d3⟩ := built_dims (ls := ls) g
  rw [mem_built d1 d2 d3]
  constructor
  · exact fun h => h.1
  · intro hq
    have := (ctx_of g h).needed_sound hq
    exact ⟨hq, this.2⟩
theorem built_lots {cs ls : List (List Nat)} (g : Good cs) (h : ls.Perm (lotsOf cs)) : lotsOf (built cs ls) = lotsOf cs := by
  obtain ⟨d1, d2, d3⟩ := built_dims (ls := ls) g
  refine lotsOf_congr ?_ fun a b => ?_
  · unfold manyOf rowsOf
    rw [d2, d3]
  · rw [← (ctx_of g h).needed_rch]
    exact ⟨fun k => k.of fun q hq => .one ((mem_builtOf g h q).mp hq), fun k => k.of fun q hq => .one ((mem_builtOf g h q).mpr hq)⟩
theorem needed_le {cs ls ds : List (List Nat)} (g : Good cs) (h : ls.Perm (lotsOf cs)) (gd : Good ds) (r : ds.length = cs.length) (c : colsOf ds = colsOf cs) (e : lotsOf ds = lotsOf cs) : (neededSteps cs.length (colsOf cs) ls).length ≤ (stepsOf ds).length := by
  have := (ctx_of (ls := ls) gd (by rw [e]; exact h)).needed_le
  rw [r, c] at this
  exact this
theorem built_steps {cs ls : List (List Nat)} (g : Good cs) (h : ls.Perm (lotsOf cs)) : (stepsOf (built cs ls)).length = (neededSteps cs.length (colsOf cs) ls).length := by
  obtain ⟨d1, d2, d3⟩ := built_dims (ls := ls) g
  have h1 := needed_le g h d1 d2 d3 (built_lots g h)
  have h2 := nodup_le (K := neededSteps cs.length (colsOf cs) ls) (stepsOf_nodup d1) fun q hq => (mem_builtOf g h q).mp hq
  omega
theorem lean_lots {cs : List (List Nat)} (g : Good cs) : lotsOf (leanOf cs) = lotsOf cs := by
  rw [← leanTo_len]
  exact (leanTo_same g _).2.2
theorem lean_dims {cs : List (List Nat)} (g : Good cs) : (leanOf cs).length = cs.length ∧ colsOf (leanOf cs) = colsOf cs := by
  rw [← leanTo_len]
  exact ⟨(leanTo_same g _).1, (leanTo_same g _).2.1⟩
theorem lean_min {cs : List (List Nat)} (g : Good cs) (h : ∀ ds, Good ds → ds.length = cs.length → colsOf ds = colsOf cs → lotsOf ds = lotsOf cs → (stepsOf cs).length ≤ (stepsOf ds).length) : leanOf cs = cs := by
  have turn : ∀ s ∈ stepsOf cs, leanTurn cs s = cs := fun s hs => by
    unfold leanTurn
    split
    · rename_i hid
      have h1 := h _ (withoutStep_good g hs) (withoutStep_len s) (withoutStep_cols g hs) (idle_same g hs hid)
      have h2 := without_lt g hs
      omega
    · rfl
  have all : ∀ xs : List (Nat × Nat), (∀ s ∈ xs, s ∈ stepsOf cs) → xs.foldl leanTurn cs = cs := fun xs => by
    induction xs with
    | nil => exact fun _ => rfl
    | cons s xs ih =>
      intro hs
      rw [List.foldl_cons, turn s (hs s (List.mem_cons_self ..))]
      exact ih fun q hq => hs q (List.mem_cons_of_mem _ hq)
  exact all _ fun _ h => h
end WF

/-! ## text W16 -/
set_option maxHeartbeats 1000000
namespace WF
open PySem PySem.Spec PyProof.Rows L2
abbrev sp_law (K : PySem.W.Frag) (_ : Addr) : Sp := spF (α := List Int) (fun sc => [D K (.list (sc.map .int))]) (fun _ => True) (fun _ => D K (.bool true))
def sizes : List (Nat × Nat) := [(1, 1), (1, 2), (2, 1), (2, 2), (1, 3), (3, 1), (1, 4), (4, 1), (2, 2), (2, 2)]
theorem sizes_ok {k : Nat} (h : k < 10) : SzOk4 (sizes.getD k (1, 1)).1 (sizes.getD k (1, 1)).2 := by
  have : ∀ k : Fin 10, 1 ≤ (sizes.getD k.1 (1, 1)).1 ∧ (sizes.getD k.1 (1, 1)).1 ≤ 5 ∧ 1 ≤ (sizes.getD k.1 (1, 1)).2 ∧ (sizes.getD k.1 (1, 1)).2 ≤ 5 ∧ (sizes.getD k.1 (1, 1)).1 * (sizes.getD k.1 (1, 1)).2 ≤ 4 := by decide
  obtain ⟨a, b, c, d, e⟩ := this ⟨k, h⟩
  exact ⟨a, b, c, d, e⟩
theorem lotsOf_len {cs : List (List Nat)} (g : Good cs) : (lotsOf cs).length ≤ 1024 := by
  have := allLots_small (manyOf_le g)
  unfold lotsOf
  rw [List.length_mergeSort]
  exact Nat.le_trans (List.length_filter_le _ _) this
/-- the two ways to count agree -/
theorem needed_same {cs ls ms : List (List Nat)} (g : Good cs) (h : ls.Perm (lotsOf cs)) (h' : ms.Perm (lotsOf cs)) : (neededSteps cs.length (colsOf cs) ls).length = (neededSteps cs.length (colsOf cs) ms).length := by
  have a := needed_le g h (built_dims g).1 (built_dims g).2.1 (built_dims g).2.2 (built_lots g h')
  have b := needed_le g h' (built_dims g).1 (built_dims g).2.1 (built_dims g).2.2 (built_lots g h)
  rw [built_steps g h'] at a
  rw [built_steps g h] at b
  omega
theorem fewest_is {R M : Nat} (z : SzOk4 R M) {cs ls : List (List Nat)} (hcs : cs ∈ allCells R M) (h : ls.Perm (lotsOf cs)) : fewestList R M (lotsOf cs) ≠ [] ∧ fewestOf R M (lotsOf cs) = (neededSteps R M ls).length := by
  obtain ⟨g, e1, e2⟩ := allCells_good z hcs
  have e1 : cs.length = R := e1
  have d := built_dims (ls := ls) g
  have hb : built cs ls ∈ allCells R M := mem_allCells ⟨d.1, d.2.1.trans e1, d.2.2.trans e2⟩
  have hm : (neededSteps R M ls).length ∈ fewestList R M (lotsOf cs) := by
    refine List.mem_map.mpr ⟨built cs ls, List.mem_filter.mpr ⟨hb, decide_eq_true (built_lots g h)⟩, ?_⟩
    rw [built_steps g h, e1, e2]
  have hne : fewestList R M (lotsOf cs) ≠ [] := List.ne_nil_of_mem hm
  refine ⟨hne, ?_⟩
  have : (fewestList R M (lotsOf cs)).min? = some (neededSteps R M ls).length := by
    rw [List.min?_eq_some_iff]
    refine ⟨hm, fun y hy => ?_⟩
    obtain ⟨ds, hds, rfl⟩ := List.mem_map.mp hy
    obtain ⟨h1, h2⟩ := List.mem_filter.mp hds
    obtain ⟨gd, f1, f2⟩ := allCells_good z h1
    have := needed_le g h gd (f1.trans e1.symm) (f2.trans e2.symm) (of_decide_eq_true h2)
    rw [e1, e2] at this
    exact this
  unfold fewestOf
  rw [this]
  rfl
section
variable {P : Program} {w : World} {K : PySem.W.Frag} {mg : Str → Option Value} {base : Heap} {C : Addr}
theorem rt_seqW {Γ Γ0 Γ1 Γ2 : List Sl} {ts tr : TS} {P : Pr} (h1 : Go Γ ts Γ0) (w : Wk Γ0 Γ1) (h2 : Rt Γ1 tr P Γ2) : Rt Γ (tSeq ts tr) P Γ2 := rt_seq (h1.wk w) h2
theorem ev_drawI {Γ Γ1 : List Sl} {y : Addr} {r : Row} {m i : Nat} {ta : TE} {E : XK} {Ox : Ob} (h0 : Γ[i]? = some (.own y Ox)) (h : Ev Γ ta (D K (eN m)) Γ1) (h1 : Γ1[i]? = some (.own y (oL K (rowD r)))) (hm : 0 < m) (hm2 : m ≤ 100000) :
    Ev Γ (tCall (sp__law_taken K C) [] E (tCons (tVar i) (tCons ta tNil))) (D K (eN (taken r m).1)) (Γ1.set i (.own y (oL K (rowD (taken r m).2)))) := ev_callR (α := Row × Nat) (r, m) h0 (ea_cons h ea_nil) h1 ⟨hm, hm2⟩
theorem ev_drawE {Γ Γ1 : List Sl} {y : Addr} {r r' : Row} {m k i : Nat} {ta : TE} {E : XK} {Ox : Ob} (ht : taken r m = (k, r')) (h0 : Γ[i]? = some (.own y Ox)) (h : Ev Γ ta (D K (eN m)) Γ1) (h1 : Γ1[i]? = some (.own y (oL K (rowD r)))) (hm : 0 < m) (hm2 : m ≤ 100000) :
    Ev Γ (tCall (sp__law_taken K C) [] E (tCons (tVar i) (tCons ta tNil))) (D K (eN k)) (Γ1.set i (.own y (oL K (rowD r')))) := by
  have := ev_drawI (C := C) (E := E) h0 h h1 hm hm2
  rw [ht] at this
  exact this
theorem ev_mixE {Γ Γ1 : List Sl} {y : Addr} {r r' : Row} {i : Nat} {b : Bool} {ls l : List (List Nat)} {ta : TE} {E : XK} {Ox : Ob} (ht : mixed r ls = ((b, l), r')) (h0 : Γ[i]? = some (.own y Ox)) (h : Ev Γ ta (D K (eLs ls)) Γ1) (h1 : Γ1[i]? = some (.own y (oL K (rowD r)))) (hm2 : ls.length ≤ 10000) :
    Ev Γ (tCall (sp__law_mixed K C) [] E (tCons (tVar i) (tCons ta tNil))) (D K (eLo b l)) (Γ1.set i (.own y (oL K (rowD r')))) := by
  have := ev_callR (α := Row × List (List Nat)) (O0 := fun a => oL K (rowD a.1)) (args := fun a => [D K (eLs a.2)]) (pre := fun a => a.2.length ≤ 10000) (O1 := fun a => oL K (rowD (mixed a.1 a.2).2)) (r := fun a => D K (eLo (mixed a.1 a.2).1.1 (mixed a.1 a.2).1.2)) (E := E) (r, ls) h0 (ea_cons h ea_nil) h1 hm2
  dsimp only at this
  rw [ht] at this
  exact this
theorem ev_celE {Γ Γ1 : List Sl} {y : Addr} {r r' : Row} {i m : Nat} {ds : List (List Nat)} {ta : TE} {E : XK} {Ox : Ob} (ht : lawCells r m = (ds, r')) (h0 : Γ[i]? = some (.own y Ox)) (h : Ev Γ ta (D K (eN m)) Γ1) (h1 : Γ1[i]? = some (.own y (oL K (rowD r)))) (hm : 1 ≤ m ∧ m ≤ 5) :
    Ev Γ (tCall (sp__law_cells K C) [] E (tCons (tVar i) (tCons ta tNil))) (D K (eC ds)) (Γ1.set i (.own y (oL K (rowD r')))) := by
  have := ev_callR (α := Row × Nat) (O0 := fun a => oL K (rowD a.1)) (args := fun a => [D K (eN a.2)]) (pre := fun a => 1 ≤ a.2 ∧ a.2 ≤ 5) (O1 := fun a => oL K (rowD (lawCells a.1 a.2).2)) (r := fun a => D K (eC (lawCells a.1 a.2).1)) (E := E) (r, m) h0 (ea_cons h ea_nil) h1 hm
  dsimp only at this
  rw [ht] at this
  exact this
theorem ev_boE {Γ Γ1 : List Sl} {R M : Nat} {b : Bool} {ls : List (List Nat)} {bd : List (List Nat)} {tas : TA} {E : XK} (hb : boardOfSteps R M (neededSteps R M ls) = bd) (h : EvA Γ tas [D K (eN R), D K (eN M), D K (eLo b ls)] Γ1) (ok : NeedOk R M ls) : Ev Γ (tCall (sp_board_of K C) [] E tas) (Br K C bd) Γ1 := by
  have := ev_call (α := Nat × Nat × List (List Nat) × Bool) (args := fun a => [D K (eN a.1), D K (eN a.2.1), D K (eLo a.2.2.2 a.2.2.1)]) (pre := fun a => NeedOk a.1 a.2.1 a.2.2.1) (r := fun a => Br K C (boardOfSteps a.1 a.2.1 (neededSteps a.1 a.2.1 a.2.2.1))) (E := E) (R, M, ls, b) h ok
  dsimp only at this
  rw [hb] at this
  exact this
theorem ev_feE {Γ Γ1 : List Sl} {R M n : Nat} {b : Bool} {ls : List (List Nat)} {tas : TA} {E : XK} (hb : (neededSteps R M ls).length = n) (h : EvA Γ tas [D K (eN R), D K (eN M), D K (eLo b ls)] Γ1) (ok : NeedOk R M ls) : Ev Γ (tCall (sp_fewest_steps K C) [] E tas) (D K (eN n)) Γ1 := by
  have := ev_call (α := Nat × Nat × List (List Nat) × Bool) (args := fun a => [D K (eN a.1), D K (eN a.2.1), D K (eLo a.2.2.2 a.2.2.1)]) (pre := fun a => NeedOk a.1 a.2.1 a.2.2.1) (r := fun a => D K (eN (neededSteps a.1 a.2.1 a.2.2.1).length)) (E := E) (R, M, ls, b) h ok
  dsimp only at this
  rw [hb] at this
  exact this
theorem ev_loE {Γ Γ1 : List Sl} {cs ls : List (List Nat)} {tas : TA} {E : XK} (hl : lotsOf cs = ls) (h : EvA Γ tas [D K (eC cs)] Γ1) (g : Good cs) : Ev Γ (tCall (sp__law_lots K C) [] E tas) (D K (eLs ls)) Γ1 := by
  have := ev_call (α := List (List Nat)) (args := fun cs => [D K (eC cs)]) (pre := Good) (r := fun cs => D K (eLs (lotsOf cs))) (E := E) cs h g
  rw [hl] at this
  exact this
theorem ev_clE {Γ Γ1 : List Sl} {cs ls : List (List Nat)} {tas : TA} {E : XK} (hl : lotsOf cs = ls) (h : EvA Γ tas [Br K C cs] Γ1) (g : Good cs) : Ev Γ (tCall (sp_closed_lots K C) [] E tas) (D K (eLs ls)) Γ1 := by
  have := ev_call (α := List (List Nat)) (args := fun cs => [Br K C cs]) (pre := Good) (r := fun cs => D K (eLs (lotsOf cs))) (E := E) cs h g
  rw [hl] at this
  exact this
theorem ev_leE {Γ Γ1 : List Sl} {cs ln : List (List Nat)} {tas : TA} {E : XK} (hl : leanOf cs = ln) (h : EvA Γ tas [Br K C cs] Γ1) (g : Good cs) : Ev Γ (tCall (sp_lean K C) [] E tas) (Br K C ln) Γ1 := by
  have := ev_call (α := List (List Nat)) (args := fun cs => [Br K C cs]) (pre := Good) (r := fun cs => Br K C (leanOf cs)) (E := E) cs h g
  rw [hl] at this
  exact this
theorem fn_law (T : Tx K mg C) {f : Addr} {fd : FuncData} (F : C8.Fun K "law" "law" ((topS 52)) f fd) (c_Board : C8.Mak P w K mg base 2 "Board" C (sp_Board K C) []) (c__law_all_cells : C8.Cal P w K mg base 1 "_law_all_cells" (sp__law_all_cells K C) []) (c__law_cells : C8.Cal P w K mg base 2 "_law_cells" (sp__law_cells K C) []) (c__law_equal : C8.Cal P w K mg base 1 "_law_equal" (sp__law_equal K C) []) (c__law_fewest : C8.Cal P w K mg base 3 "_law_fewest" (sp__law_fewest K C) []) (c__law_lots : C8.Cal P w K mg base 2 "_law_lots" (sp__law_lots K C) []) (c__law_many : C8.Cal P w K mg base 1 "_law_many" (sp__law_many K C) []) (c__law_mixed : C8.Cal P w K mg base 2 "_law_mixed" (sp__law_mixed K C) []) (c__law_steps : C8.Cal P w K mg base 1 "_law_steps" (sp__law_steps K C) []) (c__law_taken : C8.Cal P w K mg base 1 "_law_taken" (sp__law_taken K C) []) (c_board_of : C8.Cal P w K mg base 5 "board_of" (sp_board_of K C) []) (c_cells : PropC P w K mg base 1 C "cells" (sp_cells K C)) (c_closed_lots : C8.Cal P w K mg base 5 "closed_lots" (sp_closed_lots K C) []) (c_columns : PropC P w K mg base 1 C "columns" (sp_columns K C)) (c_fewest_steps : C8.Cal P w K mg base 5 "fewest_steps" (sp_fewest_steps K C) []) (c_lean : C8.Cal P w K mg base 6 "lean" (sp_lean K C) []) (c_rows : PropC P w K mg base 1 C "rows" (sp_rows K C)) (c_steps : C8.Cal P w K mg base 2 "steps" (sp_steps K C) []) : FnOk P w K mg base CX0 7 f fd ["_law_script"] (sp_law K C) := by
  have S : FnScope ["_law_script", "_law_row", "_law_sizes", "_law_every", "_law_lots_here", "_law_found", "_law_cells_here", "_law_board", "_law_rows", "_law_columns", "_law_some", "_law_due", "_law_many_here"] ["_law_script"] (C8.fnScope (topS 52)) := C8.fnScope_by (by decide +kernel)
  have nd := S.nd
  refine fn_F (n := 12) F S (fun _ => rfl) rfl fun cdv A outer s H E hr => ⟨_, (pss_cons (ps_set (i := 1) nd rfl (Or.inl rfl) (pe_lst (pa_cons (pv 0) (pa_cons pe_int (pa_cons pe_int (pa_cons pe_int pa_nil))))))
    (pss_cons (ps_set (i := 2) nd rfl (Or.inl rfl) (pe_lst (pa_cons (pe_tup (pa_cons pe_int (pa_cons pe_int pa_nil))) (pa_cons (pe_tup (pa_cons pe_int (pa_cons pe_int pa_nil))) (pa_cons (pe_tup (pa_cons pe_int (pa_cons pe_int pa_nil))) (pa_cons (pe_tup (pa_cons pe_int (pa_cons pe_int pa_nil))) (pa_cons (pe_tup (pa_cons pe_int (pa_cons pe_int pa_nil))) (pa_cons (pe_tup (pa_cons pe_int (pa_cons pe_int pa_nil))) (pa_cons (pe_tup (pa_cons pe_int (pa_cons pe_int pa_nil))) (pa_cons (pe_tup (pa_cons pe_int (pa_cons pe_int pa_nil))) (pa_cons (pe_tup (pa_cons pe_int (pa_cons pe_int pa_nil))) (pa_cons (pe_tup (pa_cons pe_int (pa_cons pe_int pa_nil))) pa_nil))))))))))))
    (pss_cons (ps_asg (pe_ix (ixL K) (pv 2) (C8.pe_c c__law_taken hr (by decide) (by rfl) (pa_cons (pv 1) (pa_cons pe_int pa_nil))) (fun _ _ => rfl)) (pgTup K rfl rfl (pgs_cons (pg_name (i := 8) nd rfl (by first | exact Or.inl rfl | exact Or.inr rfl)) (pgs_cons (pg_name (i := 9) nd rfl (by first | exact Or.inl rfl | exact Or.inr rfl)) pgs_nil))))
    (pss_cons (ps_set (i := 3) nd rfl (Or.inl rfl) (C8.pe_c c__law_all_cells hr (by decide) (by rfl) (pa_cons (pv 8) (pa_cons (pv 9) pa_nil))))
    (pss_cons (ps_set (i := 4) nd rfl (Or.inl rfl) (C8.pe_c c__law_lots hr (by decide) (by rfl) (pa_cons (pe_ix (ixL K) (pv 3) (C8.pe_c c__law_taken hr (by decide) (by rfl) (pa_cons (pv 1) (pa_cons (pe_callB (cLen K) (by rfl) T.b_len (by decide +kernel) (pa_cons (pv 3) pa_nil)) pa_nil))) (fun _ _ => rfl)) pa_nil)))
    (pss_cons (ps_par (i := 10) (j := 11) rfl nd rfl rfl (by decide) rfl rfl (pa_cons (C8.pe_c c__law_mixed hr (by decide) (by rfl) (pa_cons (pv 1) (pa_cons (pv 4) pa_nil))) (pa_cons (C8.pe_c c__law_fewest hr (by decide) (by rfl) (pa_cons (pv 8) (pa_cons (pv 9) (pa_cons (pv 4) pa_nil)))) pa_nil)) (by rfl))
    (pss_cons (ps_set (i := 5) nd rfl (Or.inl rfl) (C8.pe_c c_board_of hr (by decide) (by rfl) (pa_cons (pv 8) (pa_cons (pv 9) (pa_cons (pv 10) pa_nil)))))
    (pss_cons (ps_if (PW.pt (pw_or (pt_not (pt_val (C8.pe_c c__law_equal hr (by decide) (by rfl) (pa_cons (C8.pe_c c_fewest_steps hr (by decide) (by rfl) (pa_cons (pv 8) (pa_cons (pv 9) (pa_cons (pv 10) pa_nil)))) (pa_cons (pv 11) pa_nil))))) (pw_or1 (pt_cmpR op_ne (pe_callB (cLen K) (by rfl) T.b_len (by decide +kernel) (pa_cons (C8.pe_c c__law_steps hr (by decide) (by rfl) (pa_cons (pe_propC c_cells T.cl hr (by decide) (pv 5) rfl) pa_nil)) pa_nil)) (pv 11) (nomark _))))) (pss_one ps_never) pss_nil)
    (pss_cons (ps_if (PW.pt (pw_or (pt_cmpR (oNeD K rfl hr.units) (pe_tup (pa_cons (pe_propC c_rows T.cl hr (by decide) (pv 5) rfl) (pa_cons (pe_propC c_columns T.cl hr (by decide) (pv 5) rfl) pa_nil))) (pe_tup (pa_cons (pv 8) (pa_cons (pv 9) pa_nil))) (nomark _)) (pw_or1 (pt_cmpR (oNeD K rfl hr.units) (C8.pe_c c__law_lots hr (by decide) (by rfl) (pa_cons (pe_propC c_cells T.cl hr (by decide) (pv 5) rfl) pa_nil)) (pv 4) (nomark _))))) (pss_one ps_never) pss_nil)
    (pss_cons (ps_set (i := 6) nd rfl (Or.inl rfl) (C8.pe_c c__law_cells hr (by decide) (by rfl) (pa_cons (pv 1) (pa_cons pe_int pa_nil))))
    (pss_cons (ps_set (i := 7) nd rfl (Or.inl rfl) (C8.pe_mk c_Board hr (by decide) (by rfl) (pa_cons (pv 6) pa_nil)))
    (pss_cons (ps_set (i := 4) nd rfl (Or.inl rfl) (pe_ifExp (pt_cmpR op_lt (C8.pe_c c__law_many hr (by decide) (by rfl) (pa_cons (pv 6) pa_nil)) pe_int (nomark _)) (C8.pe_c c__law_lots hr (by decide) (by rfl) (pa_cons (pv 6) pa_nil)) (C8.pe_c c_closed_lots hr (by decide) (by rfl) (pa_cons (pv 7) pa_nil))))
    (pss_cons (ps_par (i := 8) (j := 9) rfl nd rfl rfl (by decide) rfl rfl (pa_cons (pe_callB (cLen K) (by rfl) T.b_len (by decide +kernel) (pa_cons (pv 6) pa_nil)) (pa_cons (pe_callB call_len_str (by rfl) T.b_len (by decide +kernel) (pa_cons (pe_ix (ixT K) (pv 6) pe_int (fun _ _ => rfl)) pa_nil)) pa_nil)) (by rfl))
    (pss_cons (ps_par (i := 5) (j := 12) rfl nd rfl rfl (by decide) rfl rfl (pa_cons (C8.pe_c c_board_of hr (by decide) (by rfl) (pa_cons (pv 8) (pa_cons (pv 9) (pa_cons (C8.pe_c c__law_mixed hr (by decide) (by rfl) (pa_cons (pv 1) (pa_cons (pv 4) pa_nil))) pa_nil)))) (pa_cons (C8.pe_c c_fewest_steps hr (by decide) (by rfl) (pa_cons (pv 8) (pa_cons (pv 9) (pa_cons (pv 4) pa_nil)))) pa_nil)) (by rfl))
    (pss_cons (ps_if (PW.pt (pw_or (pt_cmpR (oNeD K rfl hr.units) (C8.pe_c c_closed_lots hr (by decide) (by rfl) (pa_cons (pv 5) pa_nil)) (pv 4) (nomark _)) (pw_or (pt_cmpR op_ne (pe_callB (cLen K) (by rfl) T.b_len (by decide +kernel) (pa_cons (C8.pe_c c_steps hr (by decide) (by rfl) (pa_cons (pv 5) pa_nil)) pa_nil)) (pv 12) (nomark _)) (pw_or1 (pt_cmpR op_gt (pv 12) (pe_callB (cLen K) (by rfl) T.b_len (by decide +kernel) (pa_cons (C8.pe_c c_steps hr (by decide) (by rfl) (pa_cons (C8.pe_c c_lean hr (by decide) (by rfl) (pa_cons (pv 7) pa_nil)) pa_nil)) pa_nil)) (nomark _)))))) (pss_one ps_never) pss_nil)
    (pss_one (ps_ret (pe_cmpR (oEqD K rfl hr.units) (pe_propC c_cells T.cl hr (by decide) (C8.pe_c c_lean hr (by decide) (by rfl) (pa_cons (pv 5) pa_nil)) rfl) (pe_propC c_cells T.cl hr (by decide) (pv 5) rfl) (nomark _))))))))))))))))))), ?_⟩
  intro sc _
  refine rt_new (O := oL K (rowD ⟨sc, 0, 1437, 0⟩)) (en_lst (ed_cons (ev_var rfl) (ed_cons ev_int (ed_cons ev_int (ed_cons ev_int ed_nil)))) (by show 4 ≤ 100000; decide)) (lt_some rfl) fun y => ?_
  refine rt_seq (st_asg (P := D K (ePs sizes)) (ev_lst (ed_cons (ev_pair ev_int ev_int) (ed_cons (ev_pair ev_int ev_int) (ed_cons (ev_pair ev_int ev_int) (ed_cons (ev_pair ev_int ev_int) (ed_cons (ev_pair ev_int ev_int) (ed_cons (ev_pair ev_int ev_int) (ed_cons (ev_pair ev_int ev_int) (ed_cons (ev_pair ev_int ev_int) (ed_cons (ev_pair ev_int ev_int) (ed_cons (ev_pair ev_int ev_int) ed_nil)))))))))) (by show 10 ≤ 100000; decide)) (lt_some rfl)) ?_
  obtain ⟨⟨kk, r1⟩, hk⟩ : ∃ x, taken ⟨sc, 0, 1437, 0⟩ 10 = x := ⟨_, rfl⟩
  have k0 : kk < 10 := by have := taken_lt (r := ⟨sc, 0, 1437, 0⟩) (show 0 < 10 by decide); rw [hk] at this; exact this
  obtain ⟨⟨R, M⟩, hRM⟩ : ∃ x, sizes.getD kk (1, 1) = x := ⟨_, rfl⟩
  have z : SzOk4 R M := by have := sizes_ok k0; rw [hRM] at this; exact this
  have hsz : (sizes.map eP)[kk]? = some (eP (R, M)) := by
    rw [List.getElem?_map, List.getElem?_eq_getElem (show _ < sizes.length from k0), ← hRM, List.getD_eq_getElem?_getD, List.getElem?_eq_getElem (show _ < sizes.length from k0)]
    rfl
  refine rt_seqW (Γ1 := [.no, .own y (oL K (rowD r1)), .no, .no, .no, .no, .no, .no, .pr (D K (eN R)), .pr (D K (eN M)), .no, .no, .no]) (go_asgT (X := D K (eP (R, M))) (ev_ixLN (ds := sizes.map eP) (ev_var rfl) (ev_drawE (m := 10) hk rfl ev_int rfl (by decide) (by decide)) hsz) (tg_pair (lt_some rfl) (lt_some rfl) st_next)) (by repeat (first | exact Wk.nil _ | exact Wk.refl _ | refine Wk.cons (by first | exact Or.inr rfl | exact Or.inl rfl) ?_)) ?_
  refine rt_seq (st_asg (P := D K (.list ((allCells R M).map eC))) (ev_call (α := Nat × Nat) (R, M) (ea_cons (ev_var rfl) (ea_cons (ev_var rfl) ea_nil)) z) (lt_some rfl)) ?_
  have hcl : (allCells R M).length ≤ 256 := by unfold allCells; rw [List.length_map]; exact texts_small z.p
  have hcp : 0 < (allCells R M).length := by unfold allCells; rw [List.length_map, texts_len]; exact Nat.pow_pos (by decide)
  have hag : ∀ cs ∈ allCells R M, Good cs ∧ rowsOf cs = R ∧ colsOf cs = M := fun cs h => allCells_good z h
  have hfe : ∀ cs ∈ allCells R M, ∀ ls, ls.Perm (lotsOf cs) → fewestList R M (lotsOf cs) ≠ [] ∧ fewestOf R M (lotsOf cs) = (neededSteps R M ls).length := fun cs h ls hp => fewest_is z h hp
  generalize allCells R M = every at hcl hcp hag hfe
  obtain ⟨⟨k1, r2⟩, hk1⟩ : ∃ x, taken r1 every.length = x := ⟨_, rfl⟩
  have k1l : k1 < every.length := by have := taken_lt (r := r1) hcp; rw [hk1] at this; exact this
  obtain ⟨cs, hcs⟩ : ∃ cs, every[k1]? = some cs := ⟨_, List.getElem?_eq_getElem k1l⟩
  have hmem := List.mem_of_getElem? hcs
  obtain ⟨g, e1, e2⟩ := hag cs hmem
  have e1 : cs.length = R := e1
  have hfe := hfe cs hmem
  have hlen : (lotsOf cs).length ≤ 1024 := lotsOf_len g
  have hok : ∀ ls, ls.Perm (lotsOf cs) → NeedOk R M ls := fun ls hp => by have := need_ok g hp; rw [e1, e2] at this; exact this
  have hbt : ∀ ls, ls.Perm (lotsOf cs) → Good (boardOfSteps R M (neededSteps R M ls)) ∧ rowsOf (boardOfSteps R M (neededSteps R M ls)) = R ∧ colsOf (boardOfSteps R M (neededSteps R M ls)) = M ∧ lotsOf (boardOfSteps R M (neededSteps R M ls)) = lotsOf cs ∧ (stepsOf (boardOfSteps R M (neededSteps R M ls))).length = (neededSteps R M ls).length := fun ls hp => by
    have a := built_dims (ls := ls) g
    have b := built_lots g hp
    have c := built_steps g hp
    unfold built at a b c
    rw [e1, e2] at a b c
    exact ⟨a.1, a.2.1, a.2.2, b, c⟩
  obtain ⟨lots, hlo⟩ : ∃ x, lotsOf cs = x := ⟨_, rfl⟩
  refine rt_seqW (Γ1 := [.no, .own y (oL K (rowD r2)), .no, .no, .pr (D K (eLs lots)), .no, .no, .no, .pr (D K (eN R)), .pr (D K (eN M)), .no, .no, .no]) (st_asg (P := D K (eLs lots)) (ev_loE hlo (ea_cons (ev_ixLN (ds := every.map eC) (ev_var rfl) (ev_drawE hk1 rfl (ev_lenLN (ev_var rfl)) rfl hcp (by omega)) (by rw [List.getElem?_map, hcs]; rfl)) ea_nil) g) (lt_some rfl)) (by repeat (first | exact Wk.nil _ | exact Wk.refl _ | refine Wk.cons (by first | exact Or.inr rfl | exact Or.inl rfl) ?_)) ?_
  rw [hlo] at hfe hlen hok hbt
  obtain ⟨⟨⟨b1, l1⟩, r3⟩, hmx⟩ : ∃ x, mixed r2 lots = x := ⟨_, rfl⟩
  have hp : l1.Perm lots := by have := mixed_perm r2 lots; rw [hmx] at this; exact this
  obtain ⟨hne, hfe⟩ := hfe l1 hp
  have ok := hok l1 hp
  obtain ⟨bg, bl, bc, hbl, hbs⟩ := hbt l1 hp
  obtain ⟨due, hdue⟩ : ∃ x, (neededSteps R M l1).length = x := ⟨_, rfl⟩
  obtain ⟨bd, hbd⟩ : ∃ x, boardOfSteps R M (neededSteps R M l1) = x := ⟨_, rfl⟩
  rw [hdue] at hfe hbs
  rw [hbd] at bg bl bc hbl hbs
  refine rt_seqW (Γ1 := [.no, .own y (oL K (rowD r3)), .no, .no, .pr (D K (eLs lots)), .no, .no, .no, .pr (D K (eN R)), .pr (D K (eN M)), .pr (D K (eLo b1 l1)), .pr (D K (eN due)), .no]) (go_par (P1 := D K (eLo b1 l1)) (P2 := D K (eN due)) (ev_mixE hmx rfl (ev_var rfl) rfl (by omega)) (Ev.is (ev_call (α := Nat × Nat × List (List Nat)) (R, M, lots) (ea_cons (ev_var rfl) (ea_cons (ev_var rfl) (ea_cons (ev_var rfl) ea_nil))) ⟨z, hne⟩) (congrArg (fun n => D K (eN n)) hfe)) (lt_some rfl) (lt_some rfl)) (by repeat (first | exact Wk.nil _ | exact Wk.refl _ | refine Wk.cons (by first | exact Or.inr rfl | exact Or.inl rfl) ?_)) ?_
  refine rt_seqW (Γ1 := [.no, .own y (oL K (rowD r3)), .no, .no, .pr (D K (eLs lots)), .pr (Br K C bd), .no, .no, .pr (D K (eN R)), .pr (D K (eN M)), .pr (D K (eLo b1 l1)), .pr (D K (eN due)), .no]) (st_asg (P := Br K C bd) (ev_boE hbd (ea_cons (ev_var rfl) (ea_cons (ev_var rfl) (ea_cons (ev_var rfl) ea_nil))) ok) (lt_some rfl)) (by repeat (first | exact Wk.nil _ | exact Wk.refl _ | refine Wk.cons (by first | exact Or.inr rfl | exact Or.inl rfl) ?_)) ?_
  refine rt_seq (st_skip (Et.is (et_or (et_not (et_B (ev_call (α := Nat × Nat) (due, due) (ea_cons (ev_feE hdue (ea_cons (ev_var rfl) (ea_cons (ev_var rfl) (ea_cons (ev_var rfl) ea_nil))) ok) (ea_cons (ev_var rfl) ea_nil)) trivial))) fun _ => et_test (ev_neN (ev_lenLN (ev_call bd (ea_cons (ev_prop (ev_var rfl) bg) ea_nil) bg)) (ev_var rfl))) ?_)) ?_
  · show (!decide (due = due) || !decide ((stepsOf bd).length = due)) = false
    rw [hbs, decide_eq_true rfl]
    rfl
  refine rt_seq (st_skip (Et.is (et_or (et_test (ev_neE okP (x := (rowsOf bd, colsOf bd)) (y := (R, M)) (ev_pair (ev_prop (ev_var rfl) bg) (ev_prop (ev_var rfl) bg)) (ev_pair (ev_var rfl) (ev_var rfl)) trivial trivial)) fun _ => et_test (ev_neE okLs (x := lots) (y := lots) (ev_loE hbl (ea_cons (ev_prop (ev_var rfl) bg) ea_nil) bg) (ev_var rfl) trivial trivial)) ?_)) ?_
  · have h1 : (rowsOf bd, colsOf bd) = (R, M) := by rw [bl, bc]
    rw [decide_eq_true h1, decide_eq_true rfl]
    rfl
  obtain ⟨⟨ds, r4⟩, hlc⟩ : ∃ x, lawCells r3 5 = x := ⟨_, rfl⟩
  have cg : Good ds := by have := lawCells_good (r := r3) (m := 5) (by decide) (by decide); rw [hlc] at this; exact this
  refine rt_seqW (Γ1 := [.no, .own y (oL K (rowD r4)), .no, .no, .no, .no, .pr (D K (eC ds)), .no, .no, .no, .no, .no, .no]) (st_asg (P := D K (eC ds)) (ev_celE (m := 5) hlc rfl ev_int rfl ⟨by decide, by decide⟩) (lt_some rfl)) (by repeat (first | exact Wk.nil _ | exact Wk.refl _ | refine Wk.cons (by first | exact Or.inr rfl | exact Or.inl rfl) ?_)) ?_
  refine rt_seqW (Γ1 := [.no, .own y (oL K (rowD r4)), .no, .no, .no, .no, .pr (D K (eC ds)), .pr (Br K C ds), .no, .no, .no, .no, .no]) (st_asg (P := Br K C ds) (ev_board (ev_var rfl) cg) (lt_some rfl)) (by repeat (first | exact Wk.nil _ | exact Wk.refl _ | refine Wk.cons (by first | exact Or.inr rfl | exact Or.inl rfl) ?_)) ?_
  obtain ⟨lots1, hl1⟩ : ∃ x, lotsOf ds = x := ⟨_, rfl⟩
  refine rt_seqW (Γ1 := [.no, .own y (oL K (rowD r4)), .no, .no, .pr (D K (eLs lots1)), .no, .pr (D K (eC ds)), .pr (Br K C ds), .no, .no, .no, .no, .no]) (st_asg (P := D K (eLs lots1)) (ev_if (Γ1 := [.no, .own y (oL K (rowD r4)), .no, .no, .no, .no, .pr (D K (eC ds)), .pr (Br K C ds), .no, .no, .no, .no, .no]) (b := decide (manyOf ds < 9)) (et_test (ev_ltN (j := 9) (ev_call ds (ea_cons (ev_var rfl) ea_nil) cg) ev_int)) (fun _ => ev_loE hl1 (ea_cons (ev_var rfl) ea_nil) cg) (fun _ => ev_clE hl1 (ea_cons (ev_var rfl) ea_nil) cg)) (lt_some rfl)) (by repeat (first | exact Wk.nil _ | exact Wk.refl _ | refine Wk.cons (by first | exact Or.inr rfl | exact Or.inl rfl) ?_)) ?_
  refine rt_seqW (Γ1 := [.no, .own y (oL K (rowD r4)), .no, .no, .pr (D K (eLs lots1)), .no, .no, .pr (Br K C ds), .pr (D K (eN ds.length)), .pr (D K (eN (colsOf ds))), .no, .no, .no]) (go_par (P1 := D K (eN ds.length)) (P2 := D K (eN (colsOf ds))) (ev_lenTN (ev_var rfl)) (ev_lenSN (ev_ixTN (ev_var rfl) (ev_int (n := ((0 : Nat) : Int))) (by rw [List.getElem?_map, cs_at0 cg]; rfl)) (by have := cg.c5; unfold colsOf at this; omega)) (lt_some rfl) (lt_some rfl)) (by repeat (first | exact Wk.nil _ | exact Wk.refl _ | refine Wk.cons (by first | exact Or.inr rfl | exact Or.inl rfl) ?_)) ?_
  obtain ⟨⟨⟨b2, l2⟩, r5⟩, hmx2⟩ : ∃ x, mixed r4 lots1 = x := ⟨_, rfl⟩
  have hp2 : l2.Perm (lotsOf ds) := by have := mixed_perm r4 lots1; rw [hmx2] at this; rw [hl1]; exact this
  have hpr := List.Perm.refl (lotsOf ds)
  have ok2 := need_ok cg hp2
  have okr := need_ok cg hpr
  have hlen1 : lots1.length ≤ 1024 := by rw [← hl1]; exact lotsOf_len cg
  have hbd2 := built_dims (ls := l2) cg
  have hbl2 := built_lots cg hp2
  have hbs2 := built_steps cg hp2
  have hsm := needed_same cg hp2 hpr
  have hmin : leanOf (built ds l2) = built ds l2 := lean_min hbd2.1 fun es ge h1 h2 h3 => by
    rw [hbs2]
    exact needed_le cg hp2 ge (h1.trans hbd2.2.1) (h2.trans hbd2.2.2) (h3.trans hbl2)
  have hle := needed_le cg hpr (leanOf_good cg) (lean_dims cg).1 (lean_dims cg).2 (lean_lots cg)
  have lg := leanOf_good cg
  rw [hl1] at okr hbl2 hsm hle
  obtain ⟨n2, hn2⟩ : ∃ x, (neededSteps ds.length (colsOf ds) lots1).length = x := ⟨_, rfl⟩
  obtain ⟨bt, hbt⟩ : ∃ x, built ds l2 = x := ⟨_, rfl⟩
  obtain ⟨ln, hln⟩ : ∃ x, leanOf ds = x := ⟨_, rfl⟩
  have hst : (stepsOf bt).length = n2 := by rw [← hbt, hbs2, hsm, hn2]
  rw [hbt] at hbd2 hbl2 hmin
  rw [hn2, hln] at hle
  rw [hln] at lg
  obtain ⟨tg, tl, tc⟩ := hbd2
  refine rt_seqW (Γ1 := [.no, .no, .no, .no, .pr (D K (eLs lots1)), .pr (Br K C bt), .no, .pr (Br K C ds), .no, .no, .no, .no, .pr (D K (eN n2))]) (go_par (P1 := Br K C bt) (P2 := D K (eN n2)) (ev_boE (b := b2) hbt (ea_cons (ev_var rfl) (ea_cons (ev_var rfl) (ea_cons (ev_mixE hmx2 rfl (ev_var rfl) rfl (by omega)) ea_nil))) ok2)
    (ev_feE (b := false) hn2 (ea_cons (ev_var rfl) (ea_cons (ev_var rfl) (ea_cons (ev_var rfl) ea_nil))) okr) (lt_some rfl) (lt_some rfl)) (by repeat (first | exact Wk.nil _ | exact Wk.refl _ | refine Wk.cons (by first | exact Or.inr rfl | exact Or.inl rfl) ?_)) ?_
  refine rt_seq (st_skip (Et.is (et_or (et_test (ev_neE okLs (x := lots1) (y := lots1) (ev_clE hbl2 (ea_cons (ev_var rfl) ea_nil) tg) (ev_var rfl) trivial trivial)) fun _ => et_or (et_test (ev_neN (ev_lenLN (ev_call bt (ea_cons (ev_var rfl) ea_nil) tg)) (ev_var rfl))) fun _ => et_test (ev_gtN (ev_var rfl) (ev_lenLN (ev_call ln (ea_cons (ev_leE hln (ea_cons (ev_var rfl) ea_nil) cg) ea_nil) lg)))) ?_)) ?_
  · rw [decide_eq_true rfl, decide_eq_true hst, decide_eq_false (by omega)]
    rfl
  exact rt_ret (Ev.is (ev_eqE okC (x := bt) (y := bt) (ev_prop (ev_leE hmin (ea_cons (ev_var rfl) ea_nil) tg) tg) (ev_prop (ev_var rfl) tg) tg.sg tg.sg) (by rw [decide_eq_true rfl])) (Wk.nil _)
end
end WF

/-! ## text AM -/
namespace WF
open PySem PySem.Spec PyProof.Rows L2
/-! ### what stands behind the top, as facts -/
def Df (K : PySem.W.Frag) (x : Str) (st : Stmt) : Prop := ∃ (f : Addr) (oc : Value) (od : Option Addr) (kV dc pm : Value) (an : Option Addr) (cd ct : Value) (sl : Array (Option Value)),
  PySem.W.nsIn K mainGlobals x = some (some (.ref f)) ∧ K.lookup f = some ⟨oc, od, .func (PySem.W.fnOf x x (C8.fnArgs st) (C8.fnBody st) (C8.fnScope st) .none kV dc pm an cd ct), sl⟩ ∧ PySem.W.codeIn K cd x = true ∧ PySem.W.keepIn K (.ref f) = true
def Mf (K : PySem.W.Frag) (C : Addr) (x qual : Str) (st : Stmt) : Prop := ∃ (f : Addr) (oc : Value) (od : Option Addr) (kV dc pm : Value) (an : Option Addr) (cd ct : Value) (sl : Array (Option Value)),
  PySem.W.findIn K (.ref C) x = some (some (.ref f)) ∧ PySem.W.isFn K (.ref f) = true ∧ K.lookup f = some ⟨oc, od, .func (PySem.W.fnOf x qual (C8.fnArgs st) (C8.fnBody st) (C8.fnScope st) .none kV dc pm an cd ct), sl⟩ ∧ PySem.W.codeIn K cd qual = true ∧ PySem.W.keepIn K (.ref f) = true
def Pf (K : PySem.W.Frag) (C : Addr) (x qual : Str) (st : Stmt) : Prop := ∃ (p f : Addr) (rest : List Value) (oc : Value) (od : Option Addr) (kV dc pm : Value) (an : Option Addr) (cd ct : Value) (sl : Array (Option Value)),
  PySem.W.findIn K (.ref C) x = some (some (.ref p)) ∧ PySem.W.specialIn K (.ref p) "__get__" = some (some (.builtin "property.__get__")) ∧ PySem.W.takesIn K (.ref p) = some true ∧ PySem.W.recIn K p "property" = some (.ref f :: rest) ∧
  K.lookup f = some ⟨oc, od, .func (PySem.W.fnOf x qual (C8.fnArgs st) (C8.fnBody st) (C8.fnScope st) .none kV dc pm an cd ct), sl⟩ ∧ PySem.W.codeIn K cd qual = true
theorem Df.of {K : PySem.W.Frag} {x : Str} {st : Stmt} {f : Addr} {oc : Value} {od : Option Addr} {kV dc pm : Value} {an : Option Addr} {cd ct : Value} {sl : Array (Option Value)}
    (h1 : PySem.W.nsIn K mainGlobals x = some (some (.ref f))) (h2 : K.lookup f = some ⟨oc, od, .func (PySem.W.fnOf x x (C8.fnArgs st) (C8.fnBody st) (C8.fnScope st) .none kV dc pm an cd ct), sl⟩) (h3 : PySem.W.codeIn K cd x = true) (h4 : PySem.W.keepIn K (.ref f) = true) : Df K x st :=
  ⟨f, oc, od, kV, dc, pm, an, cd, ct, sl, h1, h2, h3, h4⟩
theorem Mf.of {K : PySem.W.Frag} {C : Addr} {x qual : Str} {st : Stmt} {f : Addr} {oc : Value} {od : Option Addr} {kV dc pm : Value} {an : Option Addr} {cd ct : Value} {sl : Array (Option Value)}
    (h1 : PySem.W.findIn K (.ref C) x = some (some (.ref f))) (h2 : PySem.W.isFn K (.ref f) = true) (h3 : K.lookup f = some ⟨oc, od, .func (PySem.W.fnOf x qual (C8.fnArgs st) (C8.fnBody st) (C8.fnScope st) .none kV dc pm an cd ct), sl⟩) (h4 : PySem.W.codeIn K cd qual = true) (h5 : PySem.W.keepIn K (.ref f) = true) : Mf K C x qual st :=
  ⟨f, oc, od, kV, dc, pm, an, cd, ct, sl, h1, h2, h3, h4, h5⟩
theorem Pf.of {K : PySem.W.Frag} {C : Addr} {x qual : Str} {st : Stmt} {p f : Addr} {rest : List Value} {oc : Value} {od : Option Addr} {kV dc pm : Value} {an : Option Addr} {cd ct : Value} {sl : Array (Option Value)}
    (h1 : PySem.W.findIn K (.ref C) x = some (some (.ref p))) (h2 : PySem.W.specialIn K (.ref p) "__get__" = some (some (.builtin "property.__get__"))) (h3 : PySem.W.takesIn K (.ref p) = some true) (h4 : PySem.W.recIn K p "property" = some (.ref f :: rest))
    (h5 : K.lookup f = some ⟨oc, od, .func (PySem.W.fnOf x qual (C8.fnArgs st) (C8.fnBody st) (C8.fnScope st) .none kV dc pm an cd ct), sl⟩) (h6 : PySem.W.codeIn K cd qual = true) : Pf K C x qual st :=
  ⟨p, f, rest, oc, od, kV, dc, pm, an, cd, ct, sl, h1, h2, h3, h4, h5, h6⟩
/-- arguments by place -/
def Bd (x qual : Str) (st : Stmt) (ps : List Str) : Prop := ∀ (kV doc pm : Value) (an : Option Addr) (cdv ct : Value) (us : List Value), us.length = ps.length → bindArgs (PySem.W.fnOf x qual (C8.fnArgs st) (C8.fnBody st) (C8.fnScope st) .none kV doc pm an cdv ct) ⟨us, []⟩ = pure (ps.zip us)
section
variable {P : Program} {w : World} {K : PySem.W.Frag} {mg : Str → Option Value} {base h : Heap} {C : Addr} {x qual : Str} {st : Stmt} {ps : List Str}
theorem Df.out (X : K.In h) (G : h.Ns mainGlobals mg) (d : Df K x st) (b : Bd x x st ps) : ∃ f fd, C8.Def K mg x st f fd ∧ Binds K fd ps [] := by
  obtain ⟨f, oc, od, kV, dc, pm, an, cd, ct, sl, h1, h2, h3, h4⟩ := d
  have F : C8.Fun K x x st f (PySem.W.fnOf x x (C8.fnArgs st) (C8.fnBody st) (C8.fnScope st) .none kV dc pm an cd ct) := ⟨oc, od, .none, kV, dc, pm, an, cd, ct, sl, rfl, h2, h3⟩
  exact ⟨f, _, ⟨F, PySem.W.mg_of X G h1, h4⟩, F.binds rfl b⟩
theorem Mf.out (d : Mf K C x qual st) (b : Bd x qual st ps) : ∃ f fd, (PySem.W.findIn K (.ref C) x = some (some (.ref f)) ∧ PySem.W.isFn K (.ref f) = true ∧ PySem.W.keepIn K (.ref f) = true) ∧ C8.Fun K x qual st f fd ∧ Binds K fd ps [] := by
  obtain ⟨f, oc, od, kV, dc, pm, an, cd, ct, sl, h1, h2, h3, h4, h5⟩ := d
  have F : C8.Fun K x qual st f (PySem.W.fnOf x qual (C8.fnArgs st) (C8.fnBody st) (C8.fnScope st) .none kV dc pm an cd ct) := ⟨oc, od, .none, kV, dc, pm, an, cd, ct, sl, rfl, h3, h4⟩
  exact ⟨f, _, ⟨h1, h2, h5⟩, F, F.binds rfl b⟩
theorem Pf.out (d : Pf K C x qual st) (b : Bd x qual st ps) : ∃ p f fd, PropOf K C x p f ∧ C8.Fun K x qual st f fd ∧ Binds K fd ps [] := by
  obtain ⟨p, f, rest, oc, od, kV, dc, pm, an, cd, ct, sl, h1, h2, h3, h4, h5, h6⟩ := d
  have F : C8.Fun K x qual st f (PySem.W.fnOf x qual (C8.fnArgs st) (C8.fnBody st) (C8.fnScope st) .none kV dc pm an cd ct) := ⟨oc, od, .none, kV, dc, pm, an, cd, ct, sl, rfl, h5, h6⟩
  exact ⟨p, f, _, ⟨h1, h2, h3, ⟨rest, h4⟩⟩, F, F.binds rfl b⟩
theorem bd__law_all_cells : Bd "_law_all_cells" "_law_all_cells" (topS 42) ["_law_rows", "_law_columns"] := fun _ _ _ _ _ _ us hl => match us, hl with | [_, _], _ => rfl
theorem bd__law_all_lots : Bd "_law_all_lots" "_law_all_lots" (topS 44) ["_law_many_here"] := fun _ _ _ _ _ _ us hl => match us, hl with | [_], _ => rfl
theorem bd__law_equal : Bd "_law_equal" "_law_equal" (topS 50) ["_law_actual", "_law_expected"] := fun _ _ _ _ _ _ us hl => match us, hl with | [_, _], _ => rfl
theorem bd__law_is_closed : Bd "_law_is_closed" "_law_is_closed" (topS 46) ["_law_told", "_law_lot"] := fun _ _ _ _ _ _ us hl => match us, hl with | [_, _], _ => rfl
theorem bd__law_many : Bd "_law_many" "_law_many" (topS 45) ["_law_cells_here"] := fun _ _ _ _ _ _ us hl => match us, hl with | [_], _ => rfl
theorem bd__law_steps : Bd "_law_steps" "_law_steps" (topS 43) ["_law_cells_here"] := fun _ _ _ _ _ _ us hl => match us, hl with | [_], _ => rfl
theorem bd__law_taken : Bd "_law_taken" "_law_taken" (topS 41) ["_law_row", "_law_many_here"] := fun _ _ _ _ _ _ us hl => match us, hl with | [_, _], _ => rfl
theorem bd_ahead_of : Bd "ahead_of" "ahead_of" (topS 29) ["lots", "many"] := fun _ _ _ _ _ _ us hl => match us, hl with | [_, _], _ => rfl
theorem bd_all_lots : Bd "all_lots" "all_lots" (topS 20) ["many"] := fun _ _ _ _ _ _ us hl => match us, hl with | [_], _ => rfl
theorem bd_all_steps : Bd "all_steps" "all_steps" (topS 13) ["board"] := fun _ _ _ _ _ _ us hl => match us, hl with | [_], _ => rfl
theorem bd_can_step : Bd "can_step" "can_step" (topS 33) ["rows", "one", "other"] := fun _ _ _ _ _ _ us hl => match us, hl with | [_, _, _], _ => rfl
theorem bd_closes : Bd "closes" "closes" (topS 18) ["told", "lot"] := fun _ _ _ _ _ _ us hl => match us, hl with | [_, _], _ => rfl
theorem bd_is_from : Bd "is_from" "is_from" (topS 9) ["value", "low", "high"] := fun _ _ _ _ _ _ us hl => match us, hl with | [_, _, _], _ => rfl
theorem bd_is_line : Bd "is_line" "is_line" (topS 10) ["value"] := fun _ _ _ _ _ _ us hl => match us, hl with | [_], _ => rfl
theorem bd_lies_in : Bd "lies_in" "lies_in" (topS 24) ["lot", "other"] := fun _ _ _ _ _ _ us hl => match us, hl with | [_, _], _ => rfl
theorem bd_need_board : Bd "need_board" "need_board" (topS 12) ["board"] := fun _ _ _ _ _ _ us hl => match us, hl with | [_], _ => rfl
theorem bd_parts_by : Bd "parts_by" "parts_by" (topS 35) ["ahead"] := fun _ _ _ _ _ _ us hl => match us, hl with | [_], _ => rfl
theorem bd_ring_of : Bd "ring_of" "ring_of" (topS 34) ["rows", "part"] := fun _ _ _ _ _ _ us hl => match us, hl with | [_, _], _ => rfl
theorem bd_sized : Bd "sized" "sized" (topS 19) ["lot"] := fun _ _ _ _ _ _ us hl => match us, hl with | [_], _ => rfl
theorem bd__law_cells : Bd "_law_cells" "_law_cells" (topS 51) ["_law_row", "_law_most"] := fun _ _ _ _ _ _ us hl => match us, hl with | [_, _], _ => rfl
theorem bd__law_lots : Bd "_law_lots" "_law_lots" (topS 47) ["_law_cells_here"] := fun _ _ _ _ _ _ us hl => match us, hl with | [_], _ => rfl
theorem bd__law_mixed : Bd "_law_mixed" "_law_mixed" (topS 48) ["_law_row", "_law_lots_here"] := fun _ _ _ _ _ _ us hl => match us, hl with | [_, _], _ => rfl
theorem bd_keeps : Bd "keeps" "keeps" (topS 30) ["ahead", "lot"] := fun _ _ _ _ _ _ us hl => match us, hl with | [_, _], _ => rfl
theorem bd_need_lots : Bd "need_lots" "need_lots" (topS 28) ["rows", "columns", "lots"] := fun _ _ _ _ _ _ us hl => match us, hl with | [_, _, _], _ => rfl
theorem bd_step_between : Bd "step_between" "step_between" (topS 36) ["rows", "one", "other"] := fun _ _ _ _ _ _ us hl => match us, hl with | [_, _, _], _ => rfl
theorem bd_steps : Bd "steps" "steps" (topS 14) ["board"] := fun _ _ _ _ _ _ us hl => match us, hl with | [_], _ => rfl
theorem bd__law_fewest : Bd "_law_fewest" "_law_fewest" (topS 49) ["_law_rows", "_law_columns", "_law_lots_here"] := fun _ _ _ _ _ _ us hl => match us, hl with | [_, _, _], _ => rfl
theorem bd_are_all : Bd "are_all" "are_all" (topS 31) ["lots", "ahead"] := fun _ _ _ _ _ _ us hl => match us, hl with | [_, _], _ => rfl
theorem bd_leads_of : Bd "leads_of" "leads_of" (topS 16) ["board"] := fun _ _ _ _ _ _ us hl => match us, hl with | [_], _ => rfl
theorem bd_all_closed : Bd "all_closed" "all_closed" (topS 21) ["board"] := fun _ _ _ _ _ _ us hl => match us, hl with | [_], _ => rfl
theorem bd_board_of_steps : Bd "board_of_steps" "board_of_steps" (topS 32) ["rows", "columns", "told"] := fun _ _ _ _ _ _ us hl => match us, hl with | [_, _, _], _ => rfl
theorem bd_needed_steps : Bd "needed_steps" "needed_steps" (topS 37) ["rows", "columns", "lots"] := fun _ _ _ _ _ _ us hl => match us, hl with | [_, _, _], _ => rfl
theorem bd_without_step : Bd "without_step" "without_step" (topS 25) ["board", "step"] := fun _ _ _ _ _ _ us hl => match us, hl with | [_, _], _ => rfl
theorem bd_board_of : Bd "board_of" "board_of" (topS 38) ["rows", "columns", "lots"] := fun _ _ _ _ _ _ us hl => match us, hl with | [_, _, _], _ => rfl
theorem bd_closed_lots : Bd "closed_lots" "closed_lots" (topS 22) ["board"] := fun _ _ _ _ _ _ us hl => match us, hl with | [_], _ => rfl
theorem bd_fewest_steps : Bd "fewest_steps" "fewest_steps" (topS 39) ["rows", "columns", "lots"] := fun _ _ _ _ _ _ us hl => match us, hl with | [_, _, _], _ => rfl
theorem bd_is_idle : Bd "is_idle" "is_idle" (topS 26) ["board", "step"] := fun _ _ _ _ _ _ us hl => match us, hl with | [_, _], _ => rfl
theorem bd_lean : Bd "lean" "lean" (topS 27) ["board"] := fun _ _ _ _ _ _ us hl => match us, hl with | [_], _ => rfl
theorem bd_law : Bd "law" "law" (topS 52) ["_law_script"] := fun _ _ _ _ _ _ us hl => match us, hl with | [_], _ => rfl
theorem bd_init : Bd "__init__" "Board.__init__" (inClass (topS 11) 0) ["self", "cells"] := fun _ _ _ _ _ _ us hl => match us, hl with | [_, _], _ => rfl
theorem bd_cells : Bd "cells" "Board.cells" (inClass (topS 11) 1) ["self"] := fun _ _ _ _ _ _ us hl => match us, hl with | [_], _ => rfl
theorem bd_rows : Bd "rows" "Board.rows" (inClass (topS 11) 2) ["self"] := fun _ _ _ _ _ _ us hl => match us, hl with | [_], _ => rfl
theorem bd_columns : Bd "columns" "Board.columns" (inClass (topS 11) 3) ["self"] := fun _ _ _ _ _ _ us hl => match us, hl with | [_], _ => rfl
theorem bd_len : Bd "__len__" "Board.__len__" (inClass (topS 11) 4) ["self"] := fun _ _ _ _ _ _ us hl => match us, hl with | [_], _ => rfl
def spLaw (K : PySem.W.Frag) : Sp := spF (α := List Int) (fun sc => [D K (.list (sc.map .int))]) (fun _ => True) (fun _ => D K (.bool true))
theorem dpAll_intsV {H : Hp} : ∀ ns : List Int, DpAll K H (ns.map V.int) (ns.map PyData.int)
  | [] => .nil
  | n :: ns => .cons (.int n) (dpAll_intsV ns)
theorem spLaw_ok {H : Hp} {a : Addr} {ns : List Int} (hS : SqL K H a (ns.map V.int)) : spLaw K [.ref a] H (fun v _ => v = .bl true) fun _ _ _ => False := by
  refine ⟨H, ns, fun _ _ e => e, ⟨Dp.lst hS (dpAll_intsV ns), trivial⟩, trivial, fun v G' H' _ hv => ?_⟩
  have hv : Dp K G' v (.bool true) := hv
  cases hv
  rfl
end
theorem all_mk {l : PySem.W.OpenLaw} {w : World} {K : PySem.W.Frag} {h : Heap} {mg : Str → Option Value} {fa C : Addr} {t1 t2 : Tok} (X : K.In h) (G : h.Ns mainGlobals mg) (hfa : mg "law" = some (.ref fa))
    (d__law_all_cells : Df K "_law_all_cells" (topS 42))
    (d__law_all_lots : Df K "_law_all_lots" (topS 44))
    (d__law_equal : Df K "_law_equal" (topS 50))
    (d__law_is_closed : Df K "_law_is_closed" (topS 46))
    (d__law_many : Df K "_law_many" (topS 45))
    (d__law_steps : Df K "_law_steps" (topS 43))
    (d__law_taken : Df K "_law_taken" (topS 41))
    (d_ahead_of : Df K "ahead_of" (topS 29))
    (d_all_lots : Df K "all_lots" (topS 20))
    (d_all_steps : Df K "all_steps" (topS 13))
    (d_can_step : Df K "can_step" (topS 33))
    (d_closes : Df K "closes" (topS 18))
    (d_is_from : Df K "is_from" (topS 9))
    (d_is_line : Df K "is_line" (topS 10))
    (d_lies_in : Df K "lies_in" (topS 24))
    (d_need_board : Df K "need_board" (topS 12))
    (d_parts_by : Df K "parts_by" (topS 35))
    (d_ring_of : Df K "ring_of" (topS 34))
    (d_sized : Df K "sized" (topS 19))
    (d__law_cells : Df K "_law_cells" (topS 51))
    (d__law_lots : Df K "_law_lots" (topS 47))
    (d__law_mixed : Df K "_law_mixed" (topS 48))
    (d_keeps : Df K "keeps" (topS 30))
    (d_need_lots : Df K "need_lots" (topS 28))
    (d_step_between : Df K "step_between" (topS 36))
    (d_steps : Df K "steps" (topS 14))
    (d__law_fewest : Df K "_law_fewest" (topS 49))
    (d_are_all : Df K "are_all" (topS 31))
    (d_leads_of : Df K "leads_of" (topS 16))
    (d_all_closed : Df K "all_closed" (topS 21))
    (d_board_of_steps : Df K "board_of_steps" (topS 32))
    (d_needed_steps : Df K "needed_steps" (topS 37))
    (d_without_step : Df K "without_step" (topS 25))
    (d_board_of : Df K "board_of" (topS 38))
    (d_closed_lots : Df K "closed_lots" (topS 22))
    (d_fewest_steps : Df K "fewest_steps" (topS 39))
    (d_is_idle : Df K "is_idle" (topS 26))
    (d_lean : Df K "lean" (topS 27))
    (d_law : Df K "law" (topS 52))
    (aC : PySem.W.nsIn K mainGlobals "Board" = some (some (.ref C)))
    (m_init : Mf K C "__init__" "Board.__init__" (inClass (topS 11) 0))
    (m_len : Mf K C "__len__" "Board.__len__" (inClass (topS 11) 4))
    (p_cells : Pf K C "cells" "Board.cells" (inClass (topS 11) 1))
    (p_rows : Pf K C "rows" "Board.rows" (inClass (topS 11) 2))
    (p_columns : Pf K C "columns" "Board.columns" (inClass (topS 11) 3))
    (pg : PySem.W.plainGet K C Str.empty = true)
    (hd : PySem.W.hasDictIn K C = true)
    (po : PySem.W.plainOver K C = true)
    (sa : PySem.W.findIn K (.ref C) "__setattr__" = some (some (.builtin "object.__setattr__")))
    (mk : PySem.W.makesIn K C = true)
    (kc : PySem.W.keepIn K (.ref C) = true)
    (nT : PySem.W.findIn K (.ref C) "table" = some none)
    (ha : PySem.W.findIn K (.ref C) "__class__" = some (some (.builtin "object.__class__")))
    (hn : PySem.W.specialIn K (.builtin "object.__class__") "__get__" = some (some (.builtin "getset_descriptor.__get__")))
    (htk : PySem.W.takesIn K (.builtin "object.__class__") = some true)
    (hm : PySem.W.mroIn K C (.type "object") = some true)
    (me : PySem.W.kitOne K (.ref C) (.ref C) = some true)
    (s1 : PySem.W.nsIn K mainGlobals "SIGNS" = some (some (.str ".<>x" t1)))
    (s2 : PySem.W.nsIn K mainGlobals "MOST_LINES" = some (some (.int 5 t2)))
    (z_len : PySem.W.nsIn K mainGlobals "len" = some none)
    (z_all : PySem.W.nsIn K mainGlobals "all" = some none)
    (z_any : PySem.W.nsIn K mainGlobals "any" = some none)
    (z_min : PySem.W.nsIn K mainGlobals "min" = some none)
    (z_int : PySem.W.nsIn K mainGlobals "int" = some none)
    (z_str : PySem.W.nsIn K mainGlobals "str" = some none)
    (z_bool : PySem.W.nsIn K mainGlobals "bool" = some none)
    (z_list : PySem.W.nsIn K mainGlobals "list" = some none)
    (z_tuple : PySem.W.nsIn K mainGlobals "tuple" = some none)
    (z_sorted : PySem.W.nsIn K mainGlobals "sorted" = some none)
    (z_range : PySem.W.nsIn K mainGlobals "range" = some none)
    (z_enumerate : PySem.W.nsIn K mainGlobals "enumerate" = some none)
    (z_isinstance : PySem.W.nsIn K mainGlobals "isinstance" = some none)
    : ∃ fd : FuncData, (∀ (s : Shared) (v : Value), BindsTo s fd ⟨[v], []⟩ [("_law_script", v)]) ∧ ∀ base : Heap, K.In base → base.Ns mainGlobals mg → FnOk l.prog w K mg base CX0 7 fa fd ["_law_script"] (spLaw K) := by
  obtain ⟨f0, oc0, od0, kV0, dc0, pm0, an0, cd0, ct0, sl0, e1, e2, e3, e4⟩ := d_law
  have e := hfa.symm.trans (PySem.W.mg_of X G e1)
  cases e
  have cls : Cls K C := ⟨pg, hd, po, sa⟩
  have T : Tx K mg C := ⟨PySem.W.mg_none_of X G z_len, PySem.W.mg_none_of X G z_all, PySem.W.mg_none_of X G z_any, PySem.W.mg_none_of X G z_min, PySem.W.mg_none_of X G z_int, PySem.W.mg_none_of X G z_str, PySem.W.mg_none_of X G z_bool, PySem.W.mg_none_of X G z_list, PySem.W.mg_none_of X G z_tuple, PySem.W.mg_none_of X G z_sorted, PySem.W.mg_none_of X G z_range, PySem.W.mg_none_of X G z_enumerate, PySem.W.mg_none_of X G z_isinstance, ⟨_, PySem.W.mg_of X G s1, ⟨_, rfl⟩⟩, ⟨_, PySem.W.mg_of X G s2, ⟨_, rfl⟩⟩, ⟨_, PySem.W.mg_of X G aC, rfl⟩, cls, nT, ⟨cls, ha, hn, htk, hm, me⟩⟩
  obtain ⟨f__law_all_cells, fd__law_all_cells, F__law_all_cells, b__law_all_cells⟩ := d__law_all_cells.out X G bd__law_all_cells
  obtain ⟨f__law_all_lots, fd__law_all_lots, F__law_all_lots, b__law_all_lots⟩ := d__law_all_lots.out X G bd__law_all_lots
  obtain ⟨f__law_equal, fd__law_equal, F__law_equal, b__law_equal⟩ := d__law_equal.out X G bd__law_equal
  obtain ⟨f__law_is_closed, fd__law_is_closed, F__law_is_closed, b__law_is_closed⟩ := d__law_is_closed.out X G bd__law_is_closed
  obtain ⟨f__law_many, fd__law_many, F__law_many, b__law_many⟩ := d__law_many.out X G bd__law_many
  obtain ⟨f__law_steps, fd__law_steps, F__law_steps, b__law_steps⟩ := d__law_steps.out X G bd__law_steps
  obtain ⟨f__law_taken, fd__law_taken, F__law_taken, b__law_taken⟩ := d__law_taken.out X G bd__law_taken
  obtain ⟨f_ahead_of, fd_ahead_of, F_ahead_of, b_ahead_of⟩ := d_ahead_of.out X G bd_ahead_of
  obtain ⟨f_all_lots, fd_all_lots, F_all_lots, b_all_lots⟩ := d_all_lots.out X G bd_all_lots
  obtain ⟨f_all_steps, fd_all_steps, F_all_steps, b_all_steps⟩ := d_all_steps.out X G bd_all_steps
  obtain ⟨f_can_step, fd_can_step, F_can_step, b_can_step⟩ := d_can_step.out X G bd_can_step
  obtain ⟨f_closes, fd_closes, F_closes, b_closes⟩ := d_closes.out X G bd_closes
  obtain ⟨f_is_from, fd_is_from, F_is_from, b_is_from⟩ := d_is_from.out X G bd_is_from
  obtain ⟨f_is_line, fd_is_line, F_is_line, b_is_line⟩ := d_is_line.out X G bd_is_line
  obtain ⟨f_lies_in, fd_lies_in, F_lies_in, b_lies_in⟩ := d_lies_in.out X G bd_lies_in
  obtain ⟨f_need_board, fd_need_board, F_need_board, b_need_board⟩ := d_need_board.out X G bd_need_board
  obtain ⟨f_parts_by, fd_parts_by, F_parts_by, b_parts_by⟩ := d_parts_by.out X G bd_parts_by
  obtain ⟨f_ring_of, fd_ring_of, F_ring_of, b_ring_of⟩ := d_ring_of.out X G bd_ring_of
  obtain ⟨f_sized, fd_sized, F_sized, b_sized⟩ := d_sized.out X G bd_sized
  obtain ⟨f__law_cells, fd__law_cells, F__law_cells, b__law_cells⟩ := d__law_cells.out X G bd__law_cells
  obtain ⟨f__law_lots, fd__law_lots, F__law_lots, b__law_lots⟩ := d__law_lots.out X G bd__law_lots
  obtain ⟨f__law_mixed, fd__law_mixed, F__law_mixed, b__law_mixed⟩ := d__law_mixed.out X G bd__law_mixed
  obtain ⟨f_keeps, fd_keeps, F_keeps, b_keeps⟩ := d_keeps.out X G bd_keeps
  obtain ⟨f_need_lots, fd_need_lots, F_need_lots, b_need_lots⟩ := d_need_lots.out X G bd_need_lots
  obtain ⟨f_step_between, fd_step_between, F_step_between, b_step_between⟩ := d_step_between.out X G bd_step_between
  obtain ⟨f_steps, fd_steps, F_steps, b_steps⟩ := d_steps.out X G bd_steps
  obtain ⟨f__law_fewest, fd__law_fewest, F__law_fewest, b__law_fewest⟩ := d__law_fewest.out X G bd__law_fewest
  obtain ⟨f_are_all, fd_are_all, F_are_all, b_are_all⟩ := d_are_all.out X G bd_are_all
  obtain ⟨f_leads_of, fd_leads_of, F_leads_of, b_leads_of⟩ := d_leads_of.out X G bd_leads_of
  obtain ⟨f_all_closed, fd_all_closed, F_all_closed, b_all_closed⟩ := d_all_closed.out X G bd_all_closed
  obtain ⟨f_board_of_steps, fd_board_of_steps, F_board_of_steps, b_board_of_steps⟩ := d_board_of_steps.out X G bd_board_of_steps
  obtain ⟨f_needed_steps, fd_needed_steps, F_needed_steps, b_needed_steps⟩ := d_needed_steps.out X G bd_needed_steps
  obtain ⟨f_without_step, fd_without_step, F_without_step, b_without_step⟩ := d_without_step.out X G bd_without_step
  obtain ⟨f_board_of, fd_board_of, F_board_of, b_board_of⟩ := d_board_of.out X G bd_board_of
  obtain ⟨f_closed_lots, fd_closed_lots, F_closed_lots, b_closed_lots⟩ := d_closed_lots.out X G bd_closed_lots
  obtain ⟨f_fewest_steps, fd_fewest_steps, F_fewest_steps, b_fewest_steps⟩ := d_fewest_steps.out X G bd_fewest_steps
  obtain ⟨f_is_idle, fd_is_idle, F_is_idle, b_is_idle⟩ := d_is_idle.out X G bd_is_idle
  obtain ⟨f_lean, fd_lean, F_lean, b_lean⟩ := d_lean.out X G bd_lean
  obtain ⟨f_init, fd_init, M_init, F_init, b_init⟩ := m_init.out bd_init
  obtain ⟨f_len, fd_len, M_len, F_len, b_len⟩ := m_len.out bd_len
  obtain ⟨g_cells, f_cells, fd_cells, P_cells, F_cells, b_cells⟩ := p_cells.out bd_cells
  obtain ⟨g_rows, f_rows, fd_rows, P_rows, F_rows, b_rows⟩ := p_rows.out bd_rows
  obtain ⟨g_columns, f_columns, fd_columns, P_columns, F_columns, b_columns⟩ := p_columns.out bd_columns
  refine ⟨PySem.W.fnOf "law" "law" (C8.fnArgs (topS 52)) (C8.fnBody (topS 52)) (C8.fnScope (topS 52)) .none kV0 dc0 pm0 an0 cd0 ct0, fun s v => .of_eq rfl, fun base _ _ => ?_⟩
  have c_is_line := cal_is_line (P := l.prog) (w := w) (base := base) T F_is_line b_is_line
  have c_Board := mak_Board (P := l.prog) (w := w) (base := base) T ⟨mk, M_init.1, M_init.2.1, kc⟩ (PySem.W.mg_of X G aC) F_init b_init c_is_line
  have c_len := len_Board (P := l.prog) (w := w) (base := base) T ⟨M_len.1, M_len.2.1, M_len.2.2⟩ F_len b_len
  have c_cells := prop_cells (P := l.prog) (w := w) (base := base) T P_cells F_cells b_cells
  have c_rows := prop_rows (P := l.prog) (w := w) (base := base) T P_rows F_rows b_rows
  have c_columns := prop_columns (P := l.prog) (w := w) (base := base) T P_columns F_columns b_columns
  have c__law_all_cells := cal__law_all_cells (P := l.prog) (w := w) (base := base) T F__law_all_cells b__law_all_cells 
  have c__law_all_lots := cal__law_all_lots (P := l.prog) (w := w) (base := base) T F__law_all_lots b__law_all_lots 
  have c__law_equal := cal__law_equal (P := l.prog) (w := w) (base := base) T F__law_equal b__law_equal 
  have c__law_is_closed := cal__law_is_closed (P := l.prog) (w := w) (base := base) T F__law_is_closed b__law_is_closed 
  have c__law_many := cal__law_many (P := l.prog) (w := w) (base := base) T F__law_many b__law_many 
  have c__law_steps := cal__law_steps (P := l.prog) (w := w) (base := base) T F__law_steps b__law_steps 
  have c__law_taken := cal__law_taken (P := l.prog) (w := w) (base := base) T F__law_taken b__law_taken 
  have c_ahead_of := cal_ahead_of (P := l.prog) (w := w) (base := base) T F_ahead_of b_ahead_of 
  have c_all_lots := cal_all_lots (P := l.prog) (w := w) (base := base) T F_all_lots b_all_lots 
  have c_all_steps := cal_all_steps (P := l.prog) (w := w) (base := base) T F_all_steps b_all_steps 
  have c_can_step := cal_can_step (P := l.prog) (w := w) (base := base) T F_can_step b_can_step 
  have c_closes := cal_closes (P := l.prog) (w := w) (base := base) T F_closes b_closes 
  have c_is_from := cal_is_from (P := l.prog) (w := w) (base := base) T F_is_from b_is_from 
  have c_lies_in := cal_lies_in (P := l.prog) (w := w) (base := base) T F_lies_in b_lies_in 
  have c_need_board := cal_need_board (P := l.prog) (w := w) (base := base) T F_need_board b_need_board 
  have c_parts_by := cal_parts_by (P := l.prog) (w := w) (base := base) T F_parts_by b_parts_by 
  have c_ring_of := cal_ring_of (P := l.prog) (w := w) (base := base) T F_ring_of b_ring_of 
  have k_sized : SzOk l.prog w K mg base 1 f_sized := sz_ok T F_sized b_sized
  have c__law_cells := cal__law_cells (P := l.prog) (w := w) (base := base) T F__law_cells b__law_cells c__law_taken
  have c__law_lots := cal__law_lots (P := l.prog) (w := w) (base := base) T F__law_lots b__law_lots c__law_all_lots c__law_is_closed c__law_many c__law_steps
  have c__law_mixed := cal__law_mixed (P := l.prog) (w := w) (base := base) T F__law_mixed b__law_mixed c__law_taken
  have c_keeps := cal_keeps (P := l.prog) (w := w) (base := base) T F_keeps b_keeps c_lies_in
  have c_need_lots := cal_need_lots (P := l.prog) (w := w) (base := base) T F_need_lots b_need_lots c_is_from
  have c_step_between := cal_step_between (P := l.prog) (w := w) (base := base) T F_step_between b_step_between c_can_step
  have c_steps := cal_steps (P := l.prog) (w := w) (base := base) T F_steps b_steps c_all_steps c_need_board
  have c__law_fewest := cal__law_fewest (P := l.prog) (w := w) (base := base) T F__law_fewest b__law_fewest c__law_all_cells c__law_lots c__law_steps
  have c_are_all := cal_are_all (P := l.prog) (w := w) (base := base) T F_are_all b_are_all c_all_lots c_keeps
  have c_leads_of := cal_leads_of (P := l.prog) (w := w) (base := base) T F_leads_of b_leads_of c_len c_all_steps
  have c_all_closed := cal_all_closed (P := l.prog) (w := w) (base := base) T F_all_closed b_all_closed c_len c_all_lots c_all_steps c_closes F_sized.mgf k_sized
  have c_board_of_steps := cal_board_of_steps (P := l.prog) (w := w) (base := base) T F_board_of_steps b_board_of_steps c_Board
  have c_needed_steps := cal_needed_steps (P := l.prog) (w := w) (base := base) T F_needed_steps b_needed_steps c_ahead_of c_are_all c_parts_by c_ring_of c_step_between
  have c_without_step := cal_without_step (P := l.prog) (w := w) (base := base) T F_without_step b_without_step c_Board
  have c_board_of := cal_board_of (P := l.prog) (w := w) (base := base) T F_board_of b_board_of c_board_of_steps c_need_lots c_needed_steps
  have c_closed_lots := cal_closed_lots (P := l.prog) (w := w) (base := base) T F_closed_lots b_closed_lots c_all_closed c_need_board
  have c_fewest_steps := cal_fewest_steps (P := l.prog) (w := w) (base := base) T F_fewest_steps b_fewest_steps c_need_lots c_needed_steps
  have c_is_idle := cal_is_idle (P := l.prog) (w := w) (base := base) T F_is_idle b_is_idle c_leads_of c_without_step
  have c_lean := cal_lean (P := l.prog) (w := w) (base := base) T F_lean b_lean c_all_steps c_is_idle c_need_board c_without_step
  exact fn_law (P := l.prog) (w := w) (base := base) T ⟨oc0, od0, .none, kV0, dc0, pm0, an0, cd0, ct0, sl0, rfl, e2, e3⟩ c_Board c__law_all_cells c__law_cells c__law_equal c__law_fewest c__law_lots c__law_many c__law_mixed c__law_steps c__law_taken c_board_of c_cells c_closed_lots c_columns c_fewest_steps c_lean c_rows c_steps
end WF

/-! ## text FIN -/
open PySem PySem.W PyProof.Rows
set_option maxHeartbeats 0 in
set_option pp.maxSteps 40 in
theorem PySem.Challenge.cw_wovenframes_k37_whole_boards_by_lots_holds : PySem.Challenge.rw_wovenframes_k37_whole_boards_by_lots.Holds := by
  w_on; o_law; k_head; (case hw => w_witness2)
  k_fill
  refine L2.walk_of (l := PySem.Challenge.rw_wovenframes_k37_whole_boards_by_lots) (n := 63) (k := 7) (x := "_law_script") (CX := fun _ => L2.CX0) (sp := fun w => WF.spLaw _) rfl (by decide) rfl ⟨rfl, by decide, by decide⟩ (fun w h Y => PySem.W.kIn_of Y) ?F (fun _ _ a ns _ _ hS => WF.spLaw_ok hS) (fun _ _ _ _ _ h => h)
  case F =>
    intro w mg fa h KX G hmg
    refine' WF.all_mk KX G hmg ?d__law_all_cells ?d__law_all_lots ?d__law_equal ?d__law_is_closed ?d__law_many ?d__law_steps ?d__law_taken ?d_ahead_of ?d_all_lots ?d_all_steps ?d_can_step ?d_closes ?d_is_from ?d_is_line ?d_lies_in ?d_need_board ?d_parts_by ?d_ring_of ?d_sized ?d__law_cells ?d__law_lots ?d__law_mixed ?d_keeps ?d_need_lots ?d_step_between ?d_steps ?d__law_fewest ?d_are_all ?d_leads_of ?d_all_closed ?d_board_of_steps ?d_needed_steps ?d_without_step ?d_board_of ?d_closed_lots ?d_fewest_steps ?d_is_idle ?d_lean ?d_law ?aC ?m_init ?m_len ?p_cells ?p_rows ?p_columns ?pg ?hd ?po ?sa ?mk ?kc ?nT ?ha ?hn ?htk ?hm ?me ?s1 ?s2 ?z_len ?z_all ?z_any ?z_min ?z_int ?z_str ?z_bool ?z_list ?z_tuple ?z_sorted ?z_range ?z_enumerate ?z_isinstance
    (case aC => k_is)
    (case d__law_all_cells => (refine' WF.Df.of ?q1 ?q2 ?q3 ?q4; (case q1 => k_is); (case q2 => k_is); (case q3 => k_is); (case q4 => k_is)))
    (case d__law_all_lots => (refine' WF.Df.of ?q1 ?q2 ?q3 ?q4; (case q1 => k_is); (case q2 => k_is); (case q3 => k_is); (case q4 => k_is)))
    (case d__law_equal => (refine' WF.Df.of ?q1 ?q2 ?q3 ?q4; (case q1 => k_is); (case q2 => k_is); (case q3 => k_is); (case q4 => k_is)))
    (case d__law_is_closed => (refine' WF.Df.of ?q1 ?q2 ?q3 ?q4; (case q1 => k_is); (case q2 => k_is); (case q3 => k_is); (case q4 => k_is)))
    (case d__law_many => (refine' WF.Df.of ?q1 ?q2 ?q3 ?q4; (case q1 => k_is); (case q2 => k_is); (case q3 => k_is); (case q4 => k_is)))
    (case d__law_steps => (refine' WF.Df.of ?q1 ?q2 ?q3 ?q4; (case q1 => k_is); (case q2 => k_is); (case q3 => k_is); (case q4 => k_is)))
    (case d__law_taken => (refine' WF.Df.of ?q1 ?q2 ?q3 ?q4; (case q1 => k_is); (case q2 => k_is); (case q3 => k_is); (case q4 => k_is)))
    (case d_ahead_of => (refine' WF.Df.of ?q1 ?q2 ?q3 ?q4; (case q1 => k_is); (case q2 => k_is); (case q3 => k_is); (case q4 => k_is)))
    (case d_all_lots => (refine' WF.Df.of ?q1 ?q2 ?q3 ?q4; (case q1 => k_is); (case q2 => k_is); (case q3 => k_is); (case q4 => k_is)))
    (case d_all_steps => (refine' WF.Df.of ?q1 ?q2 ?q3 ?q4; (case q1 => k_is); (case q2 => k_is); (case q3 => k_is); (case q4 => k_is)))
    (case d_can_step => (refine' WF.Df.of ?q1 ?q2 ?q3 ?q4; (case q1 => k_is); (case q2 => k_is); (case q3 => k_is); (case q4 => k_is)))
    (case d_closes => (refine' WF.Df.of ?q1 ?q2 ?q3 ?q4; (case q1 => k_is); (case q2 => k_is); (case q3 => k_is); (case q4 => k_is)))
    (case d_is_from => (refine' WF.Df.of ?q1 ?q2 ?q3 ?q4; (case q1 => k_is); (case q2 => k_is); (case q3 => k_is); (case q4 => k_is)))
    (case d_is_line => (refine' WF.Df.of ?q1 ?q2 ?q3 ?q4; (case q1 => k_is); (case q2 => k_is); (case q3 => k_is); (case q4 => k_is)))
    (case d_lies_in => (refine' WF.Df.of ?q1 ?q2 ?q3 ?q4; (case q1 => k_is); (case q2 => k_is); (case q3 => k_is); (case q4 => k_is)))
    (case d_need_board => (refine' WF.Df.of ?q1 ?q2 ?q3 ?q4; (case q1 => k_is); (case q2 => k_is); (case q3 => k_is); (case q4 => k_is)))
    (case d_parts_by => (refine' WF.Df.of ?q1 ?q2 ?q3 ?q4; (case q1 => k_is); (case q2 => k_is); (case q3 => k_is); (case q4 => k_is)))
    (case d_ring_of => (refine' WF.Df.of ?q1 ?q2 ?q3 ?q4; (case q1 => k_is); (case q2 => k_is); (case q3 => k_is); (case q4 => k_is)))
    (case d_sized => (refine' WF.Df.of ?q1 ?q2 ?q3 ?q4; (case q1 => k_is); (case q2 => k_is); (case q3 => k_is); (case q4 => k_is)))
    (case d__law_cells => (refine' WF.Df.of ?q1 ?q2 ?q3 ?q4; (case q1 => k_is); (case q2 => k_is); (case q3 => k_is); (case q4 => k_is)))
    (case d__law_lots => (refine' WF.Df.of ?q1 ?q2 ?q3 ?q4; (case q1 => k_is); (case q2 => k_is); (case q3 => k_is); (case q4 => k_is)))
    (case d__law_mixed => (refine' WF.Df.of ?q1 ?q2 ?q3 ?q4; (case q1 => k_is); (case q2 => k_is); (case q3 => k_is); (case q4 => k_is)))
    (case d_keeps => (refine' WF.Df.of ?q1 ?q2 ?q3 ?q4; (case q1 => k_is); (case q2 => k_is); (case q3 => k_is); (case q4 => k_is)))
    (case d_need_lots => (refine' WF.Df.of ?q1 ?q2 ?q3 ?q4; (case q1 => k_is); (case q2 => k_is); (case q3 => k_is); (case q4 => k_is)))
    (case d_step_between => (refine' WF.Df.of ?q1 ?q2 ?q3 ?q4; (case q1 => k_is); (case q2 => k_is); (case q3 => k_is); (case q4 => k_is)))
    (case d_steps => (refine' WF.Df.of ?q1 ?q2 ?q3 ?q4; (case q1 => k_is); (case q2 => k_is); (case q3 => k_is); (case q4 => k_is)))
    (case d__law_fewest => (refine' WF.Df.of ?q1 ?q2 ?q3 ?q4; (case q1 => k_is); (case q2 => k_is); (case q3 => k_is); (case q4 => k_is)))
    (case d_are_all => (refine' WF.Df.of ?q1 ?q2 ?q3 ?q4; (case q1 => k_is); (case q2 => k_is); (case q3 => k_is); (case q4 => k_is)))
    (case d_leads_of => (refine' WF.Df.of ?q1 ?q2 ?q3 ?q4; (case q1 => k_is); (case q2 => k_is); (case q3 => k_is); (case q4 => k_is)))
    (case d_all_closed => (refine' WF.Df.of ?q1 ?q2 ?q3 ?q4; (case q1 => k_is); (case q2 => k_is); (case q3 => k_is); (case q4 => k_is)))
    (case d_board_of_steps => (refine' WF.Df.of ?q1 ?q2 ?q3 ?q4; (case q1 => k_is); (case q2 => k_is); (case q3 => k_is); (case q4 => k_is)))
    (case d_needed_steps => (refine' WF.Df.of ?q1 ?q2 ?q3 ?q4; (case q1 => k_is); (case q2 => k_is); (case q3 => k_is); (case q4 => k_is)))
    (case d_without_step => (refine' WF.Df.of ?q1 ?q2 ?q3 ?q4; (case q1 => k_is); (case q2 => k_is); (case q3 => k_is); (case q4 => k_is)))
    (case d_board_of => (refine' WF.Df.of ?q1 ?q2 ?q3 ?q4; (case q1 => k_is); (case q2 => k_is); (case q3 => k_is); (case q4 => k_is)))
    (case d_closed_lots => (refine' WF.Df.of ?q1 ?q2 ?q3 ?q4; (case q1 => k_is); (case q2 => k_is); (case q3 => k_is); (case q4 => k_is)))
    (case d_fewest_steps => (refine' WF.Df.of ?q1 ?q2 ?q3 ?q4; (case q1 => k_is); (case q2 => k_is); (case q3 => k_is); (case q4 => k_is)))
    (case d_is_idle => (refine' WF.Df.of ?q1 ?q2 ?q3 ?q4; (case q1 => k_is); (case q2 => k_is); (case q3 => k_is); (case q4 => k_is)))
    (case d_lean => (refine' WF.Df.of ?q1 ?q2 ?q3 ?q4; (case q1 => k_is); (case q2 => k_is); (case q3 => k_is); (case q4 => k_is)))
    (case d_law => (refine' WF.Df.of ?q1 ?q2 ?q3 ?q4; (case q1 => k_is); (case q2 => k_is); (case q3 => k_is); (case q4 => k_is)))
    (case m_init => (refine' WF.Mf.of ?q1 ?q2 ?q3 ?q4 ?q5; (case q1 => k_is); (case q2 => k_is); (case q3 => k_is); (case q4 => k_is); (case q5 => k_is)))
    (case m_len => (refine' WF.Mf.of ?q1 ?q2 ?q3 ?q4 ?q5; (case q1 => k_is); (case q2 => k_is); (case q3 => k_is); (case q4 => k_is); (case q5 => k_is)))
    (case p_cells => (refine' WF.Pf.of ?q1 ?q2 ?q3 ?q4 ?q5 ?q6; (case q1 => k_is); (case q2 => k_is); (case q3 => k_is); (case q4 => k_is); (case q5 => k_is); (case q6 => k_is)))
    (case p_rows => (refine' WF.Pf.of ?q1 ?q2 ?q3 ?q4 ?q5 ?q6; (case q1 => k_is); (case q2 => k_is); (case q3 => k_is); (case q4 => k_is); (case q5 => k_is); (case q6 => k_is)))
    (case p_columns => (refine' WF.Pf.of ?q1 ?q2 ?q3 ?q4 ?q5 ?q6; (case q1 => k_is); (case q2 => k_is); (case q3 => k_is); (case q4 => k_is); (case q5 => k_is); (case q6 => k_is)))
    (case pg => k_is)
    (case hd => k_is)
    (case po => k_is)
    (case sa => k_is)
    (case mk => k_is)
    (case kc => k_is)
    (case nT => k_is)
    (case ha => first | k_is | rfl)
    (case hn => first | k_is | rfl)
    (case htk => first | k_is | rfl)
    (case hm => first | k_is | rfl)
    (case me => first | k_is | rfl)
    (case s1 => k_is)
    (case s2 => k_is)
    (case z_len => k_is)
    (case z_all => k_is)
    (case z_any => k_is)
    (case z_min => k_is)
    (case z_int => k_is)
    (case z_str => k_is)
    (case z_bool => k_is)
    (case z_list => k_is)
    (case z_tuple => k_is)
    (case z_sorted => k_is)
    (case z_range => k_is)
    (case z_enumerate => k_is)
    (case z_isinstance => k_is)
