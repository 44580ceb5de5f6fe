import PyProof.Rows.All
import Wide.All
import OpenK.AllK
import Wide.FinOn
import HandS.ForExc
import HandS.Comp
import HandS.Iter
import HandS.Lambda
import HandS.EndTab
import HandS.IsInst
import HandS.NoneIn
import HandS.Flow
import KE.SortKeyHeap
import PySem.Challenge.RW_comestrue_k80_whole_like_sections_moved
set_option Elab.async false
set_option linter.all false
set_option autoImplicit false
set_option maxRecDepth 100000
set_option maxHeartbeats 4000000
/-! Ct: value-level judgements over the hand layer. A value is plain data or a list cell of a store. -/
namespace Ct
open PySem L2

inductive Val where
  | pd (d : PyData)
  | cell (n : Nat)
  | ty (n : String)
inductive Cell where
  | mu (xs : List PyData)
  | fr (xs : List PyData)
abbrev Sto := List Cell
abbrev SS := List (Option Val)

section
variable {K : PySem.W.Frag} {F F' F'' H H' : Hp} {a : Addr} {xs : List V}
theorem seqT (s : Same F F') (h : SqT K F a xs) : SqT K F' a xs := by
  rcases h with (h | ⟨o, h⟩) | h
  · exact .inl (.inl (s _ _ h))
  · exact .inl (.inr ⟨o, s _ _ h⟩)
  · exact .inr h
mutual
theorem dpm (s : Same F F') : ∀ {v : V} {d : PyData}, Dp K F v d → Dp K F' v d
  | _, _, .non => .non
  | _, _, .bl b => .bl b
  | _, _, .int i => .int i
  | _, _, .str x => .str x
  | _, _, .lst h t => .lst (s.seq h) (dpsm s t)
  | _, _, .tup h t => .tup (seqT s h) (dpsm s t)
theorem dpsm (s : Same F F') : ∀ {vs : List V} {ds : List PyData}, DpAll K F vs ds → DpAll K F' vs ds
  | _, _, .nil => .nil
  | _, _, .cons h t => .cons (dpm s h) (dpsm s t)
end
theorem dps_len : ∀ {vs : List V} {ds : List PyData}, DpAll K F vs ds → vs.length = ds.length
  | _, _, .nil => rfl
  | _, _, .cons _ t => congrArg (· + 1) (dps_len t)
theorem dps_get : ∀ {vs : List V} {ds : List PyData} {i : Nat} {d : PyData}, DpAll K F vs ds → ds[i]? = some d → ∃ v, vs[i]? = some v ∧ Dp K F v d
  | _, _, _, _, .nil, e => by simp at e
  | _, _, 0, _, .cons h _, e => by
    simp at e
    subst e
    exact ⟨_, rfl, h⟩
  | _, _, i + 1, _, .cons _ t, e => by
    simp at e
    obtain ⟨v, h1, h2⟩ := dps_get t e
    exact ⟨v, by simpa using h1, h2⟩
theorem dps_getV : ∀ {vs : List V} {ds : List PyData} {i : Nat} {v : V}, DpAll K F vs ds → vs[i]? = some v → ∃ d, ds[i]? = some d ∧ Dp K F v d
  | _, _, _, _, .nil, e => by simp at e
  | _, _, 0, _, .cons h _, e => by
    simp at e
    subst e
    exact ⟨_, rfl, h⟩
  | _, _, i + 1, _, .cons _ t, e => by
    simp at e
    obtain ⟨v, h1, h2⟩ := dps_getV t e
    exact ⟨v, by simpa using h1, h2⟩
theorem dps_app : ∀ {vs ws : List V} {ds es : List PyData}, DpAll K F vs ds → DpAll K F ws es → DpAll K F (vs ++ ws) (ds ++ es)
  | _, _, _, _, .nil, t => t
  | _, _, _, _, .cons h r, t => .cons h (dps_app r t)
theorem dps_set : ∀ {vs : List V} {ds : List PyData} {v : V} {d : PyData} (i : Nat), DpAll K F vs ds → Dp K F v d → DpAll K F (vs.set i v) (ds.set i d)
  | _, _, _, _, _, .nil, _ => .nil
  | _, _, _, _, 0, .cons _ r, h => .cons h r
  | _, _, _, _, i + 1, .cons g r, h => .cons g (dps_set i r h)
theorem dps_take : ∀ {vs : List V} {ds : List PyData} (n : Nat), DpAll K F vs ds → DpAll K F (vs.take n) (ds.take n)
  | _, _, 0, _ => .nil
  | _, _, _ + 1, .nil => .nil
  | _, _, n + 1, .cons h t => .cons h (dps_take n t)
theorem dps_drop : ∀ {vs : List V} {ds : List PyData} (n : Nat), DpAll K F vs ds → DpAll K F (vs.drop n) (ds.drop n)
  | _, _, 0, r => r
  | _, _, _ + 1, .nil => .nil
  | _, _, n + 1, .cons _ t => dps_drop n t
theorem dps_ints : ∀ {vs : List V} {ns : List Int}, DpAll K F vs (ns.map PyData.int) → vs = ns.map V.int
  | _, [], .nil => rfl
  | _, n :: ns, .cons (.int _) t => by rw [dps_ints t]; rfl
theorem dps_ints' : ∀ (ns : List Int), DpAll K F (ns.map V.int) (ns.map PyData.int)
  | [] => .nil
  | n :: ns => .cons (.int n) (dps_ints' ns)
theorem dp_int {v : V} {i : Int} (h : Dp K F v (.int i)) : v = .int i := by cases h; rfl
theorem dp_bl {v : V} {b : Bool} (h : Dp K F v (.bool b)) : v = .bl b := by cases h; rfl
theorem dp_str {v : V} {x : Str} (h : Dp K F v (.str x)) : v = .str x := by cases h; rfl
theorem dp_non {v : V} (h : Dp K F v .none) : v = .non := by cases h; rfl
theorem dp_lst {v : V} {ds : List PyData} (h : Dp K F v (.list ds)) : ∃ a vs, v = .ref a ∧ SqL K F a vs ∧ DpAll K F vs ds := by
  cases h with
  | lst h t => exact ⟨_, _, rfl, h, t⟩
theorem dp_tup {v : V} {ds : List PyData} (h : Dp K F v (.tuple ds)) : ∃ a vs, v = .ref a ∧ SqT K F a vs ∧ DpAll K F vs ds := by
  cases h with
  | tup h t => exact ⟨_, _, rfl, h, t⟩
end

/-! ### the relation -/
section
variable (K : PySem.W.Frag) (T : List (Addr × Str)) (α : Nat → Addr) (F H : Hp)
structure Rel (st : Sto) : Prop where
  sub : Same F H
  nt : ∀ a ps, F a ≠ some (.tbl ps)
  tab : LamX.Tabs T H
  mu : ∀ (n : Nat) (xs : List PyData), st[n]? = some (.mu xs) → F (α n) = none ∧ ∃ vs, H (α n) = some (.lst vs) ∧ DpAll K F vs xs
  fr : ∀ (n : Nat) (xs : List PyData), st[n]? = some (.fr xs) → ∃ vs, F (α n) = some (.lst vs) ∧ DpAll K F vs xs
  inj : ∀ (n m : Nat) (xs ys : List PyData), st[n]? = some (.mu xs) → st[m]? = some (.mu ys) → α n = α m → n = m
def VR (L : Nat) : Val → V → Prop
  | .pd d, v => Dp K F v d
  | .cell n, v => n < L ∧ v = .ref (α n)
  | .ty n, v => v = .ty n
structure SR (L : Nat) (ss : SS) (σ : L2.St) : Prop where
  len : ss.length = σ.length
  at_ : ∀ (i : Nat) (x : Val), ss[i]? = some (some x) → ∃ v, σ[i]? = some (some v) ∧ VR K α F L x v
inductive VRs (L : Nat) : List Val → List V → Prop
  | nil : VRs L [] []
  | cons {x v xs vs} : VR K α F L x v → VRs L xs vs → VRs L (x :: xs) (v :: vs)
end
structure Nx (α : Nat → Addr) (F : Hp) (L : Nat) (α' : Nat → Addr) (F' : Hp) (L' : Nat) : Prop where
  sub : Same F F'
  le : L ≤ L'
  ag : ∀ n, n < L → α' n = α n
theorem Nx.refl {α : Nat → Addr} {F : Hp} {L : Nat} : Nx α F L α F L := ⟨Same.refl F, Nat.le_refl _, fun _ _ => rfl⟩
theorem Nx.trans {α α1 α2 : Nat → Addr} {F F1 F2 : Hp} {L L1 L2 : Nat} (a : Nx α F L α1 F1 L1) (b : Nx α1 F1 L1 α2 F2 L2) : Nx α F L α2 F2 L2 :=
  ⟨a.sub.trans b.sub, Nat.le_trans a.le b.le, fun n h => (b.ag n (Nat.lt_of_lt_of_le h a.le)).trans (a.ag n h)⟩

section
variable {K : PySem.W.Frag} {T : List (Addr × Str)} {α α' : Nat → Addr} {F F' H H' : Hp} {L L' : Nat} {st : Sto} {ss : SS} {σ : L2.St}
theorem VR.mono (n : Nx α F L α' F' L') : ∀ {x : Val} {v : V}, VR K α F L x v → VR K α' F' L' x v
  | .pd _, _, h => dpm n.sub h
  | .cell m, _, ⟨h, e⟩ => ⟨Nat.lt_of_lt_of_le h n.le, by rw [n.ag m h]; exact e⟩
  | .ty _, _, h => h
theorem SR.mono (n : Nx α F L α' F' L') (h : SR K α F L ss σ) : SR K α' F' L' ss σ :=
  ⟨h.len, fun i x e => let ⟨v, e1, e2⟩ := h.at_ i x e; ⟨v, e1, e2.mono n⟩⟩
theorem VRs.mono (n : Nx α F L α' F' L') : ∀ {xs : List Val} {vs : List V}, VRs K α F L xs vs → VRs K α' F' L' xs vs
  | _, _, .nil => .nil
  | _, _, .cons h t => .cons (h.mono n) (VRs.mono n t)
theorem VRs.len : ∀ {xs : List Val} {vs : List V}, VRs K α F L xs vs → xs.length = vs.length
  | _, _, .nil => rfl
  | _, _, .cons _ t => congrArg (· + 1) t.len
theorem VRs.app : ∀ {xs ys : List Val} {vs ws : List V}, VRs K α F L xs vs → VRs K α F L ys ws → VRs K α F L (xs ++ ys) (vs ++ ws)
  | _, _, _, _, .nil, t => t
  | _, _, _, _, .cons h r, t => .cons h (r.app t)
theorem SR.set (h : SR K α F L ss σ) {x : Val} {v : V} (i : Nat) (r : VR K α F L x v) : SR K α F L (ss.set i (some x)) (σ.set i (some v)) := by
  refine ⟨by rw [List.length_set, List.length_set]; exact h.len, fun j y e => ?_⟩
  by_cases hj : i = j
  · subst hj
    by_cases hi : i < ss.length
    · rw [List.getElem?_set_self hi] at e
      cases e
      exact ⟨v, List.getElem?_set_self (by rw [← h.len]; exact hi), r⟩
    · rw [List.getElem?_eq_none (by rw [List.length_set]; omega)] at e
      cases e
  · rw [List.getElem?_set_ne hj] at e ⊢
    exact h.at_ j y e
theorem SR.setNone (h : SR K α F L ss σ) (i : Nat) : SR K α F L (ss.set i none) (σ.set i none) := by
  refine ⟨by rw [List.length_set, List.length_set]; exact h.len, fun j y e => ?_⟩
  by_cases hj : i = j
  · subst hj
    by_cases hi : i < ss.length
    · rw [List.getElem?_set_self hi] at e
      cases e
    · rw [List.getElem?_eq_none (by rw [List.length_set]; omega)] at e
      cases e
  · rw [List.getElem?_set_ne hj] at e ⊢
    exact h.at_ j y e
theorem Rel.grow (r : Rel K T α F H st) (s : Same H H') (t : LamX.Tabs T H') : Rel K T α F H' st :=
  ⟨r.sub.trans s, r.nt, t, fun n xs e => let ⟨h1, vs, h2, h3⟩ := r.mu n xs e; ⟨h1, vs, s _ _ h2, h3⟩, r.fr, r.inj⟩
theorem same_upd {p : Addr} {o : HO} (h : H p = none) : Same H (upd H p o) := fun b x e => by
  rw [upd_ne (ne_of_none e h)]
  exact e
theorem none_of (r : Rel K T α F H st) {p : Addr} (h : H p = none) : F p = none := r.sub.free h
/-- a new immutable thing -/
theorem Rel.new {p : Addr} {o : HO} (r : Rel K T α F H st) (h : H p = none) (no : ∀ ps, o ≠ .tbl ps) : Rel K T α (upd F p o) (upd H p o) st := by
  have hF := none_of r h
  have sF : Same F (upd F p o) := same_upd hF
  refine ⟨fun b x e => ?_, fun b ps e => ?_, r.tab.ext (same_upd h), fun n xs e => ?_, fun n xs e => ?_, r.inj⟩
  · by_cases hb : b = p
    · subst hb
      rw [upd_same] at e ⊢
      exact e
    · rw [upd_ne hb] at e ⊢
      exact r.sub _ _ e
  · by_cases hb : b = p
    · subst hb
      rw [upd_same] at e
      exact no ps (Option.some.inj e)
    · rw [upd_ne hb] at e
      exact r.nt b ps e
  · obtain ⟨h1, vs, h2, h3⟩ := r.mu n xs e
    have ne : α n ≠ p := ne_of_none h2 h
    exact ⟨by rw [upd_ne ne]; exact h1, vs, by rw [upd_ne ne]; exact h2, dpsm sF h3⟩
  · obtain ⟨vs, h2, h3⟩ := r.fr n xs e
    exact ⟨vs, sF _ _ h2, dpsm sF h3⟩
theorem Nx.new {p : Addr} {o : HO} (h : F p = none) : Nx α F L α (upd F p o) L := ⟨same_upd h, Nat.le_refl _, fun _ _ => rfl⟩
/-- a new cell -/
def ext (α : Nat → Addr) (n : Nat) (p : Addr) : Nat → Addr := fun m => if m = n then p else α m
theorem ext_same {n : Nat} {p : Addr} : ext α n p n = p := by unfold ext; rw [if_pos rfl]
theorem ext_ne {n m : Nat} {p : Addr} (h : m ≠ n) : ext α n p m = α m := by unfold ext; rw [if_neg h]
theorem Nx.ext {p : Addr} : Nx α F L (ext α L p) F (L + 1) := ⟨Same.refl F, Nat.le_succ _, fun n h => ext_ne (Nat.ne_of_lt h)⟩
theorem get_app {c : Cell} {n : Nat} {x : Cell} (e : (st ++ [c])[n]? = some x) : (n = st.length ∧ x = c) ∨ (n < st.length ∧ st[n]? = some x) := by
  by_cases h : n < st.length
  · rw [List.getElem?_append_left h] at e
    exact .inr ⟨h, e⟩
  · rw [List.getElem?_append_right (by omega)] at e
    by_cases h2 : n - st.length = 0
    · rw [h2] at e
      simp at e
      exact .inl ⟨by omega, e.symm⟩
    · obtain ⟨k, hk⟩ : ∃ k, n - st.length = k + 1 := ⟨n - st.length - 1, by omega⟩
      rw [hk] at e
      simp at e
theorem Rel.cell {p : Addr} {vs : List V} {xs : List PyData} (r : Rel K T α F H st) (h : H p = none) (d : DpAll K F vs xs) : Rel K T (ext α st.length p) F (upd H p (.lst vs)) (st ++ [.mu xs]) := by
  have sH : Same H (upd H p (.lst vs)) := same_upd h
  refine ⟨r.sub.trans sH, r.nt, r.tab.ext sH, fun n ys e => ?_, fun n ys e => ?_, fun n m ys zs e1 e2 e => ?_⟩
  · rcases get_app e with ⟨rfl, q⟩ | ⟨hl, q⟩
    · cases q
      rw [ext_same]
      exact ⟨none_of r h, vs, upd_same, d⟩
    · rw [ext_ne (Nat.ne_of_lt hl)]
      obtain ⟨h1, ws, h2, h3⟩ := r.mu n ys q
      exact ⟨h1, ws, sH _ _ h2, h3⟩
  · rcases get_app e with ⟨rfl, q⟩ | ⟨hl, q⟩
    · cases q
    · rw [ext_ne (Nat.ne_of_lt hl)]
      exact r.fr n ys q
  · rcases get_app e1 with ⟨h1, q1⟩ | ⟨h1, q1⟩ <;> rcases get_app e2 with ⟨h2, q2⟩ | ⟨h2, q2⟩
    · omega
    · subst h1
      rw [ext_same, ext_ne (Nat.ne_of_lt h2)] at e
      obtain ⟨_, ws, h3, _⟩ := r.mu m zs q2
      rw [← e, h] at h3
      cases h3
    · subst h2
      rw [ext_same, ext_ne (Nat.ne_of_lt h1)] at e
      obtain ⟨_, ws, h3, _⟩ := r.mu n ys q1
      rw [e, h] at h3
      cases h3
    · rw [ext_ne (Nat.ne_of_lt h1), ext_ne (Nat.ne_of_lt h2)] at e
      exact r.inj n m ys zs q1 q2 e
theorem tabs_write {p : Addr} {vs ws : List V} (t : LamX.Tabs T H) (h : H p = some (.lst vs)) : LamX.Tabs T (upd H p (.lst ws)) := fun q hq => by
  obtain ⟨ps, h1, h2, h3⟩ := t q hq
  refine ⟨ps, ?_, h2, fun pos cv hc => ?_⟩
  · rw [upd_ne (ne_of h1 h (by intro z; cases z))]
    exact h1
  · obtain ⟨c, e1, e2⟩ := h3 pos cv hc
    refine ⟨c, e1, ?_⟩
    rw [upd_ne (ne_of e2 h (by intro z; unfold LamX.CodeO at z; cases z))]
    exact e2
theorem get_set {n m : Nat} {c x : Cell} (e : (st.set n c)[m]? = some x) : (m = n ∧ x = c) ∨ (m ≠ n ∧ st[m]? = some x) := by
  by_cases h : n = m
  · subst h
    by_cases hl : n < st.length
    · rw [List.getElem?_set_self hl] at e
      exact .inl ⟨rfl, (Option.some.inj e).symm⟩
    · rw [List.getElem?_eq_none (by rw [List.length_set]; omega)] at e
      cases e
  · rw [List.getElem?_set_ne h] at e
    exact .inr ⟨fun z => h z.symm, e⟩
/-- a cell is written -/
theorem Rel.write {n : Nat} {xs ys : List PyData} {ws : List V} (r : Rel K T α F H st) (h : st[n]? = some (.mu xs)) (d : DpAll K F ws ys) : Rel K T α F (upd H (α n) (.lst ws)) (st.set n (.mu ys)) := by
  obtain ⟨h1, vs, h2, h3⟩ := r.mu n xs h
  refine ⟨fun b x e => ?_, r.nt, tabs_write r.tab h2, fun m zs e => ?_, fun m zs e => ?_, fun m k zs us e1 e2 e => ?_⟩
  · rw [upd_ne (ne_of_none e h1)]
    exact r.sub _ _ e
  · rcases get_set e with ⟨rfl, q⟩ | ⟨hn, q⟩
    · cases q
      exact ⟨h1, ws, upd_same, d⟩
    · obtain ⟨k1, us, k2, k3⟩ := r.mu m zs q
      refine ⟨k1, us, ?_, k3⟩
      rw [upd_ne (fun z => hn (r.inj m n zs xs q h z))]
      exact k2
  · rcases get_set e with ⟨rfl, q⟩ | ⟨hn, q⟩
    · cases q
    · exact r.fr m zs q
  · have f : ∀ {m : Nat} {zs : List PyData}, (st.set n (.mu ys))[m]? = some (.mu zs) → ∃ us, st[m]? = some (.mu us) := fun {m zs} e => by
      rcases get_set e with ⟨rfl, _⟩ | ⟨_, q⟩
      · exact ⟨xs, h⟩
      · exact ⟨zs, q⟩
    obtain ⟨a1, b1⟩ := f e1
    obtain ⟨a2, b2⟩ := f e2
    exact r.inj m k _ _ b1 b2 e
/-- a cell is frozen -/
theorem Rel.freeze {n : Nat} {xs : List PyData} (r : Rel K T α F H st) (h : st[n]? = some (.mu xs)) :
    ∃ F', Rel K T α F' H (st.set n (.fr xs)) ∧ Nx α F st.length α F' st.length ∧ Dp K F' (.ref (α n)) (.list xs) := by
  obtain ⟨h1, vs, h2, h3⟩ := r.mu n xs h
  have sF : Same F (upd F (α n) (.lst vs)) := same_upd h1
  have at_ : upd F (α n) (HO.lst vs) (α n) = some (.lst vs) := upd_same
  refine ⟨upd F (α n) (.lst vs), ⟨fun b x e => ?_, fun b ps e => ?_, r.tab, fun m zs e => ?_, fun m zs e => ?_, fun m k zs us e1 e2 e => ?_⟩, ⟨sF, Nat.le_refl _, fun _ _ => rfl⟩, .lst (.inl (.inl at_)) (dpsm sF h3)⟩
  · by_cases hb : b = α n
    · subst hb
      rw [upd_same] at e
      rw [h2]
      exact e
    · rw [upd_ne hb] at e
      exact r.sub _ _ e
  · by_cases hb : b = α n
    · subst hb
      rw [upd_same] at e
      cases e
    · rw [upd_ne hb] at e
      exact r.nt b ps e
  · rcases get_set e with ⟨rfl, q⟩ | ⟨hn, q⟩
    · cases q
    · obtain ⟨k1, us, k2, k3⟩ := r.mu m zs q
      refine ⟨?_, us, k2, dpsm sF k3⟩
      rw [upd_ne (fun z => hn (r.inj m n zs xs q h z))]
      exact k1
  · rcases get_set e with ⟨rfl, q⟩ | ⟨hn, q⟩
    · cases q
      exact ⟨vs, at_, dpsm sF h3⟩
    · obtain ⟨us, k2, k3⟩ := r.fr m zs q
      exact ⟨us, sF _ _ k2, dpsm sF k3⟩
  · rcases get_set e1 with ⟨_, q⟩ | ⟨_, q1⟩
    · cases q
    · rcases get_set e2 with ⟨_, q⟩ | ⟨_, q2⟩
      · cases q
      · exact r.inj m k _ _ q1 q2 e
theorem Rel.take (r : Rel K T α F H st) (m : Nat) : Rel K T α F H (st.take m) := by
  have f : ∀ {n : Nat} {c : Cell}, (st.take m)[n]? = some c → st[n]? = some c := fun {n c} e => by
    rw [List.getElem?_take] at e
    split at e
    · exact e
    · cases e
  exact ⟨r.sub, r.nt, r.tab, fun n xs e => r.mu n xs (f e), fun n xs e => r.fr n xs (f e), fun n k xs ys e1 e2 e => r.inj n k xs ys (f e1) (f e2) e⟩
end
end Ct

/-! CtB: the judgements and their rules. -/
namespace Ct
open PySem L2

section
variable (K : PySem.W.Frag) (T : List (Addr × Str))
def WE (te : TE) (ss : SS) (st : Sto) (Φ : Val → Sto → Prop) : Prop :=
  ∀ (α : Nat → Addr) (F H : Hp) (σ : L2.St), Rel K T α F H st → SR K α F st.length ss σ → ∀ Q : VK, (∀ (α' : Nat → Addr) (F' H' : Hp) (v : V) (x : Val) (st' : Sto), Nx α F st.length α' F' st'.length → Rel K T α' F' H' st' → VR K α' F' st'.length x v → Φ x st' → Q v H') → te σ H Q
def WT (tt : TT) (ss : SS) (st : Sto) (Φ : Bool → Sto → Prop) : Prop :=
  ∀ (α : Nat → Addr) (F H : Hp) (σ : L2.St), Rel K T α F H st → SR K α F st.length ss σ → ∀ Q : Bool → Hp → Prop, (∀ (α' : Nat → Addr) (F' H' : Hp) (b : Bool) (st' : Sto), Nx α F st.length α' F' st'.length → Rel K T α' F' H' st' → Φ b st' → Q b H') → tt σ H Q
def WA (ta : TA) (ss : SS) (st : Sto) (Φ : List Val → Sto → Prop) : Prop :=
  ∀ (α : Nat → Addr) (F H : Hp) (σ : L2.St), Rel K T α F H st → SR K α F st.length ss σ → ∀ Q : List V → Hp → Prop, (∀ (α' : Nat → Addr) (F' H' : Hp) (vs : List V) (xs : List Val) (st' : Sto), Nx α F st.length α' F' st'.length → Rel K T α' F' H' st' → VRs K α' F' st'.length xs vs → Φ xs st' → Q vs H') → ta σ H Q
def WO (to : TO) (ss : SS) (st : Sto) (Φ : Option Int → Sto → Prop) : Prop :=
  ∀ (α : Nat → Addr) (F H : Hp) (σ : L2.St), Rel K T α F H st → SR K α F st.length ss σ → ∀ Q : Option Int → Hp → Prop, (∀ (α' : Nat → Addr) (F' H' : Hp) (o : Option Int) (st' : Sto), Nx α F st.length α' F' st'.length → Rel K T α' F' H' st' → Φ o st' → Q o H') → to σ H Q
def WR (r : R2) (x y : Val) (st : Sto) (Φ : Val → Sto → Prop) : Prop :=
  ∀ (α : Nat → Addr) (F H : Hp) (vx vy : V), Rel K T α F H st → VR K α F st.length x vx → VR K α F st.length y vy → ∀ Q : VK, (∀ (α' : Nat → Addr) (F' H' : Hp) (v : V) (z : Val) (st' : Sto), Nx α F st.length α' F' st'.length → Rel K T α' F' H' st' → VR K α' F' st'.length z v → Φ z st' → Q v H') → r vx vy H Q
def WU (r : V → Hp → VK → Prop) (x : Val) (st : Sto) (Φ : Val → Sto → Prop) : Prop :=
  ∀ (α : Nat → Addr) (F H : Hp) (vx : V), Rel K T α F H st → VR K α F st.length x vx → ∀ Q : VK, (∀ (α' : Nat → Addr) (F' H' : Hp) (v : V) (z : Val) (st' : Sto), Nx α F st.length α' F' st'.length → Rel K T α' F' H' st' → VR K α' F' st'.length z v → Φ z st' → Q v H') → r vx H Q
def WC (r : List V → Hp → VK → Prop) (xs : List Val) (st : Sto) (Φ : Val → Sto → Prop) : Prop :=
  ∀ (α : Nat → Addr) (F H : Hp) (vs : List V), Rel K T α F H st → VRs K α F st.length xs vs → ∀ Q : VK, (∀ (α' : Nat → Addr) (F' H' : Hp) (v : V) (z : Val) (st' : Sto), Nx α F st.length α' F' st'.length → Rel K T α' F' H' st' → VR K α' F' st'.length z v → Φ z st' → Q v H') → r vs H Q
def WM (r : V → List V → Hp → VK → Prop) (x : Val) (xs : List Val) (st : Sto) (Φ : Val → Sto → Prop) : Prop :=
  ∀ (α : Nat → Addr) (F H : Hp) (vx : V) (vs : List V), Rel K T α F H st → VR K α F st.length x vx → VRs K α F st.length xs vs → ∀ Q : VK, (∀ (α' : Nat → Addr) (F' H' : Hp) (v : V) (z : Val) (st' : Sto), Nx α F st.length α' F' st'.length → Rel K T α' F' H' st' → VR K α' F' st'.length z v → Φ z st' → Q v H') → r vx vs H Q
def WX (t : TSet) (o i x : Val) (st : Sto) (Φ : Sto → Prop) : Prop :=
  ∀ (α : Nat → Addr) (F H : Hp) (vo vi vx : V), Rel K T α F H st → VR K α F st.length o vo → VR K α F st.length i vi → VR K α F st.length x vx → ∀ Q : Hp → Prop, (∀ (α' : Nat → Addr) (F' H' : Hp) (st' : Sto), Nx α F st.length α' F' st'.length → Rel K T α' F' H' st' → Φ st' → Q H') → t vo vi vx H Q
def WG (g : TG) (x : Val) (ss : SS) (st : Sto) (Φ : SS → Sto → Prop) : Prop :=
  ∀ (α : Nat → Addr) (F H : Hp) (σ : L2.St) (v : V), Rel K T α F H st → SR K α F st.length ss σ → VR K α F st.length x v → ∀ Q : L2.St → Hp → Prop, (∀ (α' : Nat → Addr) (F' H' : Hp) (σ' : L2.St) (ss' : SS) (st' : Sto), Nx α F st.length α' F' st'.length → Rel K T α' F' H' st' → SR K α' F' st'.length ss' σ' → Φ ss' st' → Q σ' H') → g v σ H Q
def WGs (g : TGs) (xs : List Val) (ss : SS) (st : Sto) (Φ : SS → Sto → Prop) : Prop :=
  ∀ (α : Nat → Addr) (F H : Hp) (σ : L2.St) (vs : List V), Rel K T α F H st → SR K α F st.length ss σ → VRs K α F st.length xs vs → ∀ Q : L2.St → Hp → Prop, (∀ (α' : Nat → Addr) (F' H' : Hp) (σ' : L2.St) (ss' : SS) (st' : Sto), Nx α F st.length α' F' st'.length → Rel K T α' F' H' st' → SR K α' F' st'.length ss' σ' → Φ ss' st' → Q σ' H') → g vs σ H Q
end
structure Po where
  nx : SS → Sto → Prop
  rt : Val → Sto → Prop
  bk : SS → Sto → Prop
  ct : SS → Sto → Prop
section
variable (K : PySem.W.Frag) (T : List (Addr × Str))
structure Ok (α : Nat → Addr) (F : Hp) (L : Nat) (P : Po) (D : Ends) : Prop where
  nx : ∀ (α' : Nat → Addr) (F' H' : Hp) (σ' : L2.St) (ss' : SS) (st' : Sto), Nx α F L α' F' st'.length → Rel K T α' F' H' st' → SR K α' F' st'.length ss' σ' → P.nx ss' st' → D.nx σ' H'
  rt : ∀ (α' : Nat → Addr) (F' H' : Hp) (v : V) (x : Val) (st' : Sto), Nx α F L α' F' st'.length → Rel K T α' F' H' st' → VR K α' F' st'.length x v → P.rt x st' → D.rt v H'
  bk : ∀ (α' : Nat → Addr) (F' H' : Hp) (σ' : L2.St) (ss' : SS) (st' : Sto), Nx α F L α' F' st'.length → Rel K T α' F' H' st' → SR K α' F' st'.length ss' σ' → P.bk ss' st' → D.bk σ' H'
  ct : ∀ (α' : Nat → Addr) (F' H' : Hp) (σ' : L2.St) (ss' : SS) (st' : Sto), Nx α F L α' F' st'.length → Rel K T α' F' H' st' → SR K α' F' st'.length ss' σ' → P.ct ss' st' → D.ct σ' H'
def WS (ts : TS) (ss : SS) (st : Sto) (P : Po) : Prop :=
  ∀ (α : Nat → Addr) (F H : Hp) (σ : L2.St), Rel K T α F H st → SR K α F st.length ss σ → ∀ D : Ends, Ok K T α F st.length P D → ts D σ H
end
section
variable {K : PySem.W.Frag} {T : List (Addr × Str)}
theorem Ok.mono {α α1 : Nat → Addr} {F F1 : Hp} {L L1 : Nat} {P : Po} {D : Ends} (n : Nx α F L α1 F1 L1) (o : Ok K T α F L P D) : Ok K T α1 F1 L1 P D :=
  ⟨fun _ _ _ _ _ _ m => o.nx _ _ _ _ _ _ (n.trans m), fun _ _ _ _ _ _ m => o.rt _ _ _ _ _ _ (n.trans m), fun _ _ _ _ _ _ m => o.bk _ _ _ _ _ _ (n.trans m), fun _ _ _ _ _ _ m => o.ct _ _ _ _ _ _ (n.trans m)⟩

variable {ss : SS} {st : Sto} {Φ : Val → Sto → Prop} {te ta tb tc : TE} {tt tu : TT} {P : Po}

/-! ### data and cells -/
/-- make plain data of a value: a cell is frozen -/
def pur : Val → Sto → Option (PyData × Sto)
  | .pd d, st => some (d, st)
  | .cell n, st => match st[n]? with
    | some (.mu xs) => some (.list xs, st.set n (.fr xs))
    | some (.fr xs) => some (.list xs, st)
    | none => none
  | .ty _, _ => none
def purs : List Val → Sto → Option (List PyData × Sto)
  | [], st => some ([], st)
  | x :: xs, st => (pur x st).bind fun p => (purs xs p.2).bind fun q => some (p.1 :: q.1, q.2)
/-- what a value shows -/
def look : Val → Sto → Option PyData
  | .pd d, _ => some d
  | .cell n, st => match st[n]? with
    | some (.mu xs) => some (.list xs)
    | some (.fr xs) => some (.list xs)
    | none => none
  | .ty _, _ => none
theorem pur_ok {α : Nat → Addr} {F H : Hp} {x : Val} {v : V} {d : PyData} {st' : Sto} (r : Rel K T α F H st) (hv : VR K α F st.length x v) (e : pur x st = some (d, st')) :
    ∃ F', Rel K T α F' H st' ∧ Nx α F st.length α F' st'.length ∧ Dp K F' v d := by
  cases x with
  | pd d0 =>
    cases e
    exact ⟨F, r, Nx.refl, hv⟩
  | cell n =>
    obtain ⟨hn, rfl⟩ := hv
    dsimp only [pur] at e
    split at e
    · rename_i xs h
      cases e
      obtain ⟨F', r', n', d'⟩ := r.freeze h
      exact ⟨F', r', by rw [List.length_set]; exact n', d'⟩
    · rename_i xs h
      cases e
      obtain ⟨vs, h1, h2⟩ := r.fr n _ h
      exact ⟨F, r, Nx.refl, .lst (.inl (.inl h1)) h2⟩
    · cases e
  | ty n => cases e
theorem purs_ok {α : Nat → Addr} {H : Hp} : ∀ {xs : List Val} {vs : List V} {F : Hp} {ds : List PyData} {st st' : Sto}, Rel K T α F H st → VRs K α F st.length xs vs → purs xs st = some (ds, st') →
    ∃ F', Rel K T α F' H st' ∧ Nx α F st.length α F' st'.length ∧ DpAll K F' vs ds
  | [], _, F, _, st, _, r, .nil, e => by
    cases e
    exact ⟨F, r, Nx.refl, .nil⟩
  | x :: xs, _, F, ds, st, st', r, .cons h t, e => by
    unfold purs at e
    rw [Option.bind_eq_some_iff] at e
    obtain ⟨⟨d, st1⟩, e1, e⟩ := e
    rw [Option.bind_eq_some_iff] at e
    obtain ⟨⟨es, st2⟩, e2, e⟩ := e
    cases e
    obtain ⟨F1, r1, n1, d1⟩ := pur_ok r h e1
    obtain ⟨F2, r2, n2, d2⟩ := purs_ok r1 (t.mono n1) e2
    exact ⟨F2, r2, n1.trans n2, .cons (dpm n2.sub d1) d2⟩
/-- a value's data, read in the whole heap -/
theorem look_ok {α : Nat → Addr} {F H : Hp} {x : Val} {v : V} {d : PyData} (r : Rel K T α F H st) (hv : VR K α F st.length x v) (e : look x st = some d) : Dp K H v d := by
  cases x with
  | pd d0 =>
    cases e
    exact dpm r.sub hv
  | cell n =>
    obtain ⟨hn, rfl⟩ := hv
    dsimp only [look] at e
    split at e
    · rename_i xs h
      cases e
      obtain ⟨h1, vs, h2, h3⟩ := r.mu n _ h
      exact .lst (.inl (.inl h2)) (dpsm r.sub h3)
    · rename_i xs h
      cases e
      obtain ⟨vs, h1, h2⟩ := r.fr n _ h
      exact .lst (.inl (.inl (r.sub _ _ h1))) (dpsm r.sub h2)
    · cases e
  | ty n => cases e
/-- a list's items: the list in the whole heap, its items plain data -/
theorem look_lst {α : Nat → Addr} {F H : Hp} {x : Val} {v : V} {ds : List PyData} (r : Rel K T α F H st) (hv : VR K α F st.length x v) (e : look x st = some (.list ds)) : ∃ a vs, v = .ref a ∧ SqL K H a vs ∧ DpAll K F vs ds := by
  cases x with
  | pd d0 =>
    cases e
    obtain ⟨a, vs, rfl, h1, h2⟩ := dp_lst hv
    exact ⟨a, vs, rfl, r.sub.seq h1, h2⟩
  | cell n =>
    obtain ⟨hn, rfl⟩ := hv
    dsimp only [look] at e
    split at e
    · rename_i xs h
      cases e
      obtain ⟨h1, vs, h2, h3⟩ := r.mu n _ h
      exact ⟨_, vs, rfl, .inl (.inl h2), h3⟩
    · rename_i xs h
      cases e
      obtain ⟨vs, h1, h2⟩ := r.fr n _ h
      exact ⟨_, vs, rfl, .inl (.inl (r.sub _ _ h1)), h2⟩
    · cases e
  | ty n => cases e

/-! ### expressions -/
theorem we_var {i : Nat} {x : Val} (h : ss[i]? = some (some x)) (q : Φ x st) : WE K T (tVar i) ss st Φ := fun α F H σ r s Q k =>
  let ⟨v, e, hv⟩ := s.at_ i x h
  ⟨v, e, k α F H v x st Nx.refl r hv q⟩
def vd : V → Option PyData
  | .non => some .none
  | .bl b => some (.bool b)
  | .int i => some (.int i)
  | .str x => some (.str x)
  | _ => none
theorem vd_ok {F : Hp} : ∀ {v : V} {d : PyData}, vd v = some d → Dp K F v d
  | .non, _, e => by cases e; exact .non
  | .bl b, _, e => by cases e; exact .bl b
  | .int i, _, e => by cases e; exact .int i
  | .str x, _, e => by cases e; exact .str x
theorem we_c {v : V} {d : PyData} (h : vd v = some d) (q : Φ (.pd d) st) : WE K T (tC v) ss st Φ := fun α F H σ r s Q k => k α F H v (.pd d) st Nx.refl r (vd_ok h) q
theorem we_ty {n : String} (q : Φ (.ty n) st) : WE K T (tC (.ty n)) ss st Φ := fun α F H σ r s Q k => k α F H (.ty n) (.ty n) st Nx.refl r rfl q
/-- make it plain -/
theorem we_pur (h : WE K T te ss st fun x st1 => ∃ d st2, pur x st1 = some (d, st2) ∧ Φ (.pd d) st2) : WE K T te ss st Φ := fun α F H σ r s Q k =>
  h α F H σ r s Q fun α1 F1 H1 v x st1 n1 r1 v1 ⟨d, st2, e, q⟩ => by
    obtain ⟨F2, r2, n2, d2⟩ := pur_ok r1 v1 e
    exact k α1 F2 H1 v (.pd d) st2 (n1.trans n2) r2 d2 q
theorem we_mono {Ψ : Val → Sto → Prop} (h : WE K T te ss st Ψ) (q : ∀ x st', Ψ x st' → Φ x st') : WE K T te ss st Φ := fun α F H σ r s Q k => h α F H σ r s Q fun α1 F1 H1 v x st1 n1 r1 v1 p => k α1 F1 H1 v x st1 n1 r1 v1 (q x st1 p)
theorem we_op {r : R2} (h : WE K T ta ss st fun x st1 => WE K T tb ss st1 fun y st2 => WR K T r x y st2 Φ) : WE K T (tOp r ta tb) ss st Φ := fun α F H σ rl s Q k =>
  h α F H σ rl s _ fun α1 F1 H1 vx x st1 n1 r1 v1 h1 => h1 α1 F1 H1 σ r1 (s.mono n1) _ fun α2 F2 H2 vy y st2 n2 r2 v2 h2 => h2 α2 F2 H2 vx vy r2 (v1.mono n2) v2 Q fun α3 F3 H3 v z st3 n3 => k α3 F3 H3 v z st3 (n1.trans (n2.trans n3))
theorem we_un {r : V → Hp → VK → Prop} (h : WE K T ta ss st fun x st1 => WU K T r x st1 Φ) : WE K T (tUn r ta) ss st Φ := fun α F H σ rl s Q k =>
  h α F H σ rl s _ fun α1 F1 H1 vx x st1 n1 r1 v1 h1 => h1 α1 F1 H1 vx r1 v1 Q fun α3 F3 H3 v z st3 n3 => k α3 F3 H3 v z st3 (n1.trans n3)
theorem wr_I0 {g : Int → Int → V} {i j : Int} {d : PyData} (h : vd (g i j) = some d) (q : Φ (.pd d) st) : WR K T (rI0 g) (.pd (.int i)) (.pd (.int j)) st Φ := fun α F H vx vy r hx hy Q k => by
  obtain rfl := dp_int hx
  obtain rfl := dp_int hy
  exact ⟨i, j, rfl, rfl, k α F H _ (.pd d) st Nx.refl r (vd_ok h) q⟩
theorem wr_I {C : Int → Int → Prop} {g : Int → Int → V} {i j : Int} {d : PyData} (hc : C i j) (h : vd (g i j) = some d) (q : Φ (.pd d) st) : WR K T (rI C g) (.pd (.int i)) (.pd (.int j)) st Φ := fun α F H vx vy r hx hy Q k => by
  obtain rfl := dp_int hx
  obtain rfl := dp_int hy
  exact ⟨i, j, rfl, rfl, hc, k α F H _ (.pd d) st Nx.refl r (vd_ok h) q⟩
theorem wu_neg {i : Int} (q : Φ (.pd (.int (-i))) st) : WU K T (rU fun i => .int (-i)) (.pd (.int i)) st Φ := fun α F H vx r hx Q k => by
  obtain rfl := dp_int hx
  exact ⟨i, rfl, k α F H _ (.pd _) st Nx.refl r (Dp.int _) q⟩
theorem wr_eqI {i j : Int} (q : Φ (.pd (.bool (decide (i = j)))) st) : WR K T rEq (.pd (.int i)) (.pd (.int j)) st Φ := fun α F H vx vy r hx hy Q k => by
  obtain rfl := dp_int hx
  obtain rfl := dp_int hy
  refine ⟨rfl, k α F H _ (.pd _) st Nx.refl r ?_ q⟩
  have e : decide (V.int i = V.int j) = decide (i = j) := by simp
  rw [e]
  exact Dp.bl _
theorem wr_neI {i j : Int} (q : Φ (.pd (.bool (!decide (i = j)))) st) : WR K T rNe (.pd (.int i)) (.pd (.int j)) st Φ := fun α F H vx vy r hx hy Q k => by
  obtain rfl := dp_int hx
  obtain rfl := dp_int hy
  refine ⟨rfl, k α F H _ (.pd _) st Nx.refl r ?_ q⟩
  have e : decide (V.int i = V.int j) = decide (i = j) := by simp
  rw [e]
  exact Dp.bl _
theorem wr_eqS {i j : Str} (q : Φ (.pd (.bool (decide (i = j)))) st) : WR K T rEq (.pd (.str i)) (.pd (.str j)) st Φ := fun α F H vx vy r hx hy Q k => by
  obtain rfl := dp_str hx
  obtain rfl := dp_str hy
  refine ⟨rfl, k α F H _ (.pd _) st Nx.refl r ?_ q⟩
  have e : decide (V.str i = V.str j) = decide (i = j) := by simp
  rw [e]
  exact Dp.bl _
theorem wr_neS {i j : Str} (q : Φ (.pd (.bool (!decide (i = j)))) st) : WR K T rNe (.pd (.str i)) (.pd (.str j)) st Φ := fun α F H vx vy r hx hy Q k => by
  obtain rfl := dp_str hx
  obtain rfl := dp_str hy
  refine ⟨rfl, k α F H _ (.pd _) st Nx.refl r ?_ q⟩
  have e : decide (V.str i = V.str j) = decide (i = j) := by simp
  rw [e]
  exact Dp.bl _
/-- an optional last line equal to a number -/
theorem wr_eqN {j : Int} (q : Φ (.pd (.bool false)) st) : WR K T rEq (.pd .none) (.pd (.int j)) st Φ := fun α F H vx vy r hx hy Q k => by
  obtain rfl := dp_non hx
  obtain rfl := dp_int hy
  exact ⟨rfl, k α F H _ (.pd _) st Nx.refl r (Dp.bl _) q⟩
theorem wr_eqD {x y : Val} {d e : PyData} (h1 : look x st = some d) (h2 : look y st = some e) (s1 : SeqAt.shaped d = true) (s2 : SeqAt.shaped e = true) (q : Φ (.pd (.bool (PyData.eqv d e))) st) : WR K T (rEqD K) x y st Φ := fun α F H vx vy r hx hy Q k =>
  ⟨d, e, look_ok r hx h1, look_ok r hy h2, s1, s2, k α F H _ (.pd _) st Nx.refl r (Dp.bl _) q⟩
theorem wr_neD {x y : Val} {d e : PyData} (h1 : look x st = some d) (h2 : look y st = some e) (s1 : SeqAt.shaped d = true) (s2 : SeqAt.shaped e = true) (q : Φ (.pd (.bool (!PyData.eqv d e))) st) : WR K T (rNeD K) x y st Φ := fun α F H vx vy r hx hy Q k =>
  ⟨d, e, look_ok r hx h1, look_ok r hy h2, s1, s2, k α F H _ (.pd _) st Nx.refl r (Dp.bl _) q⟩
def isNone : PyData → Bool
  | .none => true
  | _ => false
theorem dp_isNone {F : Hp} {v : V} {d : PyData} (h : Dp K F v d) : decide (v = .non) = isNone d := by
  cases h <;> rfl
theorem wr_isN {d : PyData} (q : Φ (.pd (.bool (isNone d))) st) : WR K T (fun x y H Q => y = .non ∧ Q (.bl (decide (x = .non))) H) (.pd d) (.pd .none) st Φ := fun α F H vx vy r hx hy Q k => by
  obtain rfl := dp_non hy
  refine ⟨rfl, k α F H _ (.pd _) st Nx.refl r ?_ q⟩
  rw [dp_isNone hx]
  exact Dp.bl _
theorem wr_notN {d : PyData} (q : Φ (.pd (.bool (!isNone d))) st) : WR K T (fun x y H Q => y = .non ∧ Q (.bl (!decide (x = .non))) H) (.pd d) (.pd .none) st Φ := fun α F H vx vy r hx hy Q k => by
  obtain rfl := dp_non hy
  refine ⟨rfl, k α F H _ (.pd _) st Nx.refl r ?_ q⟩
  rw [dp_isNone hx]
  exact Dp.bl _
theorem atI_dps {F : Hp} {vs : List V} {ds : List PyData} {i : Int} {d : PyData} (t : DpAll K F vs ds) (e : atI ds i = some d) : ∃ v, atI vs i = some v ∧ Dp K F v d := by
  unfold atI at e ⊢
  rw [dps_len t]
  rw [Option.bind_eq_some_iff] at e
  obtain ⟨j, e1, e2⟩ := e
  obtain ⟨v, h1, h2⟩ := dps_get t e2
  exact ⟨v, by rw [e1]; exact h1, h2⟩
theorem wr_ixL {x : Val} {ds : List PyData} {i : Int} {d : PyData} (h : look x st = some (.list ds)) (e : atI ds i = some d) (q : Φ (.pd d) st) : WR K T (rIxL K) x (.pd (.int i)) st Φ := fun α F H vx vy r hx hy Q k => by
  obtain rfl := dp_int hy
  obtain ⟨a, vs, rfl, h1, h2⟩ := look_lst r hx h
  obtain ⟨v, e1, dv⟩ := atI_dps h2 e
  exact ⟨a, vs, i, v, rfl, rfl, h1, e1, k α F H _ (.pd _) st Nx.refl r dv q⟩
theorem wr_ixT {ds : List PyData} {i : Int} {d : PyData} (e : atI ds i = some d) (q : Φ (.pd d) st) : WR K T (rIxT K) (.pd (.tuple ds)) (.pd (.int i)) st Φ := fun α F H vx vy r hx hy Q k => by
  obtain rfl := dp_int hy
  obtain ⟨a, vs, rfl, h1, h2⟩ := dp_tup hx
  obtain ⟨v, e1, dv⟩ := atI_dps h2 e
  exact ⟨a, vs, i, v, rfl, rfl, seqT r.sub h1, e1, k α F H _ (.pd _) st Nx.refl r dv q⟩
theorem we_chain {r r' : R2} (h : WE K T ta ss st fun x st1 => WE K T tb ss st1 fun y st2 => WR K T r x y st2 fun z st3 => ∃ k, z = .pd (.bool k) ∧ (k = true → WE K T tc ss st3 fun w st4 => WR K T r' y w st4 Φ) ∧ (k = false → Φ (.pd (.bool false)) st3)) :
    WE K T (tChain r r' ta tb tc) ss st Φ := fun α F H σ rl s Q k =>
  h α F H σ rl s _ fun α1 F1 H1 vx x st1 n1 r1 v1 h1 => h1 α1 F1 H1 σ r1 (s.mono n1) _ fun α2 F2 H2 vy y st2 n2 r2 v2 h2 => h2 α2 F2 H2 vx vy r2 (v1.mono n2) v2 _ fun α3 F3 H3 v z st3 n3 r3 v3 ⟨b, e, ht, hf⟩ => by
    subst e
    obtain rfl := dp_bl v3
    refine ⟨b, rfl, ?_⟩
    cases b with
    | true =>
      rw [if_pos rfl]
      exact ht rfl α3 F3 H3 σ r3 (s.mono (n1.trans (n2.trans n3))) _ fun α4 F4 H4 vw w st4 n4 r4 v4 h4 => h4 α4 F4 H4 vy vw r4 (v2.mono (n3.trans n4)) v4 Q fun α5 F5 H5 v5 z5 st5 n5 => k α5 F5 H5 v5 z5 st5 (n1.trans (n2.trans (n3.trans (n4.trans n5))))
    | false =>
      rw [if_neg Bool.false_ne_true]
      exact k α3 F3 H3 _ (.pd _) st3 (n1.trans (n2.trans n3)) r3 (Dp.bl _) (hf rfl)
theorem we_andV (h : WE K T ta ss st fun x st1 => ∃ c, x = .pd (.bool c) ∧ (c = true → WE K T tb ss st1 Φ) ∧ (c = false → Φ (.pd (.bool false)) st1)) : WE K T (tAndV ta tb) ss st Φ := fun α F H σ rl s Q k =>
  h α F H σ rl s _ fun α1 F1 H1 vx x st1 n1 r1 v1 ⟨c, e, ht, hf⟩ => by
    subst e
    obtain rfl := dp_bl v1
    refine ⟨c, rfl, ?_⟩
    cases c with
    | true =>
      rw [if_pos rfl]
      exact ht rfl α1 F1 H1 σ r1 (s.mono n1) Q fun α2 F2 H2 v z st2 n2 => k α2 F2 H2 v z st2 (n1.trans n2)
    | false =>
      rw [if_neg Bool.false_ne_true]
      exact k α1 F1 H1 _ (.pd _) st1 n1 r1 (Dp.bl _) (hf rfl)
theorem we_orV (h : WE K T ta ss st fun x st1 => ∃ c, x = .pd (.bool c) ∧ (c = true → Φ (.pd (.bool true)) st1) ∧ (c = false → WE K T tb ss st1 Φ)) : WE K T (tOrV ta tb) ss st Φ := fun α F H σ rl s Q k =>
  h α F H σ rl s _ fun α1 F1 H1 vx x st1 n1 r1 v1 ⟨c, e, ht, hf⟩ => by
    subst e
    obtain rfl := dp_bl v1
    refine ⟨c, rfl, ?_⟩
    cases c with
    | true =>
      rw [if_pos rfl]
      exact k α1 F1 H1 _ (.pd _) st1 n1 r1 (Dp.bl _) (ht rfl)
    | false =>
      rw [if_neg Bool.false_ne_true]
      exact hf rfl α1 F1 H1 σ r1 (s.mono n1) Q fun α2 F2 H2 v z st2 n2 => k α2 F2 H2 v z st2 (n1.trans n2)
theorem we_notV (h : WE K T ta ss st fun x st1 => ∃ c, x = .pd (.bool c) ∧ Φ (.pd (.bool (!c))) st1) : WE K T (tNotV ta) ss st Φ := fun α F H σ rl s Q k =>
  h α F H σ rl s _ fun α1 F1 H1 vx x st1 n1 r1 v1 ⟨c, e, hc⟩ => by
    subst e
    obtain rfl := dp_bl v1
    exact ⟨c, rfl, k α1 F1 H1 _ (.pd _) st1 n1 r1 (Dp.bl _) hc⟩
theorem we_if (h : WT K T tt ss st fun b st1 => (b = true → WE K T ta ss st1 Φ) ∧ (b = false → WE K T tb ss st1 Φ)) : WE K T (tIf tt ta tb) ss st Φ := fun α F H σ rl s Q k =>
  h α F H σ rl s _ fun α1 F1 H1 b st1 n1 r1 ⟨ht, hf⟩ => by
    cases b with
    | true =>
      rw [if_pos rfl]
      exact ht rfl α1 F1 H1 σ r1 (s.mono n1) Q fun α2 F2 H2 v z st2 n2 => k α2 F2 H2 v z st2 (n1.trans n2)
    | false =>
      rw [if_neg Bool.false_ne_true]
      exact hf rfl α1 F1 H1 σ r1 (s.mono n1) Q fun α2 F2 H2 v z st2 n2 => k α2 F2 H2 v z st2 (n1.trans n2)
theorem wa_nil {Ψ : List Val → Sto → Prop} (q : Ψ [] st) : WA K T tNil ss st Ψ := fun α F H σ r s Q k => k α F H [] [] st Nx.refl r .nil q
theorem wa_cons {Ψ : List Val → Sto → Prop} {tr : TA} (h : WE K T ta ss st fun x st1 => WA K T tr ss st1 fun xs st2 => Ψ (x :: xs) st2) : WA K T (tCons ta tr) ss st Ψ := fun α F H σ r s Q k =>
  h α F H σ r s _ fun α1 F1 H1 v x st1 n1 r1 v1 h1 => h1 α1 F1 H1 σ r1 (s.mono n1) _ fun α2 F2 H2 vs xs st2 n2 r2 v2 h2 => k α2 F2 H2 (v :: vs) (x :: xs) st2 (n1.trans n2) r2 (.cons (v1.mono n2) v2) h2
theorem we_tup {t : TA} (h : WA K T t ss st fun xs st1 => ∃ ds st2, purs xs st1 = some (ds, st2) ∧ ds.length ≤ sizeLine ∧ Φ (.pd (.tuple ds)) st2) : WE K T (tTup t) ss st Φ := fun α F H σ r s Q k =>
  h α F H σ r s _ fun α1 F1 H1 vs xs st1 n1 r1 v1 ⟨ds, st2, e, hl, q⟩ => by
    obtain ⟨F2, r2, n2, d2⟩ := purs_ok r1 v1 e
    refine ⟨by rw [dps_len d2]; exact hl, fun p hp => ?_⟩
    have hF := none_of r2 hp
    exact k α1 (upd F2 p (.tup vs)) _ (.ref p) (.pd (.tuple ds)) st2 (n1.trans (n2.trans (Nx.new hF))) (r2.new hp fun ps z => by cases z) (.tup (.inl (.inl upd_same)) (dpsm (same_upd hF) d2)) q
/-- a list display that will not be written -/
theorem we_lst {t : TA} (h : WA K T t ss st fun xs st1 => ∃ ds st2, purs xs st1 = some (ds, st2) ∧ ds.length ≤ sizeLine ∧ Φ (.pd (.list ds)) st2) : WE K T (tLst t) ss st Φ := fun α F H σ r s Q k =>
  h α F H σ r s _ fun α1 F1 H1 vs xs st1 n1 r1 v1 ⟨ds, st2, e, hl, q⟩ => by
    obtain ⟨F2, r2, n2, d2⟩ := purs_ok r1 v1 e
    refine ⟨by rw [dps_len d2]; exact hl, fun p hp => ?_⟩
    have hF := none_of r2 hp
    exact k α1 (upd F2 p (.lst vs)) _ (.ref p) (.pd (.list ds)) st2 (n1.trans (n2.trans (Nx.new hF))) (r2.new hp fun ps z => by cases z) (.lst (.inl (.inl upd_same)) (dpsm (same_upd hF) d2)) q
/-- one that will be written -/
theorem we_lstC {t : TA} (h : WA K T t ss st fun xs st1 => ∃ ds st2, purs xs st1 = some (ds, st2) ∧ ds.length ≤ sizeLine ∧ Φ (.cell st2.length) (st2 ++ [.mu ds])) : WE K T (tLst t) ss st Φ := fun α F H σ r s Q k =>
  h α F H σ r s _ fun α1 F1 H1 vs xs st1 n1 r1 v1 ⟨ds, st2, e, hl, q⟩ => by
    obtain ⟨F2, r2, n2, d2⟩ := purs_ok r1 v1 e
    refine ⟨by rw [dps_len d2]; exact hl, fun p hp => ?_⟩
    have hlen : (st2 ++ [Cell.mu ds]).length = st2.length + 1 := by simp
    refine k (ext α1 st2.length p) F2 _ (.ref p) (.cell st2.length) (st2 ++ [.mu ds]) (by rw [hlen]; exact n1.trans (n2.trans Nx.ext)) (r2.cell hp d2) ?_ q
    exact ⟨by rw [hlen]; exact Nat.lt_succ_self _, by rw [ext_same]⟩
def cutD (xs : List PyData) (lo hi : Option Int) : List PyData := (xs.drop (HT.sIx xs.length 0 lo)).take (HT.sIx xs.length xs.length hi - HT.sIx xs.length 0 lo)
theorem dps_cut {F : Hp} {vs : List V} {ds : List PyData} (t : DpAll K F vs ds) (lo hi : Option Int) : DpAll K F (cutV vs lo hi) (cutD ds lo hi) := by
  unfold cutV cutD
  rw [dps_len t]
  exact dps_take _ (dps_drop _ t)
theorem wo_none {Ψ : Option Int → Sto → Prop} (q : Ψ none st) : WO K T tNoPart ss st Ψ := fun α F H σ r s Q k => k α F H none st Nx.refl r q
theorem wo_part {Ψ : Option Int → Sto → Prop} (h : WE K T te ss st fun x st1 => ∃ i, x = .pd (.int i) ∧ Ψ (some i) st1) : WO K T (tPart te) ss st Ψ := fun α F H σ r s Q k =>
  h α F H σ r s _ fun α1 F1 H1 v x st1 n1 r1 v1 ⟨i, e, q⟩ => by
    subst e
    obtain rfl := dp_int v1
    exact ⟨i, rfl, k α1 F1 H1 (some i) st1 n1 r1 q⟩
theorem we_slL {tl th : TO} (h : WE K T te ss st fun x st1 => WO K T tl ss st1 fun lo st2 => WO K T th ss st2 fun hi st3 => ∃ ds, look x st3 = some (.list ds) ∧ Φ (.pd (.list (cutD ds lo hi))) st3) : WE K T (tSl (rSlL K) te tl th) ss st Φ := fun α F H σ r s Q k =>
  h α F H σ r s _ fun α1 F1 H1 v x st1 n1 r1 v1 h1 => h1 α1 F1 H1 σ r1 (s.mono n1) _ fun α2 F2 H2 lo st2 n2 r2 h2 => h2 α2 F2 H2 σ r2 (s.mono (n1.trans n2)) _ fun α3 F3 H3 hi st3 n3 r3 ⟨ds, e, q⟩ => by
    obtain ⟨a, vs, rfl, h4, h5⟩ := look_lst r3 (v1.mono (n2.trans n3)) e
    refine ⟨a, vs, rfl, h4, fun p hp => ?_⟩
    have hF := none_of r3 hp
    exact k α3 (upd F3 p (.lst (cutV vs lo hi))) _ (.ref p) (.pd _) st3 (n1.trans (n2.trans (n3.trans (Nx.new hF)))) (r3.new hp fun ps z => by cases z) (Dp.lst (.inl (.inl upd_same)) (dpsm (same_upd hF) (dps_cut h5 lo hi))) q
/-- list + list -/
theorem wr_cat {n m : Nat} {xs ys : List PyData} (hn : st[n]? = some (.mu xs)) (hm : st[m]? = some (.mu ys)) (hl : xs.length + ys.length ≤ sizeLine) (q : Φ (.pd (.list (xs ++ ys))) st) : WR K T rCat (.cell n) (.cell m) st Φ := fun α F H vx vy r hx hy Q k => by
  obtain ⟨_, rfl⟩ := hx
  obtain ⟨_, rfl⟩ := hy
  obtain ⟨_, vs, e1, d1⟩ := r.mu n xs hn
  obtain ⟨_, ws, e2, d2⟩ := r.mu m ys hm
  refine ⟨_, _, vs, ws, rfl, rfl, e1, e2, by rw [dps_len d1, dps_len d2]; exact hl, fun p hp => ?_⟩
  have hF := none_of r hp
  exact k α (upd F p (.lst (vs ++ ws))) _ (.ref p) (.pd _) st (Nx.new hF) (r.new hp fun ps z => by cases z) (Dp.lst (.inl (.inl upd_same)) (dpsm (same_upd hF) (dps_app d1 d2))) q
/-- .. of any two lists that the heap tracks: given as tracked -/
def Trk (x : Val) (st : Sto) (xs : List PyData) : Prop := ∃ n, x = .cell n ∧ (st[n]? = some (.mu xs) ∨ st[n]? = some (.fr xs))
theorem trk_ok {α : Nat → Addr} {F H : Hp} {x : Val} {v : V} {xs : List PyData} (r : Rel K T α F H st) (hv : VR K α F st.length x v) (t : Trk x st xs) : ∃ a vs, v = .ref a ∧ H a = some (.lst vs) ∧ DpAll K F vs xs := by
  obtain ⟨n, rfl, t⟩ := t
  obtain ⟨_, rfl⟩ := hv
  rcases t with t | t
  · obtain ⟨_, vs, e1, d1⟩ := r.mu n xs t
    exact ⟨_, vs, rfl, e1, d1⟩
  · obtain ⟨vs, e1, d1⟩ := r.fr n xs t
    exact ⟨_, vs, rfl, r.sub _ _ e1, d1⟩
theorem wr_catT {x y : Val} {xs ys : List PyData} (hn : Trk x st xs) (hm : Trk y st ys) (hl : xs.length + ys.length ≤ sizeLine) (q : Φ (.pd (.list (xs ++ ys))) st) : WR K T rCat x y st Φ := fun α F H vx vy r hx hy Q k => by
  obtain ⟨a, vs, rfl, e1, d1⟩ := trk_ok r hx hn
  obtain ⟨b, ws, rfl, e2, d2⟩ := trk_ok r hy hm
  refine ⟨_, _, vs, ws, rfl, rfl, e1, e2, by rw [dps_len d1, dps_len d2]; exact hl, fun p hp => ?_⟩
  have hF := none_of r hp
  exact k α (upd F p (.lst (vs ++ ws))) _ (.ref p) (.pd _) st (Nx.new hF) (r.new hp fun ps z => by cases z) (Dp.lst (.inl (.inl upd_same)) (dpsm (same_upd hF) (dps_app d1 d2))) q

/-! ### tests -/
variable {Ψ : Bool → Sto → Prop}
theorem wt_test (h : WE K T te ss st fun x st1 => ∃ b, x = .pd (.bool b) ∧ Ψ b st1) : WT K T (tTest te) ss st Ψ := fun α F H σ r s Q k =>
  h α F H σ r s _ fun α1 F1 H1 v x st1 n1 r1 v1 ⟨b, e, q⟩ => by
    subst e
    obtain rfl := dp_bl v1
    exact ⟨b, rfl, k α1 F1 H1 b st1 n1 r1 q⟩
theorem wt_B (h : WE K T te ss st fun x st1 => ∃ b, x = .pd (.bool b) ∧ Ψ b st1) : WT K T (tB te) ss st Ψ := fun α F H σ r s Q k =>
  h α F H σ r s _ fun α1 F1 H1 v x st1 n1 r1 v1 ⟨b, e, q⟩ => by
    subst e
    obtain rfl := dp_bl v1
    exact ⟨b, rfl, k α1 F1 H1 b st1 n1 r1 q⟩
theorem wt_and (h : WT K T tt ss st fun b st1 => (b = true → WT K T tu ss st1 Ψ) ∧ (b = false → Ψ false st1)) : WT K T (tAnd tt tu) ss st Ψ := fun α F H σ r s Q k =>
  h α F H σ r s _ fun α1 F1 H1 b st1 n1 r1 ⟨ht, hf⟩ => by
    cases b with
    | true =>
      rw [if_pos rfl]
      exact ht rfl α1 F1 H1 σ r1 (s.mono n1) Q fun α2 F2 H2 c st2 n2 => k α2 F2 H2 c st2 (n1.trans n2)
    | false =>
      rw [if_neg Bool.false_ne_true]
      exact k α1 F1 H1 false st1 n1 r1 (hf rfl)
theorem wt_or (h : WT K T tt ss st fun b st1 => (b = true → Ψ true st1) ∧ (b = false → WT K T tu ss st1 Ψ)) : WT K T (tOr tt tu) ss st Ψ := fun α F H σ r s Q k =>
  h α F H σ r s _ fun α1 F1 H1 b st1 n1 r1 ⟨ht, hf⟩ => by
    cases b with
    | true =>
      rw [if_pos rfl]
      exact k α1 F1 H1 true st1 n1 r1 (ht rfl)
    | false =>
      rw [if_neg Bool.false_ne_true]
      exact hf rfl α1 F1 H1 σ r1 (s.mono n1) Q fun α2 F2 H2 c st2 n2 => k α2 F2 H2 c st2 (n1.trans n2)
theorem wt_not (h : WT K T tt ss st fun b st1 => Ψ (!b) st1) : WT K T (tNot tt) ss st Ψ := fun α F H σ r s Q k =>
  h α F H σ r s _ fun α1 F1 H1 b st1 n1 r1 q => k α1 F1 H1 (!b) st1 n1 r1 q
theorem wt_yes (q : Ψ true st) : WT K T tYes ss st Ψ := fun α F H σ r s Q k => k α F H true st Nx.refl r q

/-! ### targets -/
variable {X : SS → Sto → Prop}
theorem wg_name {i : Nat} {x : Val} (q : X (ss.set i (some x)) st) : WG K T (gName i) x ss st X := fun α F H σ v r s hv Q k => k α F H (σ.set i (some v)) (ss.set i (some x)) st Nx.refl r (s.set i hv) q
theorem wgs_nil (q : X ss st) : WGs K T gNil [] ss st X := fun α F H σ vs r s hv Q k => by
  cases hv
  exact ⟨rfl, k α F H σ ss st Nx.refl r s q⟩
theorem wgs_cons {g : TG} {gs : TGs} {x : Val} {xs : List Val} (h : WG K T g x ss st fun ss1 st1 => WGs K T gs xs ss1 st1 X) : WGs K T (gCons g gs) (x :: xs) ss st X := fun α F H σ vs r s hv Q k => by
  cases hv with
  | cons h1 h2 =>
    exact ⟨_, _, rfl, h α F H σ _ r s h1 _ fun α1 F1 H1 σ1 ss1 st1 n1 r1 s1 q1 => q1 α1 F1 H1 σ1 _ r1 s1 (h2.mono n1) Q fun α2 F2 H2 σ2 ss2 st2 n2 => k α2 F2 H2 σ2 ss2 st2 (n1.trans n2)⟩
theorem vrs_of {α : Nat → Addr} {F : Hp} {L : Nat} : ∀ {vs : List V} {ds : List PyData}, DpAll K F vs ds → VRs K α F L (ds.map Val.pd) vs
  | _, _, .nil => .nil
  | _, _, .cons h t => .cons h (vrs_of t)
theorem wg_tup {n : Nat} {gs : TGs} {ds : List PyData} (hn : ds.length = n) (h : WGs K T gs (ds.map Val.pd) ss st X) : WG K T (gTup K n gs) (.pd (.tuple ds)) ss st X := fun α F H σ v r s hv Q k => by
  obtain ⟨a, vs, rfl, h1, h2⟩ := dp_tup hv
  exact ⟨a, vs, rfl, seqT r.sub h1, (dps_len h2).trans hn, h α F H σ vs r s (vrs_of h2) Q k⟩
theorem wg_unl {n : Nat} {gs : TGs} {ds : List PyData} (hn : ds.length = n) (h : WGs K T gs (ds.map Val.pd) ss st X) : WG K T (gUnl K n gs) (.pd (.list ds)) ss st X := fun α F H σ v r s hv Q k => by
  obtain ⟨a, vs, rfl, h1, h2⟩ := dp_lst hv
  exact ⟨a, vs, rfl, r.sub.seq h1, (dps_len h2).trans hn, h α F H σ vs r s (vrs_of h2) Q k⟩
theorem wg_sub {to ti : TE} {t : TSet} {x : Val} (h : WE K T to ss st fun o st1 => WE K T ti ss st1 fun i st2 => WX K T t o i x st2 fun st3 => X ss st3) : WG K T (gSub to ti t) x ss st X := fun α F H σ v r s hv Q k =>
  h α F H σ r s _ fun α1 F1 H1 vo o st1 n1 r1 v1 h1 => h1 α1 F1 H1 σ r1 (s.mono n1) _ fun α2 F2 H2 vi i st2 n2 r2 v2 h2 => h2 α2 F2 H2 vo vi v r2 (v1.mono n2) v2 (hv.mono (n1.trans n2)) _ fun α3 F3 H3 st3 n3 r3 q => k α3 F3 H3 σ ss st3 (n1.trans (n2.trans n3)) r3 (s.mono (n1.trans (n2.trans n3))) q
theorem ixN_len {n : Nat} {k : Int} {j : Nat} (h : ixN n k = some j) : j < n := by
  unfold ixN at h
  split at h
  · split at h
    · cases h
      omega
    · cases h
  · split at h
    · cases h
      omega
    · cases h
theorem wx_list {n : Nat} {xs : List PyData} {i : Int} {j : Nat} {d : PyData} {Y : Sto → Prop} (h : st[n]? = some (.mu xs)) (hj : ixN xs.length i = some j) (q : Y (st.set n (.mu (xs.set j d)))) : WX K T rSetL (.cell n) (.pd (.int i)) (.pd d) st Y := fun α F H vo vi vx r ho hi hx Q k => by
  obtain ⟨_, rfl⟩ := ho
  obtain rfl := dp_int hi
  obtain ⟨_, vs, e1, d1⟩ := r.mu n xs h
  exact ⟨_, vs, i, j, rfl, rfl, e1, by rw [dps_len d1]; exact hj, k α F _ _ (by rw [List.length_set]; exact Nx.refl) (r.write h (dps_set j d1 hx)) q⟩

/-! ### calls -/
theorem we_cb {r : List V → Hp → VK → Prop} {t : TA} (h : WA K T t ss st fun xs st1 => WC K T r xs st1 Φ) : WE K T (tCB r t) ss st Φ := fun α F H σ rl s Q k =>
  h α F H σ rl s _ fun α1 F1 H1 vs xs st1 n1 r1 v1 h1 => h1 α1 F1 H1 vs r1 v1 Q fun α2 F2 H2 v z st2 n2 => k α2 F2 H2 v z st2 (n1.trans n2)
theorem vrs1 {α : Nat → Addr} {F : Hp} {L : Nat} {x : Val} {vs : List V} (h : VRs K α F L [x] vs) : ∃ v, vs = [v] ∧ VR K α F L x v := by
  cases h with
  | cons h t =>
    cases t
    exact ⟨_, rfl, h⟩
theorem vrs2 {α : Nat → Addr} {F : Hp} {L : Nat} {x y : Val} {vs : List V} (h : VRs K α F L [x, y] vs) : ∃ v w, vs = [v, w] ∧ VR K α F L x v ∧ VR K α F L y w := by
  cases h with
  | cons h t =>
    obtain ⟨w, rfl, h2⟩ := vrs1 t
    exact ⟨_, w, rfl, h, h2⟩
theorem wc_abs {i : Int} (q : Φ (.pd (.int (if i < 0 then -i else i))) st) : WC K T (fun xs H Q => ∃ i, xs = [.int i] ∧ Q (.int (if i < 0 then -i else i)) H) [.pd (.int i)] st Φ := fun α F H vs r hv Q k => by
  obtain ⟨v, rfl, h⟩ := vrs1 hv
  obtain rfl := dp_int h
  exact ⟨i, rfl, k α F H _ (.pd _) st Nx.refl r (Dp.int _) q⟩
theorem wc_int {i : Int} (q : Φ (.pd (.int i)) st) : WC K T (fun xs H Q => (∃ i, xs = [.int i] ∧ Q (.int i) H) ∨ ∃ k, xs = [.bl k] ∧ Q (.int (if k then 1 else 0)) H) [.pd (.int i)] st Φ := fun α F H vs r hv Q k => by
  obtain ⟨v, rfl, h⟩ := vrs1 hv
  obtain rfl := dp_int h
  exact .inl ⟨i, rfl, k α F H _ (.pd _) st Nx.refl r (Dp.int _) q⟩
theorem wc_max2 {i j : Int} (q : Φ (.pd (.int (if j > i then j else i))) st) : WC K T (fun xs H Q => ∃ i j, xs = [.int i, .int j] ∧ Q (.int (if j > i then j else i)) H) [.pd (.int i), .pd (.int j)] st Φ := fun α F H vs r hv Q k => by
  obtain ⟨v, w, rfl, h1, h2⟩ := vrs2 hv
  obtain rfl := dp_int h1
  obtain rfl := dp_int h2
  exact ⟨i, j, rfl, k α F H _ (.pd _) st Nx.refl r (Dp.int _) q⟩
theorem wc_min2 {i j : Int} (q : Φ (.pd (.int (if j < i then j else i))) st) : WC K T (fun xs H Q => ∃ i j, xs = [.int i, .int j] ∧ Q (.int (if j < i then j else i)) H) [.pd (.int i), .pd (.int j)] st Φ := fun α F H vs r hv Q k => by
  obtain ⟨v, w, rfl, h1, h2⟩ := vrs2 hv
  obtain rfl := dp_int h1
  obtain rfl := dp_int h2
  exact ⟨i, j, rfl, k α F H _ (.pd _) st Nx.refl r (Dp.int _) q⟩
theorem wc_len {x : Val} {ds : List PyData} (h : look x st = some (.list ds)) (q : Φ (.pd (.int (ds.length : Int))) st) : WC K T (fun xs H Q => ∃ p ys, xs = [.ref p] ∧ (SqL K H p ys ∨ SqT K H p ys) ∧ Q (.int ys.length) H) [x] st Φ := fun α F H vs r hv Q k => by
  obtain ⟨v, rfl, h1⟩ := vrs1 hv
  obtain ⟨a, ys, rfl, h2, h3⟩ := look_lst r h1 h
  refine ⟨a, ys, rfl, .inl h2, ?_⟩
  rw [dps_len h3]
  exact k α F H _ (.pd _) st Nx.refl r (Dp.int _) q
/-- list(x), to be written or added -/
theorem wc_listC {x : Val} {ds : List PyData} (h : look x st = some (.list ds)) (q : Φ (.cell st.length) (st ++ [.mu ds])) : WC K T (fun xs H Q => ∃ p ys, xs = [.ref p] ∧ (SqL K H p ys ∨ SqT K H p ys) ∧ ∀ l, H l = none → Q (.ref l) (upd H l (.lst ys))) [x] st Φ := fun α F H vs r hv Q k => by
  obtain ⟨v, rfl, h1⟩ := vrs1 hv
  obtain ⟨a, ys, rfl, h2, h3⟩ := look_lst r h1 h
  refine ⟨a, ys, rfl, .inl h2, fun p hp => ?_⟩
  have hlen : (st ++ [Cell.mu ds]).length = st.length + 1 := by simp
  refine k (ext α st.length p) F _ (.ref p) (.cell st.length) (st ++ [.mu ds]) (by rw [hlen]; exact Nx.ext) (r.cell hp h3) ?_ q
  exact ⟨by rw [hlen]; exact Nat.lt_succ_self _, by rw [ext_same]⟩
theorem wc_sum {x : Val} {ns : List Int} (h : look x st = some (.list (ns.map PyData.int))) (q : Φ (.pd (.int ns.sum)) st) : WC K T (rSum K) [x] st Φ := fun α F H vs r hv Q k => by
  obtain ⟨v, rfl, h1⟩ := vrs1 hv
  obtain ⟨a, ys, rfl, h2, h3⟩ := look_lst r h1 h
  obtain rfl := dps_ints h3
  exact ⟨a, ns, rfl, h2, k α F H _ (.pd _) st Nx.refl r (Dp.int _) q⟩
theorem wc_min {x : Val} {ns : List Int} (h : look x st = some (.list (ns.map PyData.int))) (h0 : 0 < ns.length) (q : ∀ m, m ∈ ns → (∀ y, y ∈ ns → m ≤ y) → Φ (.pd (.int m)) st) : WC K T (rMin K) [x] st Φ := fun α F H vs r hv Q k => by
  obtain ⟨v, rfl, h1⟩ := vrs1 hv
  obtain ⟨a, ys, rfl, h2, h3⟩ := look_lst r h1 h
  obtain rfl := dps_ints h3
  exact ⟨a, ns, rfl, h2, h0, fun m hm hle => k α F H _ (.pd _) st Nx.refl r (Dp.int _) (q m hm hle)⟩

/-! ### statements -/
theorem ws_next (q : P.nx ss st) : WS K T tNext ss st P := fun α F H σ r s D o => o.nx α F H σ ss st Nx.refl r s q
theorem ws_seq {t u : TS} (h : WS K T t ss st { P with nx := fun ss1 st1 => WS K T u ss1 st1 P }) : WS K T (tSeq t u) ss st P := fun α F H σ r s D o =>
  h α F H σ r s { D with nx := u D } ⟨fun α1 F1 H1 σ1 ss1 st1 n1 r1 s1 q1 => q1 α1 F1 H1 σ1 r1 s1 D (o.mono n1), o.rt, o.bk, o.ct⟩
theorem ws_brk (q : P.bk ss st) : WS K T tBreak ss st P := fun α F H σ r s D o => o.bk α F H σ ss st Nx.refl r s q
theorem ws_cont (q : P.ct ss st) : WS K T tCont ss st P := fun α F H σ r s D o => o.ct α F H σ ss st Nx.refl r s q
theorem ws_ret (h : WE K T te ss st P.rt) : WS K T (tRet te) ss st P := fun α F H σ r s D o => h α F H σ r s _ fun α1 F1 H1 v x st1 n1 r1 v1 q => o.rt α1 F1 H1 v x st1 n1 r1 v1 q
theorem ws_retN (q : P.rt (.pd .none) st) : WS K T tRetN ss st P := fun α F H σ r s D o => o.rt α F H .non (.pd _) st Nx.refl r Dp.non q
theorem ws_asg {g : TG} (h : WE K T te ss st fun x st1 => WG K T g x ss st1 P.nx) : WS K T (tAsg te g) ss st P := fun α F H σ r s D o =>
  h α F H σ r s _ fun α1 F1 H1 v x st1 n1 r1 v1 q => q α1 F1 H1 σ v r1 (s.mono n1) v1 _ fun α2 F2 H2 σ2 ss2 st2 n2 => o.nx α2 F2 H2 σ2 ss2 st2 (n1.trans n2)
theorem ws_drop (h : WE K T te ss st fun _ st1 => P.nx ss st1) : WS K T (tDrop te) ss st P := fun α F H σ r s D o =>
  h α F H σ r s _ fun α1 F1 H1 v x st1 n1 r1 v1 q => o.nx α1 F1 H1 σ ss st1 n1 r1 (s.mono n1) q
theorem ws_if {t u : TS} (h : WT K T tt ss st fun b st1 => (b = true → WS K T t ss st1 P) ∧ (b = false → WS K T u ss st1 P)) : WS K T (tIfS tt t u) ss st P := fun α F H σ r s D o =>
  h α F H σ r s _ fun α1 F1 H1 b st1 n1 r1 ⟨ht, hf⟩ => by
    cases b with
    | true =>
      rw [if_pos rfl]
      exact ht rfl α1 F1 H1 σ r1 (s.mono n1) D (o.mono n1)
    | false =>
      rw [if_neg Bool.false_ne_true]
      exact hf rfl α1 F1 H1 σ r1 (s.mono n1) D (o.mono n1)
theorem ws_aug {i : Nat} {f : Int → Int → Int} {a : Int} (hx : ss[i]? = some (some (.pd (.int a)))) (h : WE K T te ss st fun y st1 => ∃ b, y = .pd (.int b) ∧ P.nx (ss.set i (some (.pd (.int (f a b))))) st1) : WS K T (tAug i te (ipI f)) ss st P := fun α F H σ r s D o => by
  obtain ⟨v, e, hv⟩ := s.at_ i _ hx
  obtain rfl := dp_int hv
  refine ⟨.int a, e, h α F H σ r s _ fun α1 F1 H1 v x st1 n1 r1 v1 ⟨b, eb, q⟩ => ?_⟩
  subst eb
  obtain rfl := dp_int v1
  exact ⟨a, b, rfl, rfl, o.nx α1 F1 H1 _ _ st1 n1 r1 ((s.mono n1).set i (x := .pd (.int (f a b))) (Dp.int _)) q⟩
theorem ws_augS {to ti : TE} {tg : V → V → Hp → VK → Prop} {tip : TIp} {ts : TSet} (h : WE K T to ss st fun o st1 => WE K T ti ss st1 fun i st2 => WR K T tg o i st2 fun x st3 => WE K T te ss st3 fun y st4 => WR K T tip x y st4 fun z st5 => WX K T ts o i z st5 fun st6 => P.nx ss st6) :
    WS K T (tAugS to ti te tg tip ts) ss st P := fun α F H σ r s D o =>
  h α F H σ r s _ fun α1 F1 H1 vo xo st1 n1 r1 v1 h1 => h1 α1 F1 H1 σ r1 (s.mono n1) _ fun α2 F2 H2 vi xi st2 n2 r2 v2 h2 => h2 α2 F2 H2 vo vi r2 (v1.mono n2) v2 _ fun α3 F3 H3 vx x st3 n3 r3 v3 h3 =>
    h3 α3 F3 H3 σ r3 (s.mono (n1.trans (n2.trans n3))) _ fun α4 F4 H4 vy y st4 n4 r4 v4 h4 => h4 α4 F4 H4 vx vy r4 (v3.mono n4) v4 _ fun α5 F5 H5 vz z st5 n5 r5 v5 h5 =>
      h5 α5 F5 H5 vo vi vz r5 (v1.mono (n2.trans (n3.trans (n4.trans n5)))) (v2.mono (n3.trans (n4.trans n5))) v5 _ fun α6 F6 H6 st6 n6 r6 q =>
        let n := n1.trans (n2.trans (n3.trans (n4.trans (n5.trans n6))))
        o.nx α6 F6 H6 σ ss st6 n r6 (s.mono n) q
/-- xs.append(e) -/
theorem ws_app (h : WE K T ta ss st fun o st1 => ∃ n ys, o = .cell n ∧ st1[n]? = some (.mu ys) ∧ WE K T te ss st1 fun x st2 => ∃ d st3 xs, pur x st2 = some (d, st3) ∧ st3[n]? = some (.mu xs) ∧ xs.length < sizeLine ∧ P.nx ss (st3.set n (.mu (xs ++ [d])))) :
    WS K T (tDrop (tBM K "list" rAppend ta (tCons te tNil))) ss st P := fun α F H σ r s D o =>
  h α F H σ r s _ fun α1 F1 H1 vo xo st1 n1 r1 v1 ⟨n, ys, eo, ey, h1⟩ => by
    subst eo
    obtain ⟨hn, rfl⟩ := v1
    obtain ⟨_, us, eu, du⟩ := r1.mu n ys ey
    refine ⟨.inl ⟨rfl, us, .inl (.inl eu)⟩, h1 α1 F1 H1 σ r1 (s.mono n1) _ fun α2 F2 H2 v x st2 n2 r2 v2 ⟨d, st3, xs, ep, en, hl, q⟩ => ?_⟩
    obtain ⟨F3, r3, n3, d3⟩ := pur_ok r2 v2 ep
    obtain ⟨_, vs, e1, d1⟩ := r3.mu n xs en
    rw [n2.ag n hn] at e1
    have hr := r3.write en (dps_app d1 (.cons d3 .nil))
    rw [n2.ag n hn] at hr
    have nn := n1.trans (n2.trans n3)
    exact ⟨_, vs, v, rfl, rfl, e1, by rw [dps_len d1]; exact hl, o.nx α2 F3 _ σ ss _ (by rw [List.length_set]; exact nn) hr (by rw [List.length_set]; exact s.mono nn) q⟩
end
end Ct

/-! CtC: loops, comprehensions, calls of defs, a def's body; list + list of any lists; xs[i] op= e. -/
namespace Ct
open PySem L2

/-! ### two rules of the layer's kind -/
def rCatS (K : PySem.W.Frag) : R2 := fun x y H Q => ∃ l b xs zs, x = .ref l ∧ y = .ref b ∧ SqL K H l xs ∧ SqL K H b zs ∧ xs.length + zs.length ≤ sizeLine ∧ ∀ p, H p = none → Q (.ref p) (upd H p (.lst (xs ++ zs)))
section
open PyProof.Rows
variable {X : Cx}
theorem op_catS : OpR X (binaryOp .Add) (rCatS X.K) := by
  intro pins s σ H x y v u Q I rx ry h
  obtain ⟨l, b, xs, zs, rfl, rfl, hH, hB, hz, q⟩ := h
  cases rx
  cases ry
  obtain ⟨its, r, pl, _⟩ := I.list hH
  obtain ⟨its2, r2, pl2, _⟩ := I.list hB
  have hl := r.length
  have hl2 := r2.length
  obtain ⟨⟨cls, dd, data, sl⟩, ho, hc, n, hd⟩ := pl.isList
  obtain ⟨⟨cls2, dd2, data2, sl2⟩, ho2, hc2, n2, hd2⟩ := pl2.isList
  simp only at hc hd hc2 hd2
  subst hc hd hc2 hd2
  have e : its.toArray ++ its2.toArray = (its ++ its2).toArray := by simp
  refine concat_meets ⟨_, ho, rfl⟩ ⟨_, ho2, rfl⟩ noFill_list_add seq_list_add PySem.F.slot_list_add PySem.F.entry_list_add (PySem.F.args_list_add_2 _ _) (list_addW l b its.toArray its2.toArray n n2 dd dd2 sl sl2 (by simp; omega)) ⟨ho, ho2, ?_⟩
  rw [e]
  exact ⟨.ref _, _, I.lnew (t' := s.toks) (r.append r2) (by rw [List.length_append]; omega), rfl, q _ I.fresh⟩
theorem get_list : PGet X (rIxL X.K) := by
  intro pins s σ H x y v u Q I rx ry h
  obtain ⟨p, xs, i, z, rfl, rfl, hq, he, q⟩ := h
  cases rx
  obtain ⟨t, rfl⟩ := ry
  obtain ⟨its, r, pl, hz⟩ := I.list hq
  obtain ⟨j, h1, h2, h3, h4, h5⟩ := atI_get he
  obtain ⟨w, ew, rw'⟩ := r.get h2
  have hl := r.length
  have hn := line63
  have fin : EP X pins σ Q w s := ⟨z, H, I, rw', q⟩
  by_cases h0 : 0 ≤ i
  · have hj : i.toNat = j := by
      rw [seqIndex_of h0 h5] at h1
      exact Option.some.inj h1
    exact wpAny_getItem_list pl.isList h0 (by omega) (by rw [hj]; simpa using ew) fin
  · have hj : (i + (its.toArray.size : Int)).toNat = j := by
      rw [seqIndex_neg (by omega) h4] at h1
      rw [List.size_toArray, ← hl]
      exact Option.some.inj h1
    exact wpAny_getItem_list_neg pl.isList (by omega) (by rw [List.size_toArray]; omega) (by omega) (by rw [hj]; simpa using ew) fin
end

section
variable {K : PySem.W.Frag} {T : List (Addr × Str)} {ss : SS} {st : Sto} {Φ : Val → Sto → Prop} {te ta tb tc tl : TE} {tt tu : TT} {P : Po} {g : TG} {bd : TS}

theorem wr_catS {x y : Val} {xs ys : List PyData} (hn : look x st = some (.list xs)) (hm : look y st = some (.list ys)) (hl : xs.length + ys.length ≤ sizeLine) (q : Φ (.pd (.list (xs ++ ys))) st) : WR K T (rCatS K) x y st Φ := fun α F H vx vy r hx hy Q k => by
  obtain ⟨a, vs, rfl, e1, d1⟩ := look_lst r hx hn
  obtain ⟨b, ws, rfl, e2, d2⟩ := look_lst r hy hm
  refine ⟨_, _, vs, ws, rfl, rfl, e1, e2, by rw [dps_len d1, dps_len d2]; exact hl, fun p hp => ?_⟩
  have hF := none_of r hp
  exact k α (upd F p (.lst (vs ++ ws))) _ (.ref p) (.pd _) st (Nx.new hF) (r.new hp fun ps z => by cases z) (Dp.lst (.inl (.inl upd_same)) (dpsm (same_upd hF) (dps_app d1 d2))) q
theorem wr_ip {f : Int → Int → Int} {i j : Int} (q : Φ (.pd (.int (f i j))) st) : WR K T (ipI f) (.pd (.int i)) (.pd (.int j)) st Φ := fun α F H vx vy r hx hy Q k => by
  obtain rfl := dp_int hx
  obtain rfl := dp_int hy
  exact ⟨i, j, rfl, rfl, k α F H _ (.pd _) st Nx.refl r (Dp.int _) q⟩

/-! ### for -/
abbrev inTurn (P : Po) (N : SS → Sto → Prop) : Po := { nx := N, rt := P.rt, bk := P.nx, ct := N }
theorem ws_forL (h : WE K T tl ss st fun x st1 => ∃ xs, x = .pd (.list xs) ∧ ∃ I : Nat → SS → Sto → Prop, I 0 ss st1 ∧
      (∀ (i : Nat) (d : PyData) (ss' : SS) (st' : Sto), xs[i]? = some d → I i ss' st' → WG K T g (.pd d) ss' st' fun ss2 st2 => WS K T bd ss2 st2 (inTurn P (I (i + 1)))) ∧ ∀ (ss' : SS) (st' : Sto), I xs.length ss' st' → P.nx ss' st') :
    WS K T (tFor (iList K tl) g bd) ss st P := fun α F H σ r s D o => h α F H σ r s _ fun α1 F1 H1 v x st1 n1 r1 v1 ⟨xs, e, I, i0, hs, hd⟩ => by
  subst e
  obtain ⟨a, vs, rfl, h1, h2⟩ := dp_lst v1
  have o1 := o.mono n1
  refine ⟨a, rfl, ⟨vs, r1.sub.seq h1⟩, for_list (xs := vs) (fun i σ' H' => ∃ α' F' ss' st', Nx α1 F1 st1.length α' F' (List.length st') ∧ Rel K T α' F' H' st' ∧ SR K α' F' st'.length ss' σ' ∧ I i ss' st')
    ⟨α1, F1, ss, st1, Nx.refl, r1, s.mono n1, i0⟩ (fun i σ' H' _ ⟨α', F', ss', st', n', r', _, _⟩ => r'.sub.seq (n'.sub.seq h1)) (fun i y σ' H' hy ⟨α', F', ss', st', n', r', s', hi⟩ => ?_)
    (fun σ' H' ⟨α', F', ss', st', n', r', s', hi⟩ => o1.nx α' F' H' σ' ss' st' n' r' s' (hd ss' st' (by rw [← dps_len h2]; exact hi)))⟩
  obtain ⟨d, hd1, dd⟩ := dps_getV h2 hy
  exact hs i d ss' st' hd1 hi α' F' H' σ' y r' s' (dpm n'.sub dd) _ fun α2 F2 H2 σ2 ss2 st2 n2 r2 s2 q => q α2 F2 H2 σ2 r2 s2 _
    ⟨fun α3 F3 H3 σ3 ss3 st3 n3 r3 s3 q3 => ⟨α3, F3, ss3, st3, n'.trans (n2.trans n3), r3, s3, q3⟩, fun α3 F3 H3 v3 x3 st3 n3 => o1.rt α3 F3 H3 v3 x3 st3 (n'.trans (n2.trans n3)),
      fun α3 F3 H3 σ3 ss3 st3 n3 => o1.nx α3 F3 H3 σ3 ss3 st3 (n'.trans (n2.trans n3)), fun α3 F3 H3 σ3 ss3 st3 n3 r3 s3 q3 => ⟨α3, F3, ss3, st3, n'.trans (n2.trans n3), r3, s3, q3⟩⟩
theorem ws_forT (h : WE K T tl ss st fun x st1 => ∃ xs, x = .pd (.tuple xs) ∧ ∃ I : Nat → SS → Sto → Prop, I 0 ss st1 ∧
      (∀ (i : Nat) (d : PyData) (ss' : SS) (st' : Sto), xs[i]? = some d → I i ss' st' → WG K T g (.pd d) ss' st' fun ss2 st2 => WS K T bd ss2 st2 (inTurn P (I (i + 1)))) ∧ ∀ (ss' : SS) (st' : Sto), I xs.length ss' st' → P.nx ss' st') :
    WS K T (tFor (iTup K tl) g bd) ss st P := fun α F H σ r s D o => h α F H σ r s _ fun α1 F1 H1 v x st1 n1 r1 v1 ⟨xs, e, I, i0, hs, hd⟩ => by
  subst e
  obtain ⟨a, vs, rfl, h1, h2⟩ := dp_tup v1
  have o1 := o.mono n1
  refine ⟨a, rfl, ⟨vs, seqT r1.sub h1⟩, for_tup (xs := vs) (fun i σ' H' => ∃ α' F' ss' st', Nx α1 F1 st1.length α' F' (List.length st') ∧ Rel K T α' F' H' st' ∧ SR K α' F' st'.length ss' σ' ∧ I i ss' st')
    ⟨α1, F1, ss, st1, Nx.refl, r1, s.mono n1, i0⟩ (fun i σ' H' _ ⟨α', F', ss', st', n', r', _, _⟩ => seqT r'.sub (seqT n'.sub h1)) (fun i y σ' H' hy ⟨α', F', ss', st', n', r', s', hi⟩ => ?_)
    (fun σ' H' ⟨α', F', ss', st', n', r', s', hi⟩ => o1.nx α' F' H' σ' ss' st' n' r' s' (hd ss' st' (by rw [← dps_len h2]; exact hi)))⟩
  obtain ⟨d, hd1, dd⟩ := dps_getV h2 hy
  exact hs i d ss' st' hd1 hi α' F' H' σ' y r' s' (dpm n'.sub dd) _ fun α2 F2 H2 σ2 ss2 st2 n2 r2 s2 q => q α2 F2 H2 σ2 r2 s2 _
    ⟨fun α3 F3 H3 σ3 ss3 st3 n3 r3 s3 q3 => ⟨α3, F3, ss3, st3, n'.trans (n2.trans n3), r3, s3, q3⟩, fun α3 F3 H3 v3 x3 st3 n3 => o1.rt α3 F3 H3 v3 x3 st3 (n'.trans (n2.trans n3)),
      fun α3 F3 H3 σ3 ss3 st3 n3 => o1.nx α3 F3 H3 σ3 ss3 st3 (n'.trans (n2.trans n3)), fun α3 F3 H3 σ3 ss3 st3 n3 r3 s3 q3 => ⟨α3, F3, ss3, st3, n'.trans (n2.trans n3), r3, s3, q3⟩⟩
/-- over lo, lo + 1, .. -/
theorem for_rng {lo : Int} {n : Nat} {α1 : Nat → Addr} {F1 H1 : Hp} {st1 : Sto} {σ1 : L2.St} {D : Ends} (r1 : Rel K T α1 F1 H1 st1) (s1 : SR K α1 F1 st1.length ss σ1) (o1 : Ok K T α1 F1 st1.length P D) (I : Nat → SS → Sto → Prop) (i0 : I 0 ss st1)
    (hs : ∀ (i : Nat) (ss' : SS) (st' : Sto), i < n → I i ss' st' → WG K T g (.pd (.int (lo + i))) ss' st' fun ss2 st2 => WS K T bd ss2 st2 (inTurn P (I (i + 1)))) (hd : ∀ (ss' : SS) (st' : Sto), I n ss' st' → P.nx ss' st') :
    ∃ W : Nat → Nat → L2.St → Hp → Prop, (∃ m, W 0 m σ1 H1) ∧ ∀ i m σ H, W i m σ H →
      ((Itr lo n).stop i H ∧ D.nx σ H) ∨ ((Itr lo n).go i H ∧ ∃ N : L2.St → Hp → Prop, (∀ σ' H', N σ' H' → ∃ m', m' < m ∧ W (i + 1) m' σ' H') ∧ ∀ x H', (Itr lo n).yld i H x H' → g x σ H' fun σ2 H2 => bd { D with nx := N, ct := N, bk := D.nx } σ2 H2) :=
  for_range (lo := lo) (n := n) (fun i σ' H' => ∃ α' F' ss' st', Nx α1 F1 st1.length α' F' (List.length st') ∧ Rel K T α' F' H' st' ∧ SR K α' F' st'.length ss' σ' ∧ I i ss' st')
    ⟨α1, F1, ss, st1, Nx.refl, r1, s1, i0⟩ (fun i σ' H' hi ⟨α', F', ss', st', n', r', s', hI⟩ =>
      hs i ss' st' hi hI α' F' H' σ' (.int (lo + i)) r' s' (Dp.int _) _ fun α2 F2 H2 σ2 ss2 st2 n2 r2 s2 q => q α2 F2 H2 σ2 r2 s2 _
        ⟨fun α3 F3 H3 σ3 ss3 st3 n3 r3 s3 q3 => ⟨α3, F3, ss3, st3, n'.trans (n2.trans n3), r3, s3, q3⟩, fun α3 F3 H3 v3 x3 st3 n3 => o1.rt α3 F3 H3 v3 x3 st3 (n'.trans (n2.trans n3)),
          fun α3 F3 H3 σ3 ss3 st3 n3 => o1.nx α3 F3 H3 σ3 ss3 st3 (n'.trans (n2.trans n3)), fun α3 F3 H3 σ3 ss3 st3 n3 r3 s3 q3 => ⟨α3, F3, ss3, st3, n'.trans (n2.trans n3), r3, s3, q3⟩⟩)
    (fun σ' H' ⟨α', F', ss', st', n', r', s', hi⟩ => o1.nx α' F' H' σ' ss' st' n' r' s' (hd ss' st' hi))
theorem ws_forR1 {t : TA} (h : WA K T t ss st fun xs st1 => ∃ n, xs = [.pd (.int n)] ∧ -(2 ^ 62) ≤ n ∧ n < 2 ^ 62 ∧ ∃ I : Nat → SS → Sto → Prop, I 0 ss st1 ∧
      (∀ (i : Nat) (ss' : SS) (st' : Sto), i < n.toNat → I i ss' st' → WG K T g (.pd (.int (0 + (i : Int)))) ss' st' fun ss2 st2 => WS K T bd ss2 st2 (inTurn P (I (i + 1)))) ∧ ∀ (ss' : SS) (st' : Sto), I n.toNat ss' st' → P.nx ss' st') :
    WS K T (tFor (iRng1 t) g bd) ss st P := fun α F H σ r s D o => h α F H σ r s _ fun α1 F1 H1 vs xs st1 n1 r1 v1 ⟨n, e, b1, b2, I, i0, hs, hd⟩ => by
  subst e
  obtain ⟨v, rfl, hv⟩ := vrs1 v1
  obtain rfl := dp_int hv
  exact ⟨n, rfl, b1, b2, for_rng r1 (s.mono n1) (o.mono n1) I i0 hs hd⟩
theorem ws_forR2 {t : TA} (h : WA K T t ss st fun xs st1 => ∃ lo n, xs = [.pd (.int lo), .pd (.int n)] ∧ (-(2 ^ 62) ≤ lo ∧ lo < 2 ^ 62 ∧ -(2 ^ 62) ≤ n ∧ n < 2 ^ 62) ∧ ∃ I : Nat → SS → Sto → Prop, I 0 ss st1 ∧
      (∀ (i : Nat) (ss' : SS) (st' : Sto), i < (n - lo).toNat → I i ss' st' → WG K T g (.pd (.int (lo + (i : Int)))) ss' st' fun ss2 st2 => WS K T bd ss2 st2 (inTurn P (I (i + 1)))) ∧ ∀ (ss' : SS) (st' : Sto), I (n - lo).toNat ss' st' → P.nx ss' st') :
    WS K T (tFor (iRng2 t) g bd) ss st P := fun α F H σ r s D o => h α F H σ r s _ fun α1 F1 H1 vs xs st1 n1 r1 v1 ⟨lo, n, e, b, I, i0, hs, hd⟩ => by
  subst e
  obtain ⟨v, w, rfl, hv, hw⟩ := vrs2 v1
  obtain rfl := dp_int hv
  obtain rfl := dp_int hw
  exact ⟨lo, n, rfl, b, for_rng r1 (s.mono n1) (o.mono n1) I i0 hs hd⟩
/-- enumerate -/
theorem ws_forE {t : TA} (h : WA K T t ss st fun ys st1 => ∃ xs, ys = [.pd (.list xs)] ∧ ∃ I : Nat → SS → Sto → Prop, I 0 ss st1 ∧
      (∀ (i : Nat) (d : PyData) (ss' : SS) (st' : Sto), xs[i]? = some d → I i ss' st' → WG K T g (.pd (.tuple [.int (i : Int), d])) ss' st' fun ss2 st2 => WS K T bd ss2 st2 (inTurn P (I (i + 1)))) ∧ ∀ (ss' : SS) (st' : Sto), I xs.length ss' st' → P.nx ss' st') :
    WS K T (tFor (iEnum K t) g bd) ss st P := fun α F H σ r s D o => h α F H σ r s _ fun α1 F1 H1 vs ys st1 n1 r1 v1 ⟨xs, e, I, i0, hs, hd⟩ => by
  subst e
  obtain ⟨v, rfl, hv⟩ := vrs1 v1
  obtain ⟨a, ws, rfl, h1, h2⟩ := dp_lst hv
  have o1 := o.mono n1
  refine ⟨a, ws, rfl, r1.sub.seq h1, fun i m σ' H' => m = ws.length - i ∧ i ≤ ws.length ∧ ∃ α' F' ss' st', Nx α1 F1 st1.length α' F' (List.length st') ∧ Rel K T α' F' H' st' ∧ SR K α' F' st'.length ss' σ' ∧ I i ss' st',
    ⟨ws.length, by simp, Nat.zero_le _, α1, F1, ss, st1, Nx.refl, r1, s.mono n1, i0⟩, ?_⟩
  rintro i m σ' H' ⟨rfl, hi, α', F', ss', st', n', r', s', hI⟩
  have q := r'.sub.seq (n'.sub.seq h1)
  by_cases hlt : i < ws.length
  · refine .inr ⟨⟨ws, ws[i], q, by simp [hlt]⟩, fun σ2 H2 => ∃ α2 F2 ss2 st2, Nx α1 F1 st1.length α2 F2 (List.length st2) ∧ Rel K T α2 F2 H2 st2 ∧ SR K α2 F2 st2.length ss2 σ2 ∧ I (i + 1) ss2 st2, fun σ2 H2 p2 => ⟨ws.length - (i + 1), by omega, rfl, hlt, p2⟩, fun x H2 y => ?_⟩
    obtain ⟨T', x1, rfl, nT, rfl, y⟩ := y
    have ey := y ws q
    obtain ⟨d, hd1, dd⟩ := dps_getV h2 ey
    have hF := none_of r' nT
    have nn : Nx α' F' st'.length α' (upd F' T' (.tup [.int (i : Nat), x1])) st'.length := Nx.new hF
    have rr := r'.new (o := .tup [.int (i : Nat), x1]) nT fun ps z => by cases z
    exact hs i d ss' st' hd1 hI α' _ _ σ' (.ref T') rr (s'.mono nn) (Dp.tup (.inl (.inl upd_same)) (.cons (.int _) (.cons (dpm (same_upd hF) (dpm n'.sub dd)) .nil))) _ fun α2 F2 H2 σ2 ss2 st2 n2 r2 s2 q => q α2 F2 H2 σ2 r2 s2 _
      ⟨fun α3 F3 H3 σ3 ss3 st3 n3 r3 s3 q3 => ⟨α3, F3, ss3, st3, n'.trans (nn.trans (n2.trans n3)), r3, s3, q3⟩, fun α3 F3 H3 v3 x3 st3 n3 => o1.rt α3 F3 H3 v3 x3 st3 (n'.trans (nn.trans (n2.trans n3))),
        fun α3 F3 H3 σ3 ss3 st3 n3 => o1.nx α3 F3 H3 σ3 ss3 st3 (n'.trans (nn.trans (n2.trans n3))), fun α3 F3 H3 σ3 ss3 st3 n3 r3 s3 q3 => ⟨α3, F3, ss3, st3, n'.trans (nn.trans (n2.trans n3)), r3, s3, q3⟩⟩
  · have e : i = ws.length := by omega
    subst e
    exact .inl ⟨⟨ws, q, Nat.le_refl _⟩, o1.nx α' F' H' σ' ss' st' n' r' s' (hd ss' st' (by rw [← dps_len h2]; exact hI))⟩
theorem ws_while (I : Nat → SS → Sto → Prop) (h0 : ∃ m, I m ss st)
    (hs : ∀ (m : Nat) (ss' : SS) (st' : Sto), I m ss' st' → WT K T tt ss' st' fun b st1 => (b = true → WS K T bd ss' st1 (inTurn P fun ss2 st2 => ∃ m', m' < m ∧ I m' ss2 st2)) ∧ (b = false → P.nx ss' st1)) :
    WS K T (tWhile tt bd) ss st P := fun α F H σ r s D o => by
  obtain ⟨m0, h0⟩ := h0
  refine ⟨fun m σ' H' => ∃ α' F' ss' st', Nx α F st.length α' F' (List.length st') ∧ Rel K T α' F' H' st' ∧ SR K α' F' st'.length ss' σ' ∧ I m ss' st', ⟨m0, α, F, ss, st, Nx.refl, r, s, h0⟩, ?_⟩
  rintro m σ' H' ⟨α', F', ss', st', n', r', s', hI⟩
  refine hs m ss' st' hI α' F' H' σ' r' s' _ fun α1 F1 H1 b st1 n1 r1 ⟨ht, hf⟩ => ?_
  cases b with
  | true =>
    rw [if_pos rfl]
    refine ⟨fun σ2 H2 => ∃ m', m' < m ∧ ∃ α2 F2 ss2 st2, Nx α F st.length α2 F2 (List.length st2) ∧ Rel K T α2 F2 H2 st2 ∧ SR K α2 F2 st2.length ss2 σ2 ∧ I m' ss2 st2, fun σ2 H2 h => h, ?_⟩
    exact ht rfl α1 F1 H1 σ' r1 (s'.mono n1) _ ⟨fun α3 F3 H3 σ3 ss3 st3 n3 r3 s3 ⟨m', hm, q3⟩ => ⟨m', hm, α3, F3, ss3, st3, n'.trans (n1.trans n3), r3, s3, q3⟩, fun α3 F3 H3 v3 x3 st3 n3 => o.rt α3 F3 H3 v3 x3 st3 (n'.trans (n1.trans n3)),
      fun α3 F3 H3 σ3 ss3 st3 n3 => o.nx α3 F3 H3 σ3 ss3 st3 (n'.trans (n1.trans n3)), fun α3 F3 H3 σ3 ss3 st3 n3 r3 s3 ⟨m', hm, q3⟩ => ⟨m', hm, α3, F3, ss3, st3, n'.trans (n1.trans n3), r3, s3, q3⟩⟩
  | false =>
    rw [if_neg Bool.false_ne_true]
    exact o.nx α1 F1 H1 σ' ss' st1 (n'.trans n1) r1 (s'.mono n1) (hf rfl)

/-! ### comprehensions -/
def wipeS : SS → List Nat → SS
  | ss, [] => ss
  | ss, v :: vs => (wipeS ss vs).set v none
theorem SR.wipe {α : Nat → Addr} {F : Hp} {L : Nat} {σ : L2.St} (s : SR K α F L ss σ) : ∀ vs : List Nat, SR K α F L (wipeS ss vs) (L2.wipe σ vs)
  | [] => s
  | v :: vs => (s.wipe vs).setNone v
theorem wipe_in {σ : L2.St} {i : Nat} : ∀ {vs : List Nat}, i ∈ vs → (L2.wipe σ vs)[i]? = if i < σ.length then some none else none
  | [], h => by simp at h
  | v :: vs, h => by
    unfold L2.wipe
    have hl := L2.wipe_length σ vs
    by_cases e : v = i
    · subst e
      by_cases hv : v < σ.length
      · rw [List.getElem?_set_self (by rw [hl]; exact hv), if_pos hv]
      · rw [List.getElem?_eq_none (by rw [List.length_set, hl]; omega), if_neg hv]
    · rw [List.getElem?_set_ne e]
      rcases List.mem_cons.mp h with h | h
      · exact absurd h.symm e
      · exact wipe_in h
theorem wipe_set {σ : L2.St} {i : Nat} {x : Option V} {vs : List Nat} (h : i ∈ vs) : L2.wipe (σ.set i x) vs = L2.wipe σ vs := by
  apply List.ext_getElem?
  intro j
  by_cases hj : j ∈ vs
  · rw [wipe_in hj, wipe_in hj, List.length_set]
  · rw [L2.wipe_out hj, L2.wipe_out hj, List.getElem?_set_ne]
    rintro rfl
    exact hj h
theorem wipe_wipe {σ : L2.St} {vs : List Nat} : L2.wipe (L2.wipe σ vs) vs = L2.wipe σ vs := by
  apply List.ext_getElem?
  intro j
  by_cases hj : j ∈ vs
  · rw [wipe_in hj, wipe_in hj, L2.wipe_length]
  · rw [L2.wipe_out hj]
def GW (g : TG) (vs : List Nat) : Prop := ∀ (v : V) (σ : L2.St) (H : Hp) (Q : L2.St → Hp → Prop), g v σ H Q → g v σ H fun σ' H' => L2.wipe σ' vs = L2.wipe σ vs ∧ Q σ' H'
def GWs (g : TGs) (vs : List Nat) : Prop := ∀ (v : List V) (σ : L2.St) (H : Hp) (Q : L2.St → Hp → Prop), g v σ H Q → g v σ H fun σ' H' => L2.wipe σ' vs = L2.wipe σ vs ∧ Q σ' H'
theorem gw_name {i : Nat} {vs : List Nat} (h : i ∈ vs) : GW (gName i) vs := fun v σ H Q q => ⟨wipe_set h, q⟩
theorem gw_nil {vs : List Nat} : GWs gNil vs := fun v σ H Q ⟨e, q⟩ => ⟨e, rfl, q⟩
/-- a target's store, weakened (the targets' readings are monotone) -/
def GM (g : TG) : Prop := ∀ (v : V) (σ : L2.St) (H : Hp) (Q Q' : L2.St → Hp → Prop), (∀ σ' H', Q σ' H' → Q' σ' H') → g v σ H Q → g v σ H Q'
def GMs (g : TGs) : Prop := ∀ (v : List V) (σ : L2.St) (H : Hp) (Q Q' : L2.St → Hp → Prop), (∀ σ' H', Q σ' H' → Q' σ' H') → g v σ H Q → g v σ H Q'
theorem gm_name {i : Nat} : GM (gName i) := fun v σ H Q Q' f q => f _ _ q
theorem gm_nil : GMs gNil := fun v σ H Q Q' f ⟨e, q⟩ => ⟨e, f _ _ q⟩
theorem gm_cons {g : TG} {gs : TGs} (a : GM g) (b : GMs gs) : GMs (gCons g gs) := fun v σ H Q Q' f ⟨x, r, e, q⟩ => ⟨x, r, e, a _ _ _ _ _ (fun σ' H' q' => b _ _ _ _ _ f q') q⟩
theorem gm_tup {n : Nat} {gs : TGs} (b : GMs gs) : GM (gTup K n gs) := fun v σ H Q Q' f ⟨a, xs, e, h, l, q⟩ => ⟨a, xs, e, h, l, b _ _ _ _ _ f q⟩
theorem gw_cons {g : TG} {gs : TGs} {vs : List Nat} (m : GM g) (ms : GMs gs) (a : GW g vs) (b : GWs gs vs) : GWs (gCons g gs) vs := fun v σ H Q ⟨x, r, e, q⟩ =>
  ⟨x, r, e, m _ _ _ _ _ (fun σ' H' ⟨e1, q'⟩ => ms _ _ _ _ _ (fun σ2 H2 ⟨e2, q2⟩ => ⟨e2.trans e1, q2⟩) (b _ _ _ _ q')) (a _ _ _ _ q)⟩
theorem gw_tup {n : Nat} {gs : TGs} {vs : List Nat} (b : GWs gs vs) : GW (gTup K n gs) vs := fun v σ H Q ⟨a, xs, e, h, l, q⟩ => ⟨a, xs, e, h, l, b _ _ _ _ q⟩
theorem fm_take {α β : Type} {f : α → Option β} {xs : List α} {i : Nat} {d : α} (h : xs[i]? = some d) : (xs.take (i + 1)).filterMap f = (xs.take i).filterMap f ++ (f d).toList := by
  rw [List.take_add_one, h, List.filterMap_append]
  cases e : f d <;> simp [e]
/-- [e for target in list if tests], the result plain -/
theorem we_lcL {vs : List Nat} (hG : GW g vs) (h : WE K T tl ss st fun x st1 => ∃ xs, x = .pd (.list xs) ∧ xs.length < sizeLine ∧ ∃ f : PyData → Option PyData,
      (∀ (i : Nat) (d : PyData) (acc : List PyData), xs[i]? = some d → WG K T g (.pd d) (wipeS ss vs) (st1 ++ [.mu acc]) fun ss2 st2 => WT K T tt ss2 st2 fun b st3 =>
        (b = true → WE K T te ss2 st3 fun y st4 => ∃ dy st5, pur y st4 = some (dy, st5) ∧ st5.take (st1.length + 1) = st1 ++ [.mu acc] ∧ f d = some dy) ∧ (b = false → st3.take (st1.length + 1) = st1 ++ [.mu acc] ∧ f d = none)) ∧
      Φ (.pd (.list (xs.filterMap f))) st1) :
    WE K T (tLc (iList K tl) g tt te vs) ss st Φ := fun α F H σ r s Q k => h α F H σ r s _ fun α1 F1 H1 v x st1 n1 r1 v1 ⟨xs, e, hsz, f, hs, hq⟩ => by
  subst e
  obtain ⟨a, ws, rfl, h1, h2⟩ := dp_lst v1
  refine ⟨a, rfl, ⟨ws, r1.sub.seq h1⟩, fun D hD => ?_⟩
  have len1 : ∀ acc : List PyData, (st1 ++ [Cell.mu acc]).length = st1.length + 1 := fun acc => by simp
  refine lc_list (xs := ws) (fun i H' => ∃ α' F', Nx α1 F1 st1.length α' F' st1.length ∧ Rel K T α' F' H' (st1 ++ [.mu ((xs.take i).filterMap f)]) ∧ α' st1.length = D)
    ⟨ext α1 st1.length D, F1, ⟨Same.refl _, Nat.le_refl _, fun n hn => ext_ne (Nat.ne_of_lt hn)⟩, r1.cell hD .nil, ext_same⟩ (fun i H' _ ⟨α', F', n', r', _⟩ => r'.sub.seq (n'.sub.seq h1)) (fun i y H' hy ⟨α', F', n', r', eD⟩ => ?_) (fun H' ⟨α', F', n', r', eD⟩ => ?_)
  · obtain ⟨d, hd1, dd⟩ := dps_getV h2 hy
    have hi : i < xs.length := (List.getElem?_eq_some_iff.mp hd1).1
    have nn : Nx α1 F1 st1.length α' F' (st1.length + 1) := ⟨n'.sub, Nat.le_succ _, n'.ag⟩
    have s1 : SR K α' F' (st1 ++ [Cell.mu ((xs.take i).filterMap f)]).length (wipeS ss vs) (L2.wipe σ vs) := by
      rw [len1]
      exact ((s.mono n1).mono nn).wipe vs
    have ez : L2.wipe (L2.wipe σ vs) vs = L2.wipe σ vs := wipe_wipe
    have base := hs i d ((xs.take i).filterMap f) hd1 α' F' H' (L2.wipe σ vs) y r' s1 (dpm n'.sub dd) (fun σ2 H2 => tt σ2 H2 fun b H3 => if b = true then te σ2 H3 fun y H4 => ∃ acc, H4 D = some (.lst acc) ∧ acc.length < sizeLine ∧
        (∃ α' F', Nx α1 F1 st1.length α' F' st1.length ∧ Rel K T α' F' (upd H4 D (.lst (acc ++ [y]))) (st1 ++ [.mu ((xs.take (i + 1)).filterMap f)]) ∧ α' st1.length = D) else
        ∃ α' F', Nx α1 F1 st1.length α' F' st1.length ∧ Rel K T α' F' H3 (st1 ++ [.mu ((xs.take (i + 1)).filterMap f)]) ∧ α' st1.length = D) fun α2 F2 H2 σ2 ss2 st2 n2 r2 s2 q => q α2 F2 H2 σ2 r2 s2 _ fun α3 F3 H3 b st3 n3 r3 ⟨ht, hf⟩ => ?_
    · have := hG _ _ _ _ base
      rw [ez] at this
      exact this
    · have cut : ∀ {α4 : Nat → Addr} {F4 : Hp} {st4 : Sto}, Nx α' F' (st1 ++ [Cell.mu ((xs.take i).filterMap f)]).length α4 F4 st4.length → Nx α1 F1 st1.length α4 F4 st1.length ∧ α4 st1.length = D := fun {α4 F4 st4} n4 => by
        rw [len1] at n4
        exact ⟨⟨n'.sub.trans n4.sub, Nat.le_refl _, fun n hn => (n4.ag n (Nat.lt_succ_of_lt hn)).trans (n'.ag n hn)⟩, (n4.ag _ (Nat.lt_succ_self _)).trans eD⟩
      cases b with
      | true =>
        rw [if_pos rfl]
        refine ht rfl α3 F3 H3 σ2 r3 (s2.mono n3) _ fun α4 F4 H4 vy z st4 n4 r4 v4 ⟨dy, st5, ep, et, ef⟩ => ?_
        obtain ⟨F5, r5, n5, d5⟩ := pur_ok r4 v4 ep
        have nA := n2.trans (n3.trans (n4.trans n5))
        obtain ⟨c1, c2⟩ := cut nA
        have h5 : st5[st1.length]? = some (.mu ((xs.take i).filterMap f)) := by
          have : (st5.take (st1.length + 1))[st1.length]? = some (.mu ((xs.take i).filterMap f)) := by rw [et]; simp
          rw [List.getElem?_take] at this
          simpa using this
        obtain ⟨_, us, e1, d1⟩ := r5.mu _ _ h5
        rw [c2] at e1
        have rw5 := (r5.write h5 (dps_app d1 (.cons d5 .nil))).take (st1.length + 1)
        rw [c2, List.take_set, et] at rw5
        have es : (st1 ++ [Cell.mu ((xs.take i).filterMap f)]).set st1.length (.mu ((xs.take i).filterMap f ++ [dy])) = st1 ++ [.mu ((xs.take (i + 1)).filterMap f)] := by
          rw [fm_take hd1, ef]
          simp
        rw [es] at rw5
        refine ⟨us, e1, ?_, α4, F5, c1, rw5, c2⟩
        rw [dps_len d1]
        have := List.length_filterMap_le f (xs.take i)
        rw [List.length_take] at this
        omega
      | false =>
        rw [if_neg Bool.false_ne_true]
        obtain ⟨et, ef⟩ := hf rfl
        obtain ⟨c1, c2⟩ := cut (n2.trans n3)
        have r3' := r3.take (st1.length + 1)
        rw [et] at r3'
        refine ⟨α3, F3, c1, ?_, c2⟩
        rw [fm_take hd1, ef]
        simpa using r3'
  · have ea : (xs.take ws.length).filterMap f = xs.filterMap f := by rw [dps_len h2, List.take_length]
    rw [ea] at r'
    have hg : (st1 ++ [Cell.mu (xs.filterMap f)])[st1.length]? = some (.mu (xs.filterMap f)) := by simp
    obtain ⟨F2, r2, n2, d2⟩ := r'.freeze hg
    have r3 := r2.take st1.length
    have et : ((st1 ++ [Cell.mu (xs.filterMap f)]).set st1.length (.fr (xs.filterMap f))).take st1.length = st1 := by simp
    rw [et] at r3
    rw [eD] at d2
    exact k α' F2 H' (.ref D) (.pd _) st1 (n1.trans ⟨n'.sub.trans n2.sub, Nat.le_refl _, n'.ag⟩) r3 d2 hq
/-- [e for target in range(lo, n) if tests], the result plain -/
theorem lc_rngX {vs : List Nat} {lo : Int} {n : Nat} {α1 : Nat → Addr} {F1 H1 : Hp} {st1 : Sto} {σ : L2.St} {Q : VK} (hG : GW g vs) (s1 : SR K α1 F1 st1.length ss σ) (r1 : Rel K T α1 F1 H1 st1) (hsz : n < sizeLine) (f : Nat → Option PyData)
    (hs : ∀ (i : Nat) (acc : List PyData), i < n → WG K T g (.pd (.int (lo + (i : Int)))) (wipeS ss vs) (st1 ++ [.mu acc]) fun ss2 st2 => WT K T tt ss2 st2 fun b st3 =>
        (b = true → WE K T te ss2 st3 fun y st4 => ∃ dy st5, pur y st4 = some (dy, st5) ∧ st5.take (st1.length + 1) = st1 ++ [.mu acc] ∧ f i = some dy) ∧ (b = false → st3.take (st1.length + 1) = st1 ++ [.mu acc] ∧ f i = none))
    (k : ∀ α2 F2 H2 D, Nx α1 F1 st1.length α2 F2 st1.length → Rel K T α2 F2 H2 st1 → Dp K F2 (.ref D) (.list ((List.range n).filterMap f)) → Q (.ref D) H2) (D : Addr) (hD : H1 D = none) :
    ∃ W : Nat → Nat → Hp → Prop, (∃ m, W 0 m (upd H1 D (.lst []))) ∧ ∀ i m H, W i m H → ((Itr lo n).stop i H ∧ Q (.ref D) H) ∨ ((Itr lo n).go i H ∧ ∃ Nx : Hp → Prop, (∀ H', Nx H' → ∃ m', m' < m ∧ W (i + 1) m' H') ∧ ∀ x H', (Itr lo n).yld i H x H' → g x (L2.wipe σ vs) H' fun σ2 H2 => L2.wipe σ2 vs = L2.wipe σ vs ∧ tt σ2 H2 fun b H3 =>
        if b = true then te σ2 H3 fun y H4 => ∃ acc, H4 D = some (.lst acc) ∧ acc.length < sizeLine ∧ Nx (upd H4 D (.lst (acc ++ [y]))) else Nx H3) := by
  have len1 : ∀ acc : List PyData, (st1 ++ [Cell.mu acc]).length = st1.length + 1 := fun acc => by simp
  refine lc_range (lo := lo) (n := n) (fun i H' => ∃ α' F', Nx α1 F1 st1.length α' F' st1.length ∧ Rel K T α' F' H' (st1 ++ [.mu ((List.range i).filterMap f)]) ∧ α' st1.length = D)
    ⟨ext α1 st1.length D, F1, ⟨Same.refl _, Nat.le_refl _, fun n hn => ext_ne (Nat.ne_of_lt hn)⟩, r1.cell hD .nil, ext_same⟩ (fun i H' hi ⟨α', F', n', r', eD⟩ => ?_) (fun H' ⟨α', F', n', r', eD⟩ => ?_)
  · have nn : Nx α1 F1 st1.length α' F' (st1.length + 1) := ⟨n'.sub, Nat.le_succ _, n'.ag⟩
    have s1 : SR K α' F' (st1 ++ [Cell.mu ((List.range i).filterMap f)]).length (wipeS ss vs) (L2.wipe σ vs) := by
      rw [len1]
      exact (s1.mono nn).wipe vs
    have ez : L2.wipe (L2.wipe σ vs) vs = L2.wipe σ vs := wipe_wipe
    have es1 : (List.range (i + 1)).filterMap f = (List.range i).filterMap f ++ (f i).toList := by
      rw [List.range_succ, List.filterMap_append]
      cases e : f i <;> simp [e]
    have base := hs i ((List.range i).filterMap f) hi α' F' H' (L2.wipe σ vs) (.int (lo + (i : Int))) r' s1 (Dp.int _) (fun σ2 H2 => tt σ2 H2 fun b H3 => if b = true then te σ2 H3 fun y H4 => ∃ acc, H4 D = some (.lst acc) ∧ acc.length < sizeLine ∧
        (∃ α' F', Nx α1 F1 st1.length α' F' st1.length ∧ Rel K T α' F' (upd H4 D (.lst (acc ++ [y]))) (st1 ++ [.mu ((List.range (i + 1)).filterMap f)]) ∧ α' st1.length = D) else
        ∃ α' F', Nx α1 F1 st1.length α' F' st1.length ∧ Rel K T α' F' H3 (st1 ++ [.mu ((List.range (i + 1)).filterMap f)]) ∧ α' st1.length = D) fun α2 F2 H2 σ2 ss2 st2 n2 r2 s2 q => q α2 F2 H2 σ2 r2 s2 _ fun α3 F3 H3 b st3 n3 r3 ⟨ht, hf⟩ => ?_
    · have := hG _ _ _ _ base
      rw [ez] at this
      exact this
    · have cut : ∀ {α4 : Nat → Addr} {F4 : Hp} {st4 : Sto}, Nx α' F' (st1 ++ [Cell.mu ((List.range i).filterMap f)]).length α4 F4 st4.length → Nx α1 F1 st1.length α4 F4 st1.length ∧ α4 st1.length = D := fun {α4 F4 st4} n4 => by
        rw [len1] at n4
        exact ⟨⟨n'.sub.trans n4.sub, Nat.le_refl _, fun n hn => (n4.ag n (Nat.lt_succ_of_lt hn)).trans (n'.ag n hn)⟩, (n4.ag _ (Nat.lt_succ_self _)).trans eD⟩
      cases b with
      | true =>
        rw [if_pos rfl]
        refine ht rfl α3 F3 H3 σ2 r3 (s2.mono n3) _ fun α4 F4 H4 vy z st4 n4 r4 v4 ⟨dy, st5, ep, et, ef⟩ => ?_
        obtain ⟨F5, r5, n5, d5⟩ := pur_ok r4 v4 ep
        have nA := n2.trans (n3.trans (n4.trans n5))
        obtain ⟨c1, c2⟩ := cut nA
        have h5 : st5[st1.length]? = some (.mu ((List.range i).filterMap f)) := by
          have : (st5.take (st1.length + 1))[st1.length]? = some (.mu ((List.range i).filterMap f)) := by rw [et]; simp
          rw [List.getElem?_take] at this
          simpa using this
        obtain ⟨_, us, e1, d1⟩ := r5.mu _ _ h5
        rw [c2] at e1
        have rw5 := (r5.write h5 (dps_app d1 (.cons d5 .nil))).take (st1.length + 1)
        rw [c2, List.take_set, et] at rw5
        have es : (st1 ++ [Cell.mu ((List.range i).filterMap f)]).set st1.length (.mu ((List.range i).filterMap f ++ [dy])) = st1 ++ [.mu ((List.range (i + 1)).filterMap f)] := by
          rw [es1, ef]
          simp
        rw [es] at rw5
        refine ⟨us, e1, ?_, α4, F5, c1, rw5, c2⟩
        rw [dps_len d1]
        have := List.length_filterMap_le f (List.range i)
        rw [List.length_range] at this
        omega
      | false =>
        rw [if_neg Bool.false_ne_true]
        obtain ⟨et, ef⟩ := hf rfl
        obtain ⟨c1, c2⟩ := cut (n2.trans n3)
        have r3' := r3.take (st1.length + 1)
        rw [et] at r3'
        refine ⟨α3, F3, c1, ?_, c2⟩
        rw [es1, ef]
        simpa using r3'
  · have hg : (st1 ++ [Cell.mu ((List.range n).filterMap f)])[st1.length]? = some (.mu ((List.range n).filterMap f)) := by simp
    obtain ⟨F2, r2, n2, d2⟩ := r'.freeze hg
    have r3 := r2.take st1.length
    have et : ((st1 ++ [Cell.mu ((List.range n).filterMap f)]).set st1.length (.fr ((List.range n).filterMap f))).take st1.length = st1 := by simp
    rw [et] at r3
    rw [eD] at d2
    exact k α' F2 H' D ⟨n'.sub.trans n2.sub, Nat.le_refl _, n'.ag⟩ r3 d2
theorem we_lcR2 {t : TA} {vs : List Nat} (hG : GW g vs) (h : WA K T t ss st fun xs st1 => ∃ lo n, xs = [.pd (.int lo), .pd (.int n)] ∧ (-(2 ^ 62) ≤ lo ∧ lo < 2 ^ 62 ∧ -(2 ^ 62) ≤ n ∧ n < 2 ^ 62) ∧ (n - lo).toNat < sizeLine ∧ ∃ f : Nat → Option PyData,
      (∀ (i : Nat) (acc : List PyData), i < (n - lo).toNat → WG K T g (.pd (.int (lo + (i : Int)))) (wipeS ss vs) (st1 ++ [.mu acc]) fun ss2 st2 => WT K T tt ss2 st2 fun b st3 =>
        (b = true → WE K T te ss2 st3 fun y st4 => ∃ dy st5, pur y st4 = some (dy, st5) ∧ st5.take (st1.length + 1) = st1 ++ [.mu acc] ∧ f i = some dy) ∧ (b = false → st3.take (st1.length + 1) = st1 ++ [.mu acc] ∧ f i = none)) ∧
      Φ (.pd (.list ((List.range (n - lo).toNat).filterMap f))) st1) :
    WE K T (tLc (iRng2 t) g tt te vs) ss st Φ := fun α F H σ r s Q k => h α F H σ r s _ fun α1 F1 H1 vs1 xs st1 n1 r1 v1 ⟨lo, n, e, b, hsz, f, hs, hq⟩ => by
  subst e
  obtain ⟨v, w, rfl, hv, hw⟩ := vrs2 v1
  obtain rfl := dp_int hv
  obtain rfl := dp_int hw
  exact ⟨lo, n, rfl, b, fun D hD => lc_rngX hG (s.mono n1) r1 hsz f hs (fun α2 F2 H2 D n2 r2 d2 => k α2 F2 H2 (.ref D) (.pd _) st1 (n1.trans n2) r2 d2 hq) D hD⟩
theorem we_lcR1 {t : TA} {vs : List Nat} (hG : GW g vs) (h : WA K T t ss st fun xs st1 => ∃ n, xs = [.pd (.int n)] ∧ -(2 ^ 62) ≤ n ∧ n < 2 ^ 62 ∧ n.toNat < sizeLine ∧ ∃ f : Nat → Option PyData,
      (∀ (i : Nat) (acc : List PyData), i < n.toNat → WG K T g (.pd (.int (0 + (i : Int)))) (wipeS ss vs) (st1 ++ [.mu acc]) fun ss2 st2 => WT K T tt ss2 st2 fun b st3 =>
        (b = true → WE K T te ss2 st3 fun y st4 => ∃ dy st5, pur y st4 = some (dy, st5) ∧ st5.take (st1.length + 1) = st1 ++ [.mu acc] ∧ f i = some dy) ∧ (b = false → st3.take (st1.length + 1) = st1 ++ [.mu acc] ∧ f i = none)) ∧
      Φ (.pd (.list ((List.range n.toNat).filterMap f))) st1) :
    WE K T (tLc (iRng1 t) g tt te vs) ss st Φ := fun α F H σ r s Q k => h α F H σ r s _ fun α1 F1 H1 vs1 xs st1 n1 r1 v1 ⟨n, e, b1, b2, hsz, f, hs, hq⟩ => by
  subst e
  obtain ⟨v, rfl, hv⟩ := vrs1 v1
  obtain rfl := dp_int hv
  exact ⟨n, rfl, b1, b2, fun D hD => lc_rngX hG (s.mono n1) r1 hsz f hs (fun α2 F2 H2 D n2 r2 d2 => k α2 F2 H2 (.ref D) (.pd _) st1 (n1.trans n2) r2 d2 hq) D hD⟩
end

/-! ### defs -/
/-- a def's promise by a transformer of its arguments and the store -/
abbrev Pre := List Val → Sto → (Val → Sto → Prop) → Prop
def spP (K : PySem.W.Frag) (T : List (Addr × Str)) (n : Nat) (p : Pre) : Sp := fun vs H Q _ => ∃ α F st xs Φ, Rel K T α F H st ∧ VRs K α F st.length xs vs ∧ xs.length = n ∧ p xs st Φ ∧
  ∀ (α' : Nat → Addr) (F' H' : Hp) (v : V) (x : Val) (st' : Sto), Nx α F st.length α' F' st'.length → Rel K T α' F' H' st' → VR K α' F' st'.length x v → Φ x st' → Q v H'
section
variable {K : PySem.W.Frag} {T : List (Addr × Str)} {ss : SS} {st : Sto} {Φ : Val → Sto → Prop} {n : Nat} {p : Pre}
theorem we_call {t : TA} {E : XK} (h : WA K T t ss st fun xs st1 => xs.length = n ∧ p xs st1 Φ) : WE K T (tCall (spP K T n p) [] E t) ss st Φ := fun α F H σ r s Q k =>
  h α F H σ r s _ fun α1 F1 H1 vs xs st1 n1 r1 v1 ⟨hl, hp⟩ => ⟨α1, F1, st1, xs, Φ, r1, by rw [List.append_nil]; exact v1, hl, hp, fun α2 F2 H2 v x st2 n2 => k α2 F2 H2 v x st2 (n1.trans n2)⟩
/-- what a body's end must show: the store may be cut back -/
def Fin (L : Nat) (Φ : Val → Sto → Prop) (x : Val) (st : Sto) : Prop := ∃ m, L ≤ m ∧ (∀ k, x = .cell k → k < m) ∧ Φ x (st.take m)
theorem fin_pd {L : Nat} {d : PyData} {st st' : Sto} (e : st'.take L = st) (h : Φ (.pd d) st) : Fin L Φ (.pd d) st' := ⟨L, Nat.le_refl _, fun k z => (nomatch z), by rw [e]; exact h⟩
theorem fin_all {L : Nat} {x : Val} {st' : Sto} (hl : L ≤ st'.length) (hx : ∀ k, x = .cell k → k < st'.length) (h : Φ x st') : Fin L Φ x st' := ⟨st'.length, hl, hx, by rw [List.take_length]; exact h⟩
def startS (N : List Str) (xs : List Val) : SS := xs.map some ++ List.replicate (N.length - xs.length) none
theorem SR_start {α : Nat → Addr} {F : Hp} {L : Nat} {xs : List Val} {vs : List V} (h : VRs K α F L xs vs) (N : List Str) : SR K α F L (startS N xs) (L2.start N vs) := by
  unfold startS L2.start
  rw [h.len]
  generalize N.length - vs.length = m
  induction h with
  | nil =>
    refine ⟨by simp, fun i x e => ?_⟩
    simp only [List.map_nil, List.nil_append, List.getElem?_replicate] at e
    split at e
    · cases e
    · cases e
  | cons a b ih =>
    refine ⟨by simpa using ih.len, fun i x e => ?_⟩
    cases i with
    | zero =>
      simp at e
      subst e
      exact ⟨_, rfl, a⟩
    | succ i =>
      simp only [List.map_cons, List.cons_append, List.getElem?_cons_succ] at e ⊢
      exact ih.at_ i x e
abbrev PoF (L : Nat) (Φ : Val → Sto → Prop) : Po := { nx := fun _ st => Fin L Φ (.pd .none) st, rt := Fin L Φ, bk := fun _ _ => False, ct := fun _ _ => False }
/-- a body's reading -/
theorem fn_run {N : List Str} {t : TS} {vs : List V} {H : Hp} {Q : VK} {E : XK} (h : spP K T n p vs H Q E) (hw : ∀ (xs : List Val) (st : Sto) (Φ : Val → Sto → Prop), xs.length = n → p xs st Φ → WS K T t (startS N xs) st (PoF st.length Φ)) :
    t { nx := fun _ H' => Q .non H', rt := Q } (L2.start N vs) H := by
  obtain ⟨α, F, st, xs, Φ, r, v, hl, hp, k⟩ := h
  have fin : ∀ (α' : Nat → Addr) (F' H' : Hp) (v : V) (x : Val) (st' : Sto), Nx α F st.length α' F' st'.length → Rel K T α' F' H' st' → VR K α' F' st'.length x v → Fin st.length Φ x st' → Q v H' := by
    intro α' F' H' v x st' n' r' v' ⟨m, hm, hx, q⟩
    refine k α' F' H' v x (st'.take m) ⟨n'.sub, ?_, n'.ag⟩ (r'.take m) ?_ q
    · rw [List.length_take]
      have := n'.le
      omega
    · cases x with
      | pd d => exact v'
      | ty n => exact v'
      | cell j =>
        refine ⟨?_, v'.2⟩
        rw [List.length_take]
        have := hx j rfl
        have := v'.1
        omega
  refine hw xs st Φ hl hp α F H (L2.start N vs) r (SR_start v N) _ ⟨fun α' F' H' σ' ss' st' n' r' s' q => fin α' F' H' .non (.pd .none) st' n' r' Dp.non q, fun α' F' H' v x st' n' r' v' q => fin α' F' H' v x st' n' r' v' q, fun _ _ _ _ _ _ _ _ _ q => q.elim, fun _ _ _ _ _ _ _ _ _ q => q.elim⟩
theorem spP_len {vs : List V} {H : Hp} {Q : VK} {E : XK} (h : spP K T n p vs H Q E) : vs.length = n := by
  obtain ⟨α, F, st, xs, Φ, r, v, hl, hp, k⟩ := h
  rw [← v.len, hl]
end
end Ct

/-! CtL: sorted(rows, key=lambda row: row[0]). -/
namespace Ct
open PySem L2 PyProof.Rows

/-- the lambda's scope has its one parameter alone -/
structure Lam1 (x : Str) (params : Arguments) (scope : Scope) : Prop where
  kind : scope.kind = .function
  co : scope.isCoroutine = false
  gen : scope.isGenerator = false
  names : scope.names = [(x, .local)]
/-- one call of the lambda -/
theorem lam_turn {prog : Program} {w : World} {A : Around} {s : Shared} {x : Str} {f t : Addr} {params : Arguments} {scope : Scope} {pm ctv : Value} {c' : Addr} {qual : Str} {items : Array Value} {i : Int} {tk0 : Tok} {p1 p2 p3 : Pos} {j : Nat}
    (L : Lam1 x params scope) (hf : s.heap.get? f = some (PySem.W.kla_obj "<lambda>" qual params (.Subscript (.Name x p1) (.Constant (.int 0) j p2) p3) scope [] pm c' ctv))
    (hbind : ∀ v : Value, bindArgs (PySem.W.kla_fn "<lambda>" qual params (.Subscript (.Name x p1) (.Constant (.int 0) j p2) p3) scope [] pm (.ref c') ctv) ⟨[v], []⟩ = pure [(x, v)])
    (hcode : s.heap.CodeRec (.ref c') qual) (ht : IsTup s.heap t items) (h0 : items[0]? = some (.int i tk0)) (hroom : A.depth < recursionLimit) (hlim : s.heap.NoLimit) (hd : (x == ("__debug__" : Str)) = false) :
    wpAny (model prog w) A (call (.ref f) [.ref t]) (PySem.W.KeyPure (.int i) s) (fun _ _ => False) s := by
  refine wpAny_call (codeAny_mono (R := fun r s' => match r with | .ok (.ret v) => PySem.W.KeyPure (.int i) s v s' | _ => False) ?_ fun r s' hq => ?_)
  · refine PySem.W.kla_callFunE hroom hf rfl L.co L.gen rfl hcode ?_
    rw [hbind]
    refine wpAny_pure (wpAny_newFunctionEnv (fun y hy => by
      have hy : y ∈ scope.names := hy
      rw [L.names] at hy
      have e : y = (x, .local) := by simpa using hy
      rw [e]
      simp) (fun y hy => by
      have e : y = (x, .ref t) := by simpa using hy
      rw [e]
      show scope.names.lookup x = some .local
      rw [L.names]
      simp) (fun h₁ hns hsb => ⟨hlim.fresh _ hsb, ?_⟩) L.kind)
    have kp : ∀ b o, s.heap.get? b = some o → h₁.get? b = some o := fun b o e => hsb.extBut b o (Nat.ne_of_lt (Heap.lt_size e)) (Heap.get?_push_of_some _ e)
    refine PySem.W.kla_codeExpr ?_
    obtain ⟨o, ho, hcl, n, hdt⟩ := ht
    have hl : 0 < items.size := by
      rcases Nat.lt_or_ge 0 items.size with h | h
      · exact h
      · rw [Array.getElem?_eq_none (by omega)] at h0
        cases h0
    refine Subscript_ (wpAny_Name (wpAny_loadName_local L.kind ?_ hns (v := .ref t) (by simp) (wpAny_Constant_int ?_)) hd)
    · show scope.names.lookup x = some .local
      rw [L.names]
      simp
    · refine subscriptTail_builtinR (x := .int i tk0) (T := "tuple") (id := "tuple.__getitem__") ?_ slot_tuple_getitem.lookup (getItem_tuple (j := 0) (items := items) ⟨o, kp _ _ ho, hcl, n, hdt⟩ (by decide) (by decide) ?_ h0 ⟨rfl, ?_⟩) (by first | rfl | with_unfolding_all rfl)
      · exact (IsTup.typeIs ⟨o, kp _ _ ho, hcl, n, hdt⟩)
      · exact seqIndex_of (by decide) (by omega)
      · exact ⟨h₁, _, rfl, kp, .int i tk0⟩
  · cases r with
    | error e => exact hq.elim
    | ok fl =>
      cases fl with
      | ret u => exact hq
      | next => exact hq.elim
      | brk => exact hq.elim
      | cont => exact hq.elim

def rowKey : PyData → Int
  | .tuple (.int i :: _) => i
  | _ => 0
def rowLe (d e : PyData) : Bool := decide (rowKey d ≤ rowKey e)
def sortRows (vs : List V) (ds : List PyData) : List V := ((vs.zip ds).mergeSort fun x y => rowLe x.2 y.2).map (·.1)
/-- sorted(e, key=lambda row: row[0]) -/
def tSortRow (K : PySem.W.Frag) (T : List (Addr × Str)) (t : TA) : TE := fun σ H Q => t σ H fun us H1 => ∃ a vs ds, us = [.ref a] ∧ SqL K H1 a vs ∧ DpAll K H1 vs ds ∧ (∀ d ∈ ds, ∃ i r, d = .tuple (.int i :: r)) ∧ LamX.Tabs T H1 ∧
  ∀ H2, LamX.ExtN H1 H2 → LamX.Tabs T H2 → ∀ p, H2 p = none → Q (.ref p) (upd H2 p (.lst (sortRows vs ds)))
theorem dp_zip {K : PySem.W.Frag} {H : Hp} : ∀ {vs : List V} {ds : List PyData}, DpAll K H vs ds → ∀ b ∈ vs.zip ds, Dp K H b.1 b.2
  | _, _, .nil, b, hb => by simp at hb
  | _, _, .cons h t, b, hb => by
    rw [List.zip_cons_cons] at hb
    rcases List.mem_cons.mp hb with rfl | hb
    · exact h
    · exact dp_zip t b hb
theorem each_zip {R : Value → V × PyData → Prop} : ∀ {vs : List V} {ds : List PyData} {us : List Value}, Vals vs us → vs.length = ds.length → (∀ b ∈ vs.zip ds, ∀ u, RelV b.1 u → R u b) → PySem.W.EachIs R us (vs.zip ds)
  | _, [], _, .nil, _, _ => .nil
  | _, _ :: _, _, .nil, e, _ => by simp at e
  | _, [], _, .cons _ _, e, _ => by simp at e
  | _, d :: ds, _, .cons h t, e, f => .cons (f _ (List.mem_cons_self ..) _ h) (each_zip t (by simpa using e) fun b hb => f b (List.mem_cons_of_mem _ hb))
theorem vals_each {R : Value → V × PyData → Prop} (f : ∀ u b, R u b → RelV b.1 u) : ∀ {us : List Value} {bs : List (V × PyData)}, PySem.W.EachIs R us bs → Vals (bs.map (·.1)) us
  | _, _, .nil => .nil
  | _, _, .cons h t => .cons (f _ _ h) (vals_each f t)
section
variable {X : Cx}
theorem pe_sortRow {T : List (Addr × Str)} {c P : Addr} {k : Nat} {e : Expr} {t : TA} {x sx : Str} {params : Arguments} {scope : Scope} {p p0 p1 p2 p3 kpos lpos : Pos} {j : Nat} {ky : Option Str}
    (hsx : sx = "sorted") (hky : ky = some (Str.ofString "key")) (hg : Gl X "sorted") (hm : X.mg "sorted" = none) (TB : LamX.TabB X.base X.mg c P) (hcode : X.env.code = .ref c)
    (hmT : (P, X.env.qual ++ "<lambda>") ∈ T) (hu : ∀ p ∈ T, p.1 = P → p.2 = X.env.qual ++ "<lambda>") (hr : Room k X.A) (L : Lam1 x params scope) (hx : (x == ("__debug__" : Str)) = false)
    (hdef : defaultsOf params X.env = ([], []))
    (hbind : ∀ (c' : Addr) (pm ctv v : Value), bindArgs (PySem.W.kla_fn "<lambda>" (X.env.qual ++ "<lambda>") params (.Subscript (.Name x p1) (.Constant (.int 0) j p2) p3) scope [] pm (.ref c') ctv) ⟨[v], []⟩ = pure [(x, v)])
    (ha : PA X [e] t) (he : backTo p (starEach [e] X.env) = (false, eval e X.env) :: backTo p (starEach [] X.env) := by rfl) (hpl : (backTo p (starEach [e] X.env)).any (·.1) = false := by rfl) :
    PE X (.Call (.Name sx p0) [e] [⟨ky, .Lambda params (.Subscript (.Name x p1) (.Constant (.int 0) j p2) p3) scope lpos, kpos⟩] p) (tSortRow X.K T t) := by
  subst hsx hky
  refine ⟨fun pins s σ H Q I h => ?_⟩
  refine wpAny_Call_Name_kw (ld_blt I hg hm boot_sorted ?_)
  refine PyProof.Rows.callWith_kw (thn (ha.run p pins s σ H _ I h) fun us s1 ⟨vs1, H1, I1, r1, q1⟩ => ?_) he hpl (by rfl) (by rfl)
  obtain ⟨a, vs, ds, rfl, hS, hD, hrow, hT, q⟩ := q1
  obtain ⟨u, rfl, ru⟩ : ∃ u, us = [u] ∧ RelV (.ref a) u := by
    cases r1 with
    | cons h t =>
      cases t
      exact ⟨_, rfl, h⟩
  cases ru
  have hclo : cloFrom X.env.cells scope.names [] = [] := by
    rw [L.names]
    rfl
  show wpAny _ _ (evalAll ((do let v ← eval _ X.env; standAt p; pure v) :: [])) _ _ s1
  refine wpAny_evalAll_cons (wpAny_bind (LamX.lam_make2 I1 TB hcode hmT hu hT hdef (fun y hy e => ?_) fun f c' pm ctv H2 s2 I2 eN T2 hf hfn hfr hco => wpAny_bind (wpAny_standAt (wpAny_pure (wpAny_evalAll_nil ?_)))))
  · rw [L.names] at hy
    have ey : y = (x, .local) := by simpa using hy
    rw [ey] at e
    cases e
  · rw [hclo] at hf
    show wpAny _ _ (call (.builtin "sorted") [.ref a] [(Str.ofString "key", .ref f)]) _ _ s2
    have hS2 : SqL X.K H2 a vs := by
      rcases hS with (h | ⟨o, h⟩) | h
      · exact .inl (.inl (eN _ _ h fun ps z => by cases z))
      · exact .inl (.inr ⟨o, eN _ _ h fun ps z => by cases z⟩)
      · exact .inr h
    have up : ∀ {v d}, Dp X.K H1 v d → (∃ i r, d = .tuple (.int i :: r)) → ∃ t ws, v = .ref t ∧ SqT X.K H2 t ws ∧ ws[0]? = some (.int (rowKey d)) := fun {v d} hd ⟨i, r, e⟩ => by
      subst e
      obtain ⟨t, ws, rfl, h1, h2⟩ := dp_tup hd
      refine ⟨t, ws, rfl, ?_, ?_⟩
      · rcases h1 with (h | ⟨o, h⟩) | h
        · exact .inl (.inl (eN _ _ h fun ps z => by cases z))
        · exact .inl (.inr ⟨o, eN _ _ h fun ps z => by cases z⟩)
        · exact .inr h
      · obtain ⟨v, e1, e2⟩ := dps_get h2 (i := 0) rfl
        rw [e1, dp_int e2]
        rfl
    obtain ⟨its, rv, pl, hz⟩ := I2.list hS2
    have hlen := dps_len hD
    have hlz : (vs.zip ds).length = vs.length := by rw [List.length_zip]; omega
    have hA := hr.dp
    have hU := hr.un
    obtain ⟨⟨oc, cvs, tq, hoc, hdc, hvc⟩, _, _⟩ := I2.hok c' _ hco
    refine PySem.W.sorted_key_data (b := false) (R := fun u (b : V × PyData) => RelV b.1 u) (fun b : V × PyData => .int (rowKey b.2)) pl.isList (each_zip rv hlen fun b _ u h => h) (PySem.W.AllAlike.of fun _ _ => rfl) (PySem.W.Sortable.others fun _ => ⟨fun z => (nomatch z), fun xs z => (nomatch z)⟩) (by rw [hlz]; exact hz)
      (fun b _ => ?_) (ksk_s1 _ _) (fun _ => ksk_l1 _ _) (fun _ => ksk_t1 _ _) (fun u b hR hb g tk kp => ?_) fun out cc h' tk kp fr hat hl hE => ?_
    · show X.A.units + 2 + (PyData.int (rowKey b.2)).depth < cLine
      have : (PyData.int (rowKey b.2)).depth = 0 := by simp [PyData.depth]
      omega
    · obtain ⟨t, ws, e1, h1, h2⟩ := up (dp_zip hD b hb) (hrow _ (List.of_mem_zip hb).2)
      rw [e1] at hR
      cases hR
      obtain ⟨its2, rv2, ⟨o, ho, hcl, n, hdt⟩, _⟩ := I2.tuple h1
      obtain ⟨u0, g1, g2⟩ := rv2.get h2
      obtain ⟨tk0, rfl⟩ := g2
      exact lam_turn (s := { s2 with heap := g, toks := tk }) L (kp _ _ hf) (fun v => hbind c' pm ctv v) ⟨c', oc, cvs, tq, rfl, kp _ _ hoc, hdc, hvc⟩ ⟨o, kp _ _ ho, hcl, n, hdt⟩ (by simpa using g1) (by show X.A.depth < _; omega) (I2.nolimit.keeps kp) hx
    · have eo : PySem.W.dataLe false (fun b : V × PyData => .int (rowKey b.2)) = fun x y => rowLe x.2 y.2 := PySem.W.dataLe_int (β := V × PyData) fun b => rowKey b.2
      rw [eo] at hE
      have hv : Vals (sortRows vs ds) out := vals_each (fun _ _ h => h) hE
      have hls : (sortRows vs ds).length ≤ sizeLine := by
        unfold sortRows
        rw [List.length_map, List.length_mergeSort, hlz]
        exact hz
      have hp : s2.heap.objs.size ≤ s2.heap.objs.size + 1 := Nat.le_succ _
      exact ⟨.ref _, upd H2 (s2.heap.objs.size + 1) (.lst (sortRows vs ds)), I2.laid (t' := tk) kp hp ⟨hls, out, cc, hv, hat⟩, rfl, q H2 eN T2 _ (I2.hok.fresh hp)⟩
end

section
variable {K : PySem.W.Frag} {T : List (Addr × Str)} {ss : SS} {st : Sto} {Φ : Val → Sto → Prop}
theorem dps_pairs {F : Hp} : ∀ {ps : List (V × PyData)}, (∀ b ∈ ps, Dp K F b.1 b.2) → DpAll K F (ps.map (·.1)) (ps.map (·.2))
  | [], _ => .nil
  | b :: ps, h => .cons (h b (List.mem_cons_self ..)) (dps_pairs fun c hc => h c (List.mem_cons_of_mem _ hc))
theorem dps_sort {F : Hp} {vs : List V} {ds : List PyData} (h : DpAll K F vs ds) : DpAll K F (sortRows vs ds) (ds.mergeSort rowLe) := by
  have e : ds.mergeSort rowLe = ((vs.zip ds).mergeSort fun x y => rowLe x.2 y.2).map (·.2) := by
    rw [List.map_mergeSort (s := rowLe) (f := fun b : V × PyData => b.2) (fun a _ b _ => rfl)]
    congr 1
    show ds = (vs.zip ds).map Prod.snd
    rw [List.map_snd_zip]
    rw [dps_len h]
    exact Nat.le_refl _
  rw [e]
  exact dps_pairs fun b hb => dp_zip h b (List.mem_mergeSort.mp hb)
theorem Rel.growN {α : Nat → Addr} {F H H' : Hp} (r : Rel K T α F H st) (s : LamX.ExtN H H') (t : LamX.Tabs T H') : Rel K T α F H' st :=
  ⟨fun a o e => s a o (r.sub a o e) fun ps z => r.nt a ps (by rw [e, z]), r.nt, t, fun n xs e => let ⟨h1, vs, h2, h3⟩ := r.mu n xs e; ⟨h1, vs, s _ _ h2 (fun ps z => by cases z), h3⟩, r.fr, r.inj⟩
theorem we_sortRow {t : TA} (h : WA K T t ss st fun xs st1 => ∃ x ds, xs = [x] ∧ look x st1 = some (.list ds) ∧ (∀ d ∈ ds, ∃ i r, d = .tuple (.int i :: r)) ∧ Φ (.pd (.list (ds.mergeSort rowLe))) st1) :
    WE K T (tSortRow K T t) ss st Φ := fun α F H σ r s Q k => h α F H σ r s _ fun α1 F1 H1 us xs st1 n1 r1 v1 ⟨x, ds, e, hl, hrow, hq⟩ => by
  subst e
  obtain ⟨v, rfl, hv⟩ := vrs1 v1
  obtain ⟨a, vs, rfl, hS, hD⟩ := look_lst r1 hv hl
  refine ⟨a, vs, ds, rfl, hS, dpsm r1.sub hD, hrow, r1.tab, fun H2 eN T2 p hp => ?_⟩
  have r2 := r1.growN eN T2
  have hF := none_of r2 hp
  exact k α1 (upd F1 p (.lst (sortRows vs ds))) _ (.ref p) (.pd _) st1 (n1.trans (Nx.new hF)) (r2.new hp fun ps z => by cases z) (Dp.lst (.inl (.inl upd_same)) (dpsm (same_upd hF) (dps_sort hD))) hq
end
end Ct

/-! CtD: rules that join forms (int + int or list + list; an item of a list or a tuple; a tuple or a list unpacked), calls of defs by one fact, isinstance. -/
namespace Ct
open PySem L2 PyProof.Rows

def rOr (r r' : R2) : R2 := fun x y H Q => r x y H Q ∨ r' x y H Q
theorem OpR.or {X : Cx} {f : Value → Value → Sem Value} {r r' : R2} (h : OpR X f r) (h' : OpR X f r') : OpR X f (rOr r r') := by
  intro pins s σ H x y v u Q I rx ry q
  rcases q with q | q
  · exact h pins s σ H x y v u Q I rx ry q
  · exact h' pins s σ H x y v u Q I rx ry q
theorem op_addU {X : Cx} : OpR X (binaryOp .Add) (rOr (rI0 fun i j => .int (i + j)) (rCatS X.K)) := OpR.or op_add op_catS
def gOr (t t' : TG) : TG := fun v σ H Q => t v σ H Q ∨ t' v σ H Q
theorem pg_or {X : Cx} {e : Expr} {t t' : TG} (h : PG X e t) (h' : PG X e t') : PG X e (gOr t t') := by
  refine ⟨fun pins s σ H v u Q I r q => ?_⟩
  rcases q with q | q
  · exact h.run pins s σ H v u Q I r q
  · exact h'.run pins s σ H v u Q I r q
/-- a def that is called: its promise, its name, how it binds -/
structure Cal (P : Program) (w : World) (K : PySem.W.Frag) (mg : Str → Option Value) (base : Heap) (k : Nat) (x : Str) (ps : List Str) (sp : Sp) : Prop where
  ex : ∃ (f : Addr) (fd : FuncData), FnOk P w K mg base CX0 k f fd ps sp ∧ mg x = some (.ref f) ∧ PySem.W.keepIn K (.ref f) = true ∧ Binds K fd ps []
theorem pe_callC {X : Cx} {k : Nat} {x : Str} {ps : List Str} {sp : Sp} {p pos : Pos} {e : Expr} {es : List Expr} {t : TA} (c : Cal X.prog X.w X.K X.mg X.base k x ps sp) (hr : Room k X.A) (hg : Gl X x) (ha : PA X (e :: es) t) (hdb : (x == ("__debug__" : Str)) = false := by decide)
    (he : starEach (e :: es) X.env = (false, eval e X.env) :: starEach es X.env := by rfl) (hpl : (backTo pos (starEach es X.env)).any (·.1) = false := by rfl) :
    PE X (.Call (.Name x p) (e :: es) [] pos) (tCall sp [] E0 t) := by
  obtain ⟨f, fd, F, hm, kp, b⟩ := c.ex
  exact pe_call F hr hg hm kp b .nil pass0 ha hdb he hpl
/-- a def as it stands behind the top -/
def Df (K : PySem.W.Frag) (mg : Str → Option Value) (x : Str) (st : Stmt) : Prop := ∃ (f : Addr) (fd : FuncData), Fun K x x st f fd ∧ mg x = some (.ref f)
theorem Df.cal {P : Program} {w : World} {K : PySem.W.Frag} {mg : Str → Option Value} {base : Heap} {k : Nat} {x : Str} {st : Stmt} {ps : List Str} {sp : Sp} (d : Df K mg x st) (h : ∀ (f : Addr) (fd : FuncData), Fun K x x st f fd → FnOk P w K mg base CX0 k f fd ps sp)
    (b : ∀ (kV doc pm : Value) (an : Option Addr) (cdv ct : Value) (us : List Value), us.length = ps.length → bindArgs (PySem.W.fnOf x x (defArgs st) (defBody st) (defScope st) .none kV doc pm an cdv ct) ⟨us, []⟩ = pure (ps.zip us)) : Cal P w K mg base k x ps sp := by
  obtain ⟨f, fd, F, m⟩ := d
  exact ⟨f, fd, h f fd F, m, F.kp, F.binds b⟩

section
variable {K : PySem.W.Frag} {T : List (Addr × Str)} {ss : SS} {st : Sto} {Φ : Val → Sto → Prop} {te ta tb tc tl : TE} {tt tu : TT} {P : Po} {Y : SS → Sto → Prop}
theorem wr_addI {i j : Int} {r' : R2} (q : Φ (.pd (.int (i + j))) st) : WR K T (rOr (rI0 fun i j => .int (i + j)) r') (.pd (.int i)) (.pd (.int j)) st Φ := fun α F H vx vy r hx hy Q k => .inl (wr_I0 rfl q α F H vx vy r hx hy Q k)
theorem wr_addL {x y : Val} {xs ys : List PyData} {r0 : R2} (hn : look x st = some (.list xs)) (hm : look y st = some (.list ys)) (hl : xs.length + ys.length ≤ sizeLine) (q : Φ (.pd (.list (xs ++ ys))) st) : WR K T (rOr r0 (rCatS K)) x y st Φ :=
  fun α F H vx vy r hx hy Q k => .inr (wr_catS hn hm hl q α F H vx vy r hx hy Q k)
theorem wr_ixuL {x : Val} {ds : List PyData} {i : Int} {d : PyData} (h : look x st = some (.list ds)) (e : atI ds i = some d) (q : Φ (.pd d) st) : WR K T (rIx K) x (.pd (.int i)) st Φ := fun α F H vx vy r hx hy Q k => .inl (wr_ixL h e q α F H vx vy r hx hy Q k)
theorem wr_ixuT {ds : List PyData} {i : Int} {d : PyData} (e : atI ds i = some d) (q : Φ (.pd d) st) : WR K T (rIx K) (.pd (.tuple ds)) (.pd (.int i)) st Φ := fun α F H vx vy r hx hy Q k => .inr (.inl (wr_ixT e q α F H vx vy r hx hy Q k))
theorem wg_orT {n : Nat} {gs : TGs} {g' : TG} {ds : List PyData} (hn : ds.length = n) (h : WGs K T gs (ds.map Val.pd) ss st Y) : WG K T (gOr (gTup K n gs) g') (.pd (.tuple ds)) ss st Y := fun α F H σ v r s hv Q k => .inl (wg_tup hn h α F H σ v r s hv Q k)
theorem wg_orL {n : Nat} {gs : TGs} {g' : TG} {ds : List PyData} (hn : ds.length = n) (h : WGs K T gs (ds.map Val.pd) ss st Y) : WG K T (gOr g' (gUnl K n gs)) (.pd (.list ds)) ss st Y := fun α F H σ v r s hv Q k => .inr (wg_unl hn h α F H σ v r s hv Q k)
/-- x in a list of flat data, by eqv -/
def pyTy : PyData → String
  | .none => "NoneType"
  | .bool _ => "bool"
  | .int _ => "int"
  | .str _ => "str"
  | .list _ => "list"
  | .tuple _ => "tuple"
  | .dict _ => "dict"
theorem ty_of {F : Hp} {v : V} {d : PyData} (h : Dp K F v d) : TyX K F v (.type (pyTy d)) := by
  cases h with
  | non => exact .base .non
  | bl b => exact .base (.bl b)
  | int i => exact .base (.int i)
  | str x => exact .base (.str x)
  | lst h t =>
    rcases h with (h | ⟨o, h⟩) | ⟨o, its, n, h1, h2, _⟩
    · exact .base (.lst h)
    · exact .base (.frz h)
    · exact .kList h1 h2
  | tup h t =>
    rcases h with (h | ⟨o, h⟩) | ⟨o, its, n, h1, h2, _⟩
    · exact .base (.tup h)
    · exact .fTuple h
    · exact .kTuple h1 h2
theorem wc_isi {x : Val} {d : PyData} {c : String} {b : Bool} (hl : look x st = some d) (hk : PySem.W.kitOne K (.type (pyTy d)) (.type c) = some b) (q : Φ (.pd (.bool b)) st) : WC K T (rIsi K) [x, .ty c] st Φ := fun α F H vs r hv Q k => by
  obtain ⟨v, w, rfl, h1, h2⟩ := vrs2 hv
  have h2 : w = .ty c := h2
  subst h2
  exact ⟨v, .ty c, _, .type c, b, rfl, .ty c, ty_of (look_ok r h1 hl), hk, k α F H _ (.pd _) st Nx.refl r (Dp.bl _) q⟩
def inD (d : PyData) (ds : List PyData) : Bool := ds.any fun e => PyData.eqv e d
def flatD : PyData → Bool
  | .none => true
  | .bool _ => true
  | .int _ => true
  | .str _ => true
  | _ => false
theorem flat_ok {F : Hp} {v : V} {d : PyData} (h : Dp K F v d) (f : flatD d = true) : flatV v = true := by
  cases h with
  | non => rfl
  | bl b => rfl
  | int i => rfl
  | str x => rfl
  | lst h t => cases f
  | tup h t => cases f
theorem flats_ok {F : Hp} : ∀ {vs : List V} {ds : List PyData}, DpAll K F vs ds → ds.all flatD = true → vs.all flatV = true
  | _, _, .nil, _ => rfl
  | _, _, .cons h t, f => by
    rw [List.all_cons, Bool.and_eq_true] at f
    rw [List.all_cons, flat_ok h f.1, flats_ok t f.2]
    rfl
theorem eqV_ok {F : Hp} {v w : V} {d e : PyData} (h : Dp K F v d) (g : Dp K F w e) (f : flatD d = true) (f2 : flatD e = true) : eqV v w = PyData.eqv d e := by
  cases h <;> cases g <;> first | cases f; done | cases f2; done | (simp [eqV, PyData.eqv]; done) | skip
theorem inV_ok {F : Hp} {v : V} {d : PyData} (h : Dp K F v d) (f : flatD d = true) : ∀ {vs : List V} {ds : List PyData}, DpAll K F vs ds → ds.all flatD = true → inV v vs = inD d ds
  | _, _, .nil, _ => rfl
  | _, _, .cons g t, f2 => by
    rw [List.all_cons, Bool.and_eq_true] at f2
    have := inV_ok h f t f2.2
    unfold inV inD at this ⊢
    rw [List.any_cons, List.any_cons, this, eqV_ok g h f2.1 f]
theorem wr_in {y : Val} {d : PyData} {ds : List PyData} (hl : look y st = some (.list ds)) (f : flatD d = true) (f2 : ds.all flatD = true) (q : Φ (.pd (.bool (inD d ds))) st) : WR K T (rIn K false) (.pd d) y st Φ := fun α F H vx vy r hx hy Q k => by
  obtain ⟨a, vs, rfl, h1, h2⟩ := look_lst r hy hl
  refine ⟨a, vs, rfl, .inl h1, flat_ok hx f, flats_ok h2 f2, k α F H _ (.pd (.bool (inD d ds))) st Nx.refl r ?_ q⟩
  rw [inV_ok hx f h2 f2]
  exact Dp.bl _
theorem eqv_int (i j : Int) : PyData.eqv (.int i) (.int j) = (i == j) := by simp [PyData.eqv]
theorem eqv_str (i j : Str) : PyData.eqv (.str i) (.str j) = (i == j) := by simp [PyData.eqv]
theorem shaped_int (i : Int) : SeqAt.shaped (.int i) = true := by simp [SeqAt.shaped, PyData.canLay0, PyData.depth]
theorem shaped_none : SeqAt.shaped .none = true := by simp [SeqAt.shaped, PyData.canLay0, PyData.depth]
end
end Ct
namespace Ct
open PySem L2
theorem room_u {k : Nat} {A : Around} (hr : Room k A) : A.units + 64 < cLine := by
  have := hr.un
  omega
end Ct
namespace Ct
open PySem L2
theorem pe_tyN {X : Cx} {x : Str} {n : String} {pos : Pos} (hg : Gl X x) (hm : X.mg x = none) (hv : bootBuiltins x = some (.type n)) (hn : x ≠ "__name__" := by decide) (hd : (x == ("__debug__" : Str)) = false := by decide) : PE X (.Name x pos) (tC (.ty n)) := pe_bltn hg hm hv rfl hn hd
end Ct
namespace Ct
open PySem L2
section
variable {K : PySem.W.Frag} {T : List (Addr × Str)} {ss : SS} {st : Sto} {Φ : Val → Sto → Prop}
theorem wr_mul {i j : Int} (h : CMul i j) (q : Φ (.pd (.int (i * j))) st) : WR K T (rI CMul fun i j => .int (i * j)) (.pd (.int i)) (.pd (.int j)) st Φ := wr_I h rfl q
theorem wr_mod {i j : Int} (h : 0 < j) (q : Φ (.pd (.int (i % j))) st) : WR K T (rI (fun _ j => 0 < j) fun i j => .int (i % j)) (.pd (.int i)) (.pd (.int j)) st Φ := wr_I h rfl q
theorem wr_div {i j : Int} (h : 0 < j ∧ j < 1073741824) (q : Φ (.pd (.int (i / j))) st) : WR K T (rI CDiv fun i j => .int (i / j)) (.pd (.int i)) (.pd (.int j)) st Φ := wr_I h rfl q
theorem wr_pow {i j : Int} (h : CPow i j) (q : Φ (.pd (.int (i ^ j.toNat))) st) : WR K T (rI CPow fun i j => .int (i ^ j.toNat)) (.pd (.int i)) (.pd (.int j)) st Φ := wr_I h rfl q
theorem wr_sub {i j : Int} (q : Φ (.pd (.int (i - j))) st) : WR K T (rI0 fun i j => .int (i - j)) (.pd (.int i)) (.pd (.int j)) st Φ := wr_I0 rfl q
theorem wr_lt {i j : Int} (q : Φ (.pd (.bool (decide (i < j)))) st) : WR K T (rI0 fun i j => .bl (decide (i < j))) (.pd (.int i)) (.pd (.int j)) st Φ := wr_I0 rfl q
theorem wr_le {i j : Int} (q : Φ (.pd (.bool (decide (i ≤ j)))) st) : WR K T (rI0 fun i j => .bl (decide (i ≤ j))) (.pd (.int i)) (.pd (.int j)) st Φ := wr_I0 rfl q
theorem wr_eqInt {i j : Int} (q : Φ (.pd (.bool (decide (i = j)))) st) : WR K T (rEqD K) (.pd (.int i)) (.pd (.int j)) st Φ := wr_eqD rfl rfl (shaped_int i) (shaped_int j) (by
  rw [eqv_int, show (i == j) = decide (i = j) from rfl]
  exact q)
theorem wr_neInt {i j : Int} (q : Φ (.pd (.bool (!decide (i = j)))) st) : WR K T (rNeD K) (.pd (.int i)) (.pd (.int j)) st Φ := wr_neD rfl rfl (shaped_int i) (shaped_int j) (by
  rw [eqv_int, show (i == j) = decide (i = j) from rfl]
  exact q)
theorem wr_eqStr {i j : Str} (hi : SeqAt.shaped (.str i) = true) (hj : SeqAt.shaped (.str j) = true) (q : Φ (.pd (.bool (decide (i = j)))) st) : WR K T (rEqD K) (.pd (.str i)) (.pd (.str j)) st Φ := wr_eqD rfl rfl hi hj (by
  have e : PyData.eqv (.str i) (.str j) = decide (i = j) := by
    rw [eqv_str]
    by_cases h : i = j
    · subst h
      simp
    · simp [h]
  rw [e]
  exact q)
theorem wr_neStr {i j : Str} (hi : SeqAt.shaped (.str i) = true) (hj : SeqAt.shaped (.str j) = true) (q : Φ (.pd (.bool (!decide (i = j)))) st) : WR K T (rNeD K) (.pd (.str i)) (.pd (.str j)) st Φ := wr_neD rfl rfl hi hj (by
  have e : PyData.eqv (.str i) (.str j) = decide (i = j) := by
    rw [eqv_str]
    by_cases h : i = j
    · subst h
      simp
    · simp [h]
  rw [e]
  exact q)
end
end Ct
namespace Ct
open PySem L2
theorem big_lt {n : Nat} (h : n < 1000000) : n < sizeLine := Nat.lt_of_lt_of_le h (by decide)
theorem big_le {n : Nat} (h : n ≤ 1000000) : n ≤ sizeLine := Nat.le_trans h (by decide)
theorem look_end {st0 jk : Sto} {xs : List PyData} : look (.cell st0.length) (st0 ++ (.mu xs :: jk)) = some (.list xs) := by
  unfold look
  simp
theorem get_end {st0 jk : Sto} {c : Cell} : (st0 ++ (c :: jk))[st0.length]? = some c := by simp
theorem set_end {st0 jk : Sto} {c c' : Cell} : (st0 ++ (c :: jk)).set st0.length c' = st0 ++ (c' :: jk) := by simp
theorem pur_end {st0 jk : Sto} {xs : List PyData} : pur (.cell st0.length) (st0 ++ (.mu xs :: jk)) = some (.list xs, st0 ++ (.fr xs :: jk)) := by
  unfold pur
  simp
theorem pur_endF {st0 jk : Sto} {xs : List PyData} : pur (.cell st0.length) (st0 ++ (.fr xs :: jk)) = some (.list xs, st0 ++ (.fr xs :: jk)) := by
  unfold pur
  simp
section
variable {K : PySem.W.Frag} {T : List (Addr × Str)} {ss : SS} {st : Sto} {Φ : Val → Sto → Prop} {te : TE} {P : Po}
theorem ws_appEnd {i : Nat} {st0 jk : Sto} {xs : List PyData} (hi : ss[i]? = some (some (.cell st0.length))) (hl : xs.length < 1000000)
    (h : WE K T te ss (st0 ++ (.mu xs :: jk)) fun x st2 => ∃ d jk2, x = .pd d ∧ st2 = st0 ++ (.mu xs :: jk2) ∧ P.nx ss (st0 ++ (.mu (xs ++ [d]) :: jk2))) : WS K T (tDrop (tBM K "list" rAppend (tVar i) (tCons te tNil))) ss (st0 ++ (.mu xs :: jk)) P := by
  refine ws_app (we_var hi ⟨_, _, rfl, get_end, we_mono h ?_⟩)
  rintro x st' ⟨d, jk2, rfl, rfl, q⟩
  refine ⟨d, _, xs, rfl, get_end, big_lt hl, ?_⟩
  rw [set_end]
  exact q
/-- return of a cell of the body's own: plain -/
theorem ws_retEnd {i : Nat} {st0 jk : Sto} {xs : List PyData} (hi : ss[i]? = some (some (.cell st0.length))) (q : P.rt (.pd (.list xs)) (st0 ++ (.fr xs :: jk))) : WS K T (tRet (tVar i)) ss (st0 ++ (.mu xs :: jk)) P :=
  ws_ret (we_pur (we_var hi ⟨_, _, pur_end, q⟩))
theorem fin_end {d : PyData} {st jk : Sto} (h : Φ (.pd d) st) : Fin st.length Φ (.pd d) (st ++ jk) := fin_pd (by simp) h
end
open PyData
theorem canLayAll_iff : ∀ {ds : List PyData}, (∀ d ∈ ds, d.canLay0 = true) → PyData.canLayAll0 ds = true
  | [], _ => by simp [PyData.canLayAll0]
  | d :: ds, h => by
    rw [PyData.canLayAll0, h d (List.mem_cons_self ..), canLayAll_iff fun e he => h e (List.mem_cons_of_mem _ he)]
    rfl
theorem depthAll_le {k : Nat} : ∀ {ds : List PyData}, (∀ d ∈ ds, d.depth ≤ k) → PyData.depthAll ds ≤ k
  | [], _ => by simp [PyData.depthAll]
  | d :: ds, h => by
    rw [PyData.depthAll]
    exact Nat.max_le.mpr ⟨h d (List.mem_cons_self ..), depthAll_le fun e he => h e (List.mem_cons_of_mem _ he)⟩
/-- may be compared, k deep -/
def Sh (k : Nat) (d : PyData) : Prop := d.canLay0 = true ∧ d.depth ≤ k
theorem Sh.shaped {k : Nat} {d : PyData} (h : Sh k d) (hk : k ≤ 64 := by decide) : SeqAt.shaped d = true := by
  unfold SeqAt.shaped
  rw [h.1]
  exact decide_eq_true (Nat.le_trans h.2 hk)
theorem sh_int {k : Nat} (i : Int) : Sh k (.int i) := ⟨by simp [PyData.canLay0], by simp [PyData.depth]⟩
theorem sh_none {k : Nat} : Sh k .none := ⟨by simp [PyData.canLay0], by simp [PyData.depth]⟩
theorem sh_bool {k : Nat} (b : Bool) : Sh k (.bool b) := ⟨by simp [PyData.canLay0], by simp [PyData.depth]⟩
theorem sh_list {k : Nat} {ds : List PyData} (h : ∀ d ∈ ds, Sh k d) : Sh (k + 1) (.list ds) := ⟨by rw [PyData.canLay0]; exact canLayAll_iff fun d hd => (h d hd).1, by rw [PyData.depth]; exact Nat.succ_le_succ (depthAll_le fun d hd => (h d hd).2)⟩
theorem sh_tuple {k : Nat} {ds : List PyData} (h : ∀ d ∈ ds, Sh k d) : Sh (k + 1) (.tuple ds) := ⟨by rw [PyData.canLay0]; exact canLayAll_iff fun d hd => (h d hd).1, by rw [PyData.depth]; exact Nat.succ_le_succ (depthAll_le fun d hd => (h d hd).2)⟩
theorem eqv_list (xs ys : List PyData) : PyData.eqv (.list xs) (.list ys) = PyData.eqvAll xs ys := by simp [PyData.eqv]
theorem eqv_tuple (xs ys : List PyData) : PyData.eqv (.tuple xs) (.tuple ys) = PyData.eqvAll xs ys := by simp [PyData.eqv]
theorem eqvAll_cons (x y : PyData) (xs ys : List PyData) : PyData.eqvAll (x :: xs) (y :: ys) = (PyData.eqv x y && PyData.eqvAll xs ys) := by simp [PyData.eqvAll]
theorem eqvAll_nil : PyData.eqvAll [] [] = true := by simp [PyData.eqvAll]
theorem eqvAll_nil_cons (y : PyData) (ys : List PyData) : PyData.eqvAll [] (y :: ys) = false := by simp [PyData.eqvAll]
theorem eqvAll_cons_nil (y : PyData) (ys : List PyData) : PyData.eqvAll (y :: ys) [] = false := by simp [PyData.eqvAll]
/-- lists of like things -/
theorem eqvAll_map {α : Type} [DecidableEq α] {f : α → PyData} (h : ∀ x y, PyData.eqv (f x) (f y) = decide (x = y)) : ∀ xs ys : List α, PyData.eqvAll (xs.map f) (ys.map f) = decide (xs = ys)
  | [], [] => by simp [PyData.eqvAll]
  | [], y :: ys => by simp [PyData.eqvAll]
  | x :: xs, [] => by simp [PyData.eqvAll]
  | x :: xs, y :: ys => by
    rw [List.map_cons, List.map_cons, eqvAll_cons, h, eqvAll_map h xs ys]
    by_cases e : x = y <;> by_cases e2 : xs = ys <;> simp [e, e2]
end Ct
namespace Ct
open PySem L2
theorem purs_nil {st : Sto} : purs [] st = some ([], st) := rfl
theorem purs_cons {d : PyData} {xs : List Val} {ds : List PyData} {st st' : Sto} (h : purs xs st = some (ds, st')) : purs (.pd d :: xs) st = some (d :: ds, st') := by
  unfold purs
  rw [show pur (.pd d) st = some (d, st) from rfl]
  simp [h]
end Ct
namespace Ct
open PySem L2
section
variable {K : PySem.W.Frag} {T : List (Addr × Str)} {ss : SS} {st : Sto} {Φ : Val → Sto → Prop} {te : TE} {P : Po}
theorem ws_sA {g : TG} {u : TS} (h : WE K T te ss st fun x st1 => WG K T g x ss st1 fun ss2 st2 => WS K T u ss2 st2 P) : WS K T (tSeq (tAsg te g) u) ss st P := ws_seq (ws_asg h)
theorem ws_sD {u : TS} (h : WS K T (tDrop te) ss st { P with nx := fun ss1 st1 => WS K T u ss1 st1 P }) : WS K T (tSeq (tDrop te) u) ss st P := ws_seq h
theorem ws_sG {i : Nat} {u : TS} {f : Int → Int → Int} {a : Int} (hx : ss[i]? = some (some (.pd (.int a)))) (h : WE K T te ss st fun y st1 => ∃ b, y = .pd (.int b) ∧ WS K T u (ss.set i (some (.pd (.int (f a b))))) st1 P) : WS K T (tSeq (tAug i te (ipI f)) u) ss st P := ws_seq (ws_aug hx h)
theorem ws_sS {to ti : TE} {tg : V → V → Hp → VK → Prop} {tip : TIp} {ts : TSet} {u : TS} (h : WS K T (tAugS to ti te tg tip ts) ss st { P with nx := fun ss1 st1 => WS K T u ss1 st1 P }) : WS K T (tSeq (tAugS to ti te tg tip ts) u) ss st P := ws_seq h
/-- a statement, a word, the rest -/
theorem ws_mid {t u : TS} (Mid : SS → Sto → Prop) (h : WS K T t ss st { P with nx := Mid }) (k : ∀ (ss' : SS) (st' : Sto), Mid ss' st' → WS K T u ss' st' P) : WS K T (tSeq t u) ss st P := fun α F H σ r s D o =>
  ws_seq (fun α F H σ r s D o => h α F H σ r s D ⟨fun α1 F1 H1 σ1 ss1 st1 n1 r1 s1 m => o.nx α1 F1 H1 σ1 ss1 st1 n1 r1 s1 (k ss1 st1 m), o.rt, o.bk, o.ct⟩) α F H σ r s D o
end
end Ct
namespace Ct
open PySem L2
section
variable {K : PySem.W.Frag} {T : List (Addr × Str)} {ss : SS} {st : Sto} {Φ : Val → Sto → Prop} {te : TE} {P : Po}
theorem wx_end {st0 jk : Sto} {xs : List PyData} {i : Int} {j : Nat} {d : PyData} {Y : Sto → Prop} (hj : ixN xs.length i = some j) (q : Y (st0 ++ (.mu (xs.set j d) :: jk))) : WX K T rSetL (.cell st0.length) (.pd (.int i)) (.pd d) (st0 ++ (.mu xs :: jk)) Y := by
  refine wx_list get_end hj ?_
  rw [set_end]
  exact q
theorem ixN_last {n : Nat} (h : 0 < n) : ixN n (-1) = some (n - 1) := by
  unfold ixN
  rw [if_neg (by omega), if_pos (by omega)]
  congr 1
  omega
theorem set_last {α : Type} (xs : List α) (x y : α) : (xs ++ [x]).set ((xs ++ [x]).length - 1) y = xs ++ [y] := by simp
end
/-- a def with a lambda in it -/
def lamQ (x : Str) : Str := x ++ ".<locals>." ++ "<lambda>"
structure Gath (K : PySem.W.Frag) (base : Heap) (mg : Str → Option Value) (T : List (Addr × Str)) (x : Str) (st : Stmt) : Prop where
  ex : ∃ (f c P : Addr) (oc : Value) (od : Option Addr) (kV doc pm : Value) (an : Option Addr) (ct : Value) (osl : Array (Option Value)), K.lookup f = some ⟨oc, od, .func (PySem.W.fnOf x x (defArgs st) (defBody st) (defScope st) .none kV doc pm an (.ref c) ct), osl⟩ ∧
    PySem.W.codeIn K (.ref c) x = true ∧ PySem.W.keepIn K (.ref f) = true ∧ mg x = some (.ref f) ∧ LamX.TabB base mg c P ∧ T = [(P, lamQ x)]
theorem gath_cal {P : Program} {w : World} {K : PySem.W.Frag} {mg : Str → Option Value} {base : Heap} {T : List (Addr × Str)} {k : Nat} {x : Str} {st : Stmt} {N ps : List Str} {sp : Sp} (g : Gath K base mg T x st) (S : FnScope N ps (defScope st)) (len : ∀ vs H Q E, sp vs H Q E → vs.length = ps.length)
    (b : ∀ (kV doc pm : Value) (an : Option Addr) (cdv ct : Value) (us : List Value), us.length = ps.length → bindArgs (PySem.W.fnOf x x (defArgs st) (defBody st) (defScope st) .none kV doc pm an cdv ct) ⟨us, []⟩ = pure (ps.zip us))
    (hbody : ∀ (f c P1 : Addr), LamX.TabB base mg c P1 → (P1, lamQ x) ∈ T → (∀ p ∈ T, p.1 = P1 → p.2 = lamQ x) → ∀ (A : Around) (outer : List Env) (s : Shared) (H : Hp) (vs : List V) (Q : VK) (E : XK), Room k (A.deeper (PyProof.Rows.envOfC x (defScope st) s.heap.objs.size f (.ref c))) → sp vs H Q E →
      ∃ t, PSs (cxOf CX0 P w K mg base N x (defScope st) f (.ref c) A outer s H E).nox (defBody st) t ∧ t { nx := fun _ H' => Q .non H', rt := Q } (L2.start N vs) H) : Cal P w K mg base (k + 1) x ps sp := by
  obtain ⟨f, c, P1, oc, od, kV, doc, pm, an, ct, osl, lk, hcd, kp, hm, TB, rfl⟩ := g.ex
  refine ⟨f, _, fn_of lk hcd S len fun A outer s H vs Q E hr h => ?_, hm, kp, .all (b kV doc pm an (.ref c) ct)⟩
  obtain ⟨t, h1, h2⟩ := hbody f c P1 TB (List.mem_singleton.mpr rfl) (fun p hp _ => by rw [List.mem_singleton.mp hp]) A outer s H vs Q E hr h
  exact ⟨t, h1.nox, h2⟩
end Ct
namespace Ct
open PySem L2
section
variable {K : PySem.W.Frag} {T : List (Addr × Str)} {ss : SS} {st : Sto} {X : SS → Sto → Prop}
theorem wgs_consM {g : TG} {gs : TGs} {d : PyData} {ds : List PyData} (h : WG K T g (.pd d) ss st fun ss1 st1 => WGs K T gs (ds.map Val.pd) ss1 st1 X) : WGs K T (gCons g gs) ((d :: ds).map Val.pd) ss st X := wgs_cons h
theorem wgs_nilM (q : X ss st) : WGs K T gNil (([] : List PyData).map Val.pd) ss st X := wgs_nil q
end
end Ct
namespace Ct
theorem take_snoc {st : Sto} {c : Cell} : (st ++ [c]).take (st.length + 1) = st ++ [c] := List.take_of_length_le (by simp)
end Ct
namespace Ct
open PySem L2
section
variable {X : Cx} {K : PySem.W.Frag}
theorem op_addK (h : X.K = K) : OpR X (binaryOp .Add) (rOr (rI0 fun i j => .int (i + j)) (rCatS K)) := by subst h; exact op_addU
theorem op_eqK (h : X.K = K) (hu : X.A.units + 64 < cLine) : OpR X (compareOp .Eq) (rEqD K) := by subst h; exact op_eqD hu
theorem op_neK (h : X.K = K) (hu : X.A.units + 64 < cLine) : OpR X (compareOp .NotEq) (rNeD K) := by subst h; exact op_neD hu
theorem op_inK (h : X.K = K) : OpR X (compareOp .In) (rIn K false) := by subst h; exact op_in_seq
theorem ix_seqK (h : X.K = K) : IxR X (rIx K) := by subst h; exact ix_seq
theorem sl_listK (h : X.K = K) : SlR X (rSlL K) := by subst h; exact sl_list
theorem call_isiK (h : X.K = K) : CallR X (.builtin "isinstance") (rIsi K) := by subst h; exact call_isi
theorem call_lenK (h : X.K = K) : CallR X (.builtin "len") (fun xs H Q => ∃ p ys, xs = [.ref p] ∧ (SqL K H p ys ∨ SqT K H p ys) ∧ Q (.int ys.length) H) := by subst h; exact call_len_seq
theorem call_listK (h : X.K = K) : CallR X (.type "list") (fun xs H Q => ∃ p ys, xs = [.ref p] ∧ (SqL K H p ys ∨ SqT K H p ys) ∧ ∀ l, H l = none → Q (.ref l) (upd H l (.lst ys))) := by subst h; exact call_list_of
theorem cr_sumK (h : X.K = K) (hc : X.calm = true) : CallR X (.builtin "sum") (rSum K) := by subst h; exact cr_sum hc
theorem cr_minK' (h : X.K = K) (hc : X.calm = true) : CallR X (.builtin "min") (rMin K) := by subst h; exact cr_min hc
theorem cr_maxK' (h : X.K = K) (hc : X.calm = true) : CallR X (.builtin "max") (rMax K) := by subst h; exact cr_max hc
end
end Ct
namespace Ct
open PySem L2
theorem look_mu {st : Sto} {n : Nat} {xs : List PyData} (h : st[n]? = some (.mu xs)) : look (.cell n) st = some (.list xs) := by
  simp only [look, h]
theorem fin_same {d : PyData} {st st' : Sto} {Φ : Val → Sto → Prop} (e : st'.length = st.length) (h : Φ (.pd d) st') : Fin st.length Φ (.pd d) st' := ⟨st.length, Nat.le_refl _, fun k z => (nomatch z), by rw [List.take_of_length_le (by omega)]; exact h⟩
/-- three numbers that are drawn from -/
def Pur (st : Sto) (n : Nat) : Prop := ∃ p0 p1 p2 : Int, st[n]? = some (.mu [.int p0, .int p1, .int p2])
structure Only (st st' : Sto) (n : Nat) : Prop where
  len : st'.length = st.length
  at_ : ∀ k, k ≠ n → st'[k]? = st[k]?
theorem Only.refl {st : Sto} {n : Nat} : Only st st n := ⟨rfl, fun _ _ => rfl⟩
theorem Only.trans {a b c : Sto} {n : Nat} (h : Only a b n) (g : Only b c n) : Only a c n := ⟨g.len.trans h.len, fun k hk => (g.at_ k hk).trans (h.at_ k hk)⟩
theorem Only.set {st : Sto} {n : Nat} {c : Cell} : Only st (st.set n c) n := ⟨List.length_set, fun k hk => List.getElem?_set_ne fun e => hk e.symm⟩
theorem get_setSelf {st : Sto} {n : Nat} {c c' : Cell} (h : st[n]? = some c) : (st.set n c')[n]? = some c' := List.getElem?_set_self (List.getElem?_eq_some_iff.mp h).1
theorem Only.pur {a b : Sto} {n k : Nat} (h : Only a b n) (hk : k ≠ n) (p : Pur a k) : Pur b k := by
  obtain ⟨x, y, z, e⟩ := p
  exact ⟨x, y, z, by rw [h.at_ k hk]; exact e⟩
end Ct

/-! CtE: from the head's facts to the law. -/
namespace Ct
open PySem L2 PyProof.Rows
theorem df_mk {K : PySem.W.Frag} {h : Heap} {mg : Str → Option Value} {x : Str} {st : Stmt} {f : Addr} {oc kV doc pm cdv ct : Value} {od an : Option Addr} {osl : Array (Option Value)} (X : K.In h) (G : h.Ns mainGlobals mg)
    (a : PySem.W.nsIn K mainGlobals x = some (some (.ref f))) (l : K.lookup f = some ⟨oc, od, .func (PySem.W.fnOf x x (defArgs st) (defBody st) (defScope st) .none kV doc pm an cdv ct), osl⟩) (c : PySem.W.codeIn K cdv x = true) (k : PySem.W.keepIn K (.ref f) = true) : Df K mg x st :=
  ⟨f, _, fun_mk l c k, PySem.W.mg_of X G a⟩
theorem cst_mk {K : PySem.W.Frag} {h : Heap} {mg : Str → Option Value} {x : Str} {i : Int} {t : Tok} (X : K.In h) (G : h.Ns mainGlobals mg) (a : PySem.W.nsIn K mainGlobals x = some (some (.int i t))) : ∃ t, mg x = some (.int i t) := ⟨t, PySem.W.mg_of X G a⟩
/-- a def with one table -/
structure Gl1 (K : PySem.W.Frag) (h : Heap) (mg : Str → Option Value) (x : Str) (st : Stmt) (c P : Addr) : Prop where
  ex : ∃ (f : Addr) (oc : Value) (od : Option Addr) (kV doc pm : Value) (an : Option Addr) (ct : Value) (osl : Array (Option Value)), K.lookup f = some ⟨oc, od, .func (PySem.W.fnOf x x (defArgs st) (defBody st) (defScope st) .none kV doc pm an (.ref c) ct), osl⟩ ∧
    PySem.W.codeIn K (.ref c) x = true ∧ PySem.W.keepIn K (.ref f) = true ∧ mg x = some (.ref f)
  hd : PySem.W.CodeHd h c P
  tb : h.get? P = some { cls := .none, data := .fields #[] }
  no : K.lookup P = none
theorem gl1_mk {K : PySem.W.Frag} {h : Heap} {mg : Str → Option Value} {x : Str} {st : Stmt} {f c P : Addr} {oc kV doc pm ct : Value} {od an : Option Addr} {osl : Array (Option Value)}
    (X : K.In h) (G : h.Ns mainGlobals mg) (a : PySem.W.nsIn K mainGlobals x = some (some (.ref f))) (l : K.lookup f = some ⟨oc, od, .func (PySem.W.fnOf x x (defArgs st) (defBody st) (defScope st) .none kV doc pm an (.ref c) ct), osl⟩) (cc : PySem.W.codeIn K (.ref c) x = true) (k : PySem.W.keepIn K (.ref f) = true)
    (hd : PySem.W.codeHdIn K c P = true) (tb : h.get? P = some { cls := .none, data := .fields #[] }) (no : K.lookup P = none) : Gl1 K h mg x st c P :=
  ⟨⟨f, oc, od, kV, doc, pm, an, ct, osl, l, cc, k, PySem.W.mg_of X G a⟩, PySem.W.codeHd_of_K X hd, tb, no⟩
theorem Gl1.gath {K : PySem.W.Frag} {h base : Heap} {mg : Str → Option Value} {x : Str} {st : Stmt} {c P : Addr} (g : Gl1 K h mg x st c P) (TB : LamX.TabB base mg c P) : Gath K base mg [(P, lamQ x)] x st := by
  obtain ⟨f, oc, od, kV, doc, pm, an, ct, osl, l, cc, k, m⟩ := g.ex
  exact ⟨f, c, P, oc, od, kV, doc, pm, an, ct, osl, l, cc, k, m, TB, rfl⟩
/-- the heap at the start, without tables -/
def noTbl (H : Hp) : Hp := fun b => match H b with
  | some (.tbl _) => none
  | x => x
theorem noTbl_of {H : Hp} {b : Addr} {o : HO} (h : H b = some o) (no : ∀ ps, o ≠ .tbl ps) : noTbl H b = some o := by
  unfold noTbl
  rw [h]
  cases o <;> first | rfl | exact absurd rfl (no _)
theorem noTbl_to {H : Hp} {b : Addr} {o : HO} (h : noTbl H b = some o) : H b = some o ∧ ∀ ps, o ≠ .tbl ps := by
  unfold noTbl at h
  cases e : H b with
  | none =>
    rw [e] at h
    cases h
  | some o' =>
    rw [e] at h
    cases o' <;> first | (cases h; exact ⟨rfl, fun ps z => by cases z⟩) | cases h
theorem start_rel {K : PySem.W.Frag} {H : Hp} {P : Addr} {q : Str} (h : H P = some (.tbl #[])) : Rel K [(P, q)] (fun _ => 0) (noTbl H) H [] where
  sub := fun b o e => (noTbl_to e).1
  nt := fun b ps e => (noTbl_to e).2 ps rfl
  tab := fun p hp => by
    rw [List.mem_singleton.mp hp]
    exact ⟨#[], h, trivial, fun pos cv e => by cases e⟩
  mu := fun n xs e => by cases n <;> cases e
  fr := fun n xs e => by cases n <;> cases e
  inj := fun n m xs ys e _ _ => by cases n <;> cases e
theorem start_seq {K : PySem.W.Frag} {H : Hp} {a : Addr} {xs : List V} (h : SqL K H a xs) : SqL K (noTbl H) a xs := by
  rcases h with (h | ⟨o, h⟩) | h
  · exact .inl (.inl (noTbl_of h fun ps z => by cases z))
  · exact .inl (.inr ⟨o, noTbl_of h fun ps z => by cases z⟩)
  · exact .inr h
/-- the script as the law gets it -/
theorem start_sp {K : PySem.W.Frag} {H : Hp} {P a : Addr} {q : Str} {ns : List Int} {p : Pre} (h : H P = some (.tbl #[])) (hs : SqL K H a (ns.map V.int)) (hp : p [.pd (.list (ns.map PyData.int))] [] fun x _ => x = .pd (.bool true)) :
    spP K [(P, q)] 1 p [.ref a] H (fun v _ => v = .bl true) fun _ _ _ => False :=
  ⟨fun _ => 0, noTbl H, [], [.pd (.list (ns.map PyData.int))], _, start_rel h, .cons (x := .pd (.list (ns.map PyData.int))) (Dp.lst (start_seq hs) (dps_ints' ns)) .nil, rfl, hp, fun α' F' H' v x st' _ _ hv e => by
    subst e
    exact dp_bl hv⟩
end Ct

/-! KM: what the defs of k80 compute, as plain functions; how they lie as data. -/
namespace K80
open PySem

abbrev Arc := Int × Option Int
def lesserEnd : Option Int → Option Int → Option Int
  | none, b => b
  | some a, none => some a
  | some a, some b => if a < b then some a else some b
def meetN : Nat → List Arc → List Arc → List Arc
  | 0, _, _ => []
  | _ + 1, [], _ => []
  | _ + 1, _ :: _, [] => []
  | n + 1, a :: r, b :: s =>
    match lesserEnd a.2 b.2 with
    | none => [(if b.1 > a.1 then b.1 else a.1, none)]
    | some l => (if (if b.1 > a.1 then b.1 else a.1) ≤ l then [(if b.1 > a.1 then b.1 else a.1, some l)] else []) ++ (if a.2 = some l then meetN n r (b :: s) else meetN n (a :: r) s)
def arcsMeet (r s : List Arc) : List Arc := meetN (r.length + s.length) r s
def otherF : Int → List Arc → List Arc
  | line, [] => [(line, none)]
  | line, (f, none) :: _ => if f > line then [(line, some (f - 1))] else []
  | line, (f, some l) :: r => (if f > line then [(line, some (f - 1))] else []) ++ otherF (l + 1) r
def arcsMinus (r s : List Arc) : List Arc := arcsMeet r (otherF 0 s)
def arcLe (a b : Arc) : Bool := decide (a.1 ≤ b.1)
def gStep (made : List Arc) (a : Arc) : List Arc := match made.getLast? with
  | none => made ++ [a]
  | some (_, none) => made
  | some (b, some e) => if a.1 > e + 1 then made ++ [a] else match a.2 with
    | none => made.set (made.length - 1) (b, none)
    | some l => if l > e then made.set (made.length - 1) (b, some l) else made
def arcsGathered (rows : List Arc) : List Arc := (rows.mergeSort arcLe).foldl gStep []
def arcsUnion (r s : List Arc) : List Arc := arcsGathered (r ++ s)
abbrev Hole := Int × Int
/-- none: a hole goes all round -/
def pieces (H : Int) : List Hole → Option (List Arc)
  | [] => some []
  | (f, l) :: r => if l ≥ H then none else (pieces H r).map fun t => (if f % H + l ≤ H then [(f % H, some (f % H + l - 1))] else [(f % H, some (H - 1)), (0, some (f % H + l - H - 1))]) ++ t
def roundArcs (holes : List Hole) (H : Int) : List Arc := match pieces H holes with
  | none => [(0, some (H - 1))]
  | some made => arcsUnion made []
def toHole (a : Arc) : Hole := (a.1, a.2.getD 0 - a.1 + 1)
def roundHoles (arcs : List Arc) (H : Int) : List Hole :=
  match arcs.head?, arcs.getLast? with
  | some x, some y => if 1 < arcs.length ∧ x.1 = 0 ∧ y.2 = some (H - 1) then ((arcs.drop 1).take (arcs.length - 1 - 1)).map toHole ++ [(y.1, H - y.1 + x.2.getD 0 + 1)] else arcs.map toHole
  | _, _ => arcs.map toHole
def grow (a b c : Int) (hs : List Hole) : List Hole := (hs.filter fun h => decide (h.2 > c)).map fun h => (h.1 - b, h.2 + b - a - c)
def nextShut (a b c H : Int) (gap : List Hole) (shut : List Arc) : List Arc := roundArcs (grow a b c (roundHoles shut H) ++ gap) H
def leftOf (H : Int) (shut : List Arc) : List Arc := arcsMinus [(0, some (H - 1))] shut
def okShut (s : List Arc) : Bool := decide (s.length ≤ 1000) && s.all fun a => a.2.isSome
def ranksGo (a b c H : Int) (gap : List Hole) : Nat → List Arc → List Arc → Option (List (List Arc))
  | 0, _, _ => none
  | n + 1, shut, last => if last = [] then some [] else if okShut (nextShut a b c H gap shut) = true then
    (if leftOf H (nextShut a b c H gap shut) = last then some [] else
      (ranksGo a b c H gap n (nextShut a b c H gap shut) (leftOf H (nextShut a b c H gap shut))).map fun t => leftOf H (nextShut a b c H gap shut) :: t) else none

/-! the verdicts -/
inductive Way where
  | gap
  | short (k : Int)
  | over (k : Int)
  deriving DecidableEq
inductive Ver where
  | covered
  | jumped
  | page (m : Int)
  | caught (n : Int) (w : Way)
  deriving DecidableEq
def isC : Ver → Bool
  | .page _ => true
  | .caught _ _ => true
  | _ => false
def overOf (a b c H m r : Int) : Int := m * (b - a - c) - (r - 1) * H
def partsUp (many part : Int) : Int := (many + part - 1) / part
def rems (a b c H m : Int) : List (Int × Int) := (List.range m.toNat).map fun (i : Nat) => ((1 + (i : Int)) * (a + c) % H, (1 + (i : Int)) * b % H)
def waysS (H m over : Int) : Int → List (Int × Int) → List (Int × Way)
  | _, [] => []
  | k, (s, _) :: t => (if s ≥ H - over then [(m + k * partsUp (H - over) (H - s), Way.short k)] else []) ++ waysS H m over (k + 1) t
def waysO (H m over : Int) : Int → List (Int × Int) → List (Int × Way)
  | _, [] => []
  | k, (_, y) :: t => (if 1 ≤ y ∧ y ≤ over then [(m + k * partsUp (H - over) y, Way.over k)] else []) ++ waysO H m over (k + 1) t
def caughtWays (a b c H m over : Int) : List (Int × Way) :=
  (if over > c then [(m + partsUp (H - over) (b - a - c), Way.gap)] else []) ++ waysS H m over 1 (rems a b c H m) ++ waysO H m over 1 (rems a b c H m)
def bestOf : Int × Way → List (Int × Way) → Int × Way
  | best, [] => best
  | best, x :: t => bestOf (if x.1 < best.1 then x else best) t
def forEver (a b c H m r : Int) : Ver :=
  if overOf a b c H m r ≤ 0 then .covered else if overOf a b c H m r ≥ H then .page m else
    match caughtWays a b c H m (overOf a b c H m r) with
    | [] => .jumped
    | x :: t => .caught (bestOf x (x :: t)).1 (bestOf x (x :: t)).2
def gapAt (a b c H m r : Int) : Option Hole :=
  if overOf a b c H m r ≤ 0 then none else if overOf a b c H m r ≥ H then some (0, H) else some ((0 - m * b) % H, overOf a b c H m r)
def gapL (a b c H m r : Int) : List Hole := (gapAt a b c H m r).toList
def lineRanks (a b c H m r : Int) : Option (List (List Arc)) := if okShut (roundArcs (gapL a b c H m r) H) = true then
  (ranksGo a b c H (gapL a b c H m r) 20 (roundArcs (gapL a b c H m r) H) (leftOf H (roundArcs (gapL a b c H m r) H))).map fun t => leftOf H (roundArcs (gapL a b c H m r) H) :: t else none

/-! as data -/
def eOpt : Option Int → PyData
  | none => .none
  | some i => .int i
abbrev eArc (a : Arc) : PyData := .tuple [.int a.1, eOpt a.2]
abbrev eArcs (r : List Arc) : PyData := .list (r.map eArc)
abbrev eHole (h : Hole) : PyData := .tuple [.int h.1, .int h.2]
def eWay : Way → PyData
  | .gap => .tuple [.str "gap"]
  | .short k => .tuple [.str "short", .int k]
  | .over k => .tuple [.str "over", .int k]
abbrev eRow (x : Int × Way) : PyData := .tuple [.int x.1, eWay x.2]
def eVer : Ver → PyData
  | .covered => .tuple [.str "ever", .str "covered"]
  | .jumped => .tuple [.str "ever", .str "jumped"]
  | .page m => .tuple [.str "caught", .int m, .tuple [.str "page"]]
  | .caught n w => .tuple [.str "caught", .int n, eWay w]
def eGap : Option Hole → PyData
  | none => .none
  | some h => eHole h
/-- checked numbers -/
def Good (a b c H m r : Int) : Prop := (0 ≤ a ∧ a ≤ b ∧ 1 ≤ b ∧ 0 ≤ c ∧ c ≤ b - a) ∧ (1 ≤ H ∧ 1 ≤ m ∧ 1 ≤ r) ∧ a ≤ 10000 ∧ b ≤ 10000 ∧ c ≤ 10000 ∧ H ≤ 10000 ∧ m ≤ 40 ∧ r ≤ 10
end K80

namespace K80
open PySem
structure LikeOk (a b c H m r : Int) : Prop where
  H3 : 3 ≤ H
  H12 : H ≤ 12
  m1 : 1 ≤ m
  m3 : m ≤ 3
  r1 : 1 ≤ r
  r2 : r ≤ 2
  a0 : 0 ≤ a
  a2 : a < 2 * H
  c0 : 0 ≤ c
  c8 : c ≤ 8
  g0 : a + c ≤ b
  g2 : b ≤ a + c + 2
  b1 : 1 ≤ b
theorem LikeOk.good {a b c H m r : Int} (h : LikeOk a b c H m r) : Good a b c H m r := by
  obtain ⟨h1, h2, h3, h4, h5, h6, h7, h8, h9, h10, h11, h12, h13⟩ := h
  unfold Good
  omega
def insA (a : Arc) : List Arc → List Arc
  | [] => [a]
  | x :: t => if a.1 ≤ x.1 then a :: x :: t else x :: insA a t
def isort : List Arc → List Arc
  | [] => []
  | a :: t => insA a (isort t)
theorem insA_eq (a : Arc) : ∀ (l1 l2 : List Arc), (∀ b ∈ l1, ¬ a.1 ≤ b.1) → (∀ b ∈ l2, a.1 ≤ b.1) → insA a (l1 ++ l2) = l1 ++ a :: l2
  | [], [], _, _ => rfl
  | [], x :: t, _, h => if_pos (h x (List.mem_cons_self ..))
  | x :: l1, l2, h1, h2 => by
    show (if a.1 ≤ x.1 then a :: x :: (l1 ++ l2) else x :: insA a (l1 ++ l2)) = _
    rw [if_neg (h1 x (List.mem_cons_self ..)), insA_eq a l1 l2 (fun b hb => h1 b (List.mem_cons_of_mem _ hb)) h2]
    rfl
theorem isort_eq : ∀ l : List Arc, l.mergeSort arcLe = isort l
  | [] => List.mergeSort_nil
  | a :: t => by
    have tr : ∀ (a b c : Arc), arcLe a b → arcLe b c → arcLe a c := fun a b c h1 h2 => decide_eq_true (Int.le_trans (of_decide_eq_true h1) (of_decide_eq_true h2))
    have tt : ∀ (a b : Arc), arcLe a b || arcLe b a := fun a b => by
      unfold arcLe
      rcases Int.le_total a.1 b.1 with h | h <;> simp [h]
    obtain ⟨l1, l2, e1, e2, h⟩ := List.mergeSort_cons tr tt a t
    have hs := List.pairwise_mergeSort tr tt (a :: t)
    rw [e1] at hs ⊢
    show _ = insA a (isort t)
    rw [← isort_eq t, e2]
    refine (insA_eq a l1 l2 (fun b hb hle => ?_) fun b hb => ?_).symm
    · have := h b hb
      unfold arcLe at this
      simp [hle] at this
    · have := List.rel_of_pairwise_cons (List.pairwise_append.mp hs).2.1 hb
      exact of_decide_eq_true this
def gath2 (rows : List Arc) : List Arc := (isort rows).foldl gStep []
theorem gath_eq (rows : List Arc) : arcsGathered rows = gath2 rows := by
  unfold arcsGathered gath2
  rw [isort_eq]
def round2 (holes : List Hole) (H : Int) : List Arc := match pieces H holes with
  | none => [(0, some (H - 1))]
  | some made => gath2 made
theorem round_eq (hs : List Hole) (H : Int) : roundArcs hs H = round2 hs H := by
  unfold roundArcs round2
  cases pieces H hs with
  | none => rfl
  | some made =>
    show arcsUnion made [] = gath2 made
    unfold arcsUnion
    rw [List.append_nil, gath_eq]
def okGo (b g c H : Int) (gap : List Hole) : Nat → List Arc → List Arc → Bool
  | 0, _, _ => false
  | n + 1, shut, last => match last with
    | [] => true
    | _ :: _ =>
      let s := round2 (((roundHoles shut H).filter fun h => decide (h.2 > c)).map (fun h => (h.1 - b, h.2 + g)) ++ gap) H
      okShut s && (let l := leftOf H s; decide (l = last) || okGo b g c H gap n s l)
def okAll (b g c H m r : Int) : Bool :=
  let gap := gapL (b - c - g) b c H m r
  let s := round2 gap H
  okShut s && okGo b g c H gap 20 s (leftOf H s)
def chk (H m r g c : Nat) : Bool := (List.range H).all fun b => okAll b g c H m r
def chkH (H : Nat) : Bool := (List.range 3).all fun m => (List.range 2).all fun r => (List.range 3).all fun g => (List.range 9).all fun c => chk H (m + 1) (r + 1) g c
theorem chk3 : chkH 3 = true := by decide +kernel
theorem chk4 : chkH 4 = true := by decide +kernel
theorem chk5 : chkH 5 = true := by decide +kernel
theorem chk6 : chkH 6 = true := by decide +kernel
theorem chk7 : chkH 7 = true := by decide +kernel
theorem chk8 : chkH 8 = true := by decide +kernel
theorem chk9 : chkH 9 = true := by decide +kernel
theorem chk10 : chkH 10 = true := by decide +kernel
theorem chk11 : chkH 11 = true := by decide +kernel
theorem chk12 : chkH 12 = true := by decide +kernel
theorem next_eq (b g c H : Int) (gap : List Hole) (shut : List Arc) : nextShut (b - c - g) b c H gap shut = round2 (((roundHoles shut H).filter fun h => decide (h.2 > c)).map (fun h => (h.1 - b, h.2 + g)) ++ gap) H := by
  unfold nextShut grow
  rw [round_eq]
  have e : (fun h : Int × Int => (h.1 - b, h.2 + b - (b - c - g) - c)) = fun h => (h.1 - b, h.2 + g) := by
    funext h
    rw [show h.2 + b - (b - c - g) - c = h.2 + g by omega]
  rw [e]
theorem go_ok (b g c H : Int) (gap : List Hole) : ∀ (n : Nat) (shut last : List Arc), okGo b g c H gap n shut last = true → ∃ res, ranksGo (b - c - g) b c H gap n shut last = some res
  | 0, _, _, h => by cases h
  | n + 1, shut, [], _ => ⟨[], rfl⟩
  | n + 1, shut, x :: t, h => by
    unfold okGo at h
    dsimp only at h
    unfold ranksGo
    rw [next_eq]
    generalize round2 (((roundHoles shut H).filter fun h => decide (h.2 > c)).map (fun h => (h.1 - b, h.2 + g)) ++ gap) H = s at h ⊢
    obtain ⟨h1, h2⟩ := Bool.and_eq_true_iff.mp h
    rw [if_neg (List.cons_ne_nil _ _), if_pos h1]
    by_cases e : leftOf H s = x :: t
    · exact ⟨[], by rw [if_pos e]⟩
    · rw [if_neg e]
      rcases (Bool.or_eq_true_iff ..).mp h2 with h2 | h2
      · exact absurd (of_decide_eq_true h2) e
      · obtain ⟨res, hr⟩ := go_ok b g c H gap n s (leftOf H s) h2
        exact ⟨_, by rw [hr]; rfl⟩
theorem all_ok {b g c H m r : Int} (h : okAll b g c H m r = true) : ∃ res, lineRanks (b - c - g) b c H m r = some res := by
  unfold okAll at h
  dsimp only at h
  obtain ⟨h1, h2⟩ := Bool.and_eq_true_iff.mp h
  obtain ⟨res, hr⟩ := go_ok _ _ _ _ _ _ _ _ h2
  unfold lineRanks
  rw [round_eq, if_pos h1, hr]
  exact ⟨_, rfl⟩
/-! ### pages further on -/
theorem ov_pages (a b c H m r q : Int) : overOf (a + q * H) (b + q * H) c H m r = overOf a b c H m r := by
  unfold overOf
  rw [show b + q * H - (a + q * H) - c = b - a - c by omega]
theorem mod_pages (k x H q : Int) : k * (x + q * H) % H = k * x % H := by
  rw [Int.mul_add, ← Int.mul_assoc, Int.add_mul_emod_self_right]
theorem rems_pages (a b c H m q : Int) : rems (a + q * H) (b + q * H) c H m = rems a b c H m := by
  unfold rems
  refine List.map_congr_left fun i _ => ?_
  rw [show a + q * H + c = a + c + q * H by omega, mod_pages, mod_pages]
theorem fe_pages (a b c H m r q : Int) : forEver (a + q * H) (b + q * H) c H m r = forEver a b c H m r := by
  unfold forEver caughtWays
  rw [ov_pages, rems_pages, show b + q * H - (a + q * H) - c = b - a - c by omega]
theorem gap_pages (a b c H m r q : Int) : gapAt (a + q * H) (b + q * H) c H m r = gapAt a b c H m r := by
  unfold gapAt
  rw [ov_pages, show 0 - m * (b + q * H) = (0 - m * b) + (-(m * q)) * H by rw [Int.mul_add, Int.neg_mul, Int.mul_assoc]; omega, Int.add_mul_emod_self_right]
theorem pieces_pages (a b c H q : Int) (gap : List Hole) : ∀ hs : List Hole, pieces H (grow (a + q * H) (b + q * H) c hs ++ gap) = pieces H (grow a b c hs ++ gap)
  | [] => rfl
  | h :: hs => by
    have ih := pieces_pages a b c H q gap hs
    unfold grow at ih ⊢
    rw [List.filter_cons]
    split
    · rw [List.map_cons, List.map_cons, List.cons_append, List.cons_append]
      unfold pieces
      rw [ih, show h.2 + (b + q * H) - (a + q * H) - c = h.2 + b - a - c by omega, show h.1 - (b + q * H) = h.1 - b + (-q) * H by rw [Int.neg_mul]; omega, Int.add_mul_emod_self_right]
    · exact ih
theorem next_pages (a b c H q : Int) (gap : List Hole) (shut : List Arc) : nextShut (a + q * H) (b + q * H) c H gap shut = nextShut a b c H gap shut := by
  unfold nextShut roundArcs
  rw [pieces_pages]
theorem go_pages (a b c H q : Int) (gap : List Hole) : ∀ (n : Nat) (shut last : List Arc), ranksGo (a + q * H) (b + q * H) c H gap n shut last = ranksGo a b c H gap n shut last
  | 0, _, _ => rfl
  | n + 1, shut, last => by
    unfold ranksGo
    rw [next_pages, go_pages a b c H q gap n]
theorem ranks_pages (a b c H m r q : Int) : lineRanks (a + q * H) (b + q * H) c H m r = lineRanks a b c H m r := by
  unfold lineRanks gapL
  rw [gap_pages, go_pages]
theorem chk_get {H : Nat} (h : chkH H = true) {m r g c b : Nat} (hm : m < 3) (hr : r < 2) (hg : g < 3) (hc : c < 9) (hb : b < H) : okAll b g c H ((m + 1 : Nat) : Int) ((r + 1 : Nat) : Int) = true := by
  unfold chkH at h
  have h := List.all_eq_true.mp h m (List.mem_range.mpr hm)
  have h := List.all_eq_true.mp h r (List.mem_range.mpr hr)
  have h := List.all_eq_true.mp h g (List.mem_range.mpr hg)
  have h := List.all_eq_true.mp h c (List.mem_range.mpr hc)
  exact List.all_eq_true.mp h b (List.mem_range.mpr hb)
theorem chk_all (H : Nat) (h3 : 3 ≤ H) (h12 : H ≤ 12) : chkH H = true := by
  obtain rfl | rfl | rfl | rfl | rfl | rfl | rfl | rfl | rfl | rfl : H = 3 ∨ H = 4 ∨ H = 5 ∨ H = 6 ∨ H = 7 ∨ H = 8 ∨ H = 9 ∨ H = 10 ∨ H = 11 ∨ H = 12 := by omega
  · exact chk3
  · exact chk4
  · exact chk5
  · exact chk6
  · exact chk7
  · exact chk8
  · exact chk9
  · exact chk10
  · exact chk11
  · exact chk12
theorem ranks_some {a b c H m r : Int} (L : LikeOk a b c H m r) : ∃ res, lineRanks a b c H m r = some res := by
  obtain ⟨h1, h2, h3, h4, h5, h6, h7, h8, h9, h10, h11, h12, h13⟩ := L
  have hb0 := Int.emod_nonneg b (show H ≠ 0 by omega)
  have hb1 := Int.emod_lt_of_pos b (show 0 < H by omega)
  have he := Int.emod_add_mul_ediv b H
  have hm : H * (b / H) = b / H * H := Int.mul_comm _ _
  have e1 : lineRanks a b c H m r = lineRanks (b % H - c - (b - a - c)) (b % H) c H m r := by
    rw [← ranks_pages (b % H - c - (b - a - c)) (b % H) c H m r (b / H), show b % H - c - (b - a - c) + b / H * H = a by omega, show b % H + b / H * H = b by omega]
  rw [e1]
  obtain ⟨Hn, rfl⟩ := Int.eq_ofNat_of_zero_le (show 0 ≤ H by omega)
  obtain ⟨mn, em⟩ := Int.eq_ofNat_of_zero_le (show 0 ≤ m - 1 by omega)
  obtain ⟨rn, er⟩ := Int.eq_ofNat_of_zero_le (show 0 ≤ r - 1 by omega)
  obtain ⟨gn, eg⟩ := Int.eq_ofNat_of_zero_le (show 0 ≤ b - a - c by omega)
  obtain ⟨cn, ec⟩ := Int.eq_ofNat_of_zero_le (show 0 ≤ c by omega)
  obtain ⟨bn, eb⟩ := Int.eq_ofNat_of_zero_le hb0
  have h := chk_get (chk_all Hn (by omega) (by omega)) (m := mn) (r := rn) (g := gn) (c := cn) (b := bn) (by omega) (by omega) (by omega) (by omega) (by omega)
  have h := all_ok h
  rw [eb, eg, show m = ((mn + 1 : Nat) : Int) by omega, show r = ((rn + 1 : Nat) : Int) by omega, show c = ((cn : Nat) : Int) from ec]
  exact h
end K80

namespace K80
open PySem
/-! ### all lengths times k -/
theorem ov_by (a b c H m r k : Int) : overOf (k * a) (k * b) (k * c) (k * H) m r = k * overOf a b c H m r := by
  unfold overOf
  rw [← Int.mul_sub, ← Int.mul_sub, Int.mul_left_comm m, Int.mul_left_comm (r - 1), ← Int.mul_sub]
theorem up_by {n p k : Int} (hk : 0 < k) (hp : 0 < p) : partsUp (k * n) (k * p) = partsUp n p := by
  have hkp : 0 < k * p := Int.mul_pos hk hp
  have h1 := Int.emod_add_mul_ediv n p
  have h2 := Int.emod_nonneg n (show p ≠ 0 by omega)
  have h3 := Int.emod_lt_of_pos n hp
  unfold partsUp
  generalize n / p = d at h1
  generalize n % p = e at h1 h2 h3
  subst h1
  rcases Int.lt_or_le 0 e with he | he
  · have hke : 0 < k * e := Int.mul_pos hk he
    have hkep : k * e < k * p := Int.mul_lt_mul_of_pos_left h3 hk
    have A : (e + p * d + p - 1) / p = d + 1 := by
      rw [show e + p * d + p - 1 = (e - 1) + p * (d + 1) by rw [Int.mul_add]; omega, Int.add_mul_ediv_left _ _ (by omega), Int.ediv_eq_zero_of_lt (by omega) (by omega)]
      omega
    have B : (k * (e + p * d) + k * p - 1) / (k * p) = d + 1 := by
      rw [show k * (e + p * d) + k * p - 1 = (k * e - 1) + (k * p) * (d + 1) by rw [Int.mul_add, Int.mul_add, Int.mul_assoc]; omega, Int.add_mul_ediv_left _ _ (by omega), Int.ediv_eq_zero_of_lt (by omega) (by omega)]
      omega
    rw [A, B]
  · have e0 : e = 0 := by omega
    subst e0
    have A : (0 + p * d + p - 1) / p = d := by
      rw [show 0 + p * d + p - 1 = (p - 1) + p * d by omega, Int.add_mul_ediv_left _ _ (by omega), Int.ediv_eq_zero_of_lt (by omega) (by omega)]
      omega
    have B : (k * (0 + p * d) + k * p - 1) / (k * p) = d := by
      rw [show k * (0 + p * d) + k * p - 1 = (k * p - 1) + (k * p) * d by rw [Int.mul_add, Int.mul_assoc]; omega, Int.add_mul_ediv_left _ _ (by omega), Int.ediv_eq_zero_of_lt (by omega) (by omega)]
      omega
    rw [A, B]
def sc (k : Int) (x : Int × Int) : Int × Int := (k * x.1, k * x.2)
theorem rems_by {a b c H m k : Int} (hk : 0 < k) : rems (k * a) (k * b) (k * c) (k * H) m = (rems a b c H m).map (sc k) := by
  unfold rems
  rw [List.map_map]
  refine List.map_congr_left fun i _ => ?_
  show _ = (k * _, k * _)
  rw [← Int.mul_add, Int.mul_left_comm, Int.mul_left_comm _ k b, Int.mul_emod_mul_of_pos _ _ hk, Int.mul_emod_mul_of_pos _ _ hk]
theorem waysS_by {H m o k : Int} (hk : 0 < k) : ∀ (j : Int) (l : List (Int × Int)), (∀ x ∈ l, x.1 < H) → waysS (k * H) m (k * o) j (l.map (sc k)) = waysS H m o j l
  | _, [], _ => rfl
  | j, (s, y) :: t, h => by
    have hs : s < H := h _ (List.mem_cons_self ..)
    have ih := waysS_by (m := m) (o := o) hk (j + 1) t fun x hx => h x (List.mem_cons_of_mem _ hx)
    show (if k * s ≥ k * H - k * o then [(m + j * partsUp (k * H - k * o) (k * H - k * s), Way.short j)] else []) ++ waysS (k * H) m (k * o) (j + 1) (t.map (sc k)) = _
    rw [ih, ← Int.mul_sub, ← Int.mul_sub, up_by hk (by omega)]
    have e : (k * s ≥ k * (H - o)) = (s ≥ H - o) := propext ⟨fun z => Int.le_of_mul_le_mul_left z hk, fun z => Int.mul_le_mul_of_nonneg_left z (by omega)⟩
    simp only [e]
    rfl
theorem waysO_by {H m o k : Int} (hk : 0 < k) : ∀ (j : Int) (l : List (Int × Int)), (∀ x ∈ l, 0 ≤ x.2) → waysO (k * H) m (k * o) j (l.map (sc k)) = waysO H m o j l
  | _, [], _ => rfl
  | j, (s, y) :: t, h => by
    have hy : 0 ≤ y := h _ (List.mem_cons_self ..)
    have ih := waysO_by (H := H) (m := m) (o := o) hk (j + 1) t fun x hx => h x (List.mem_cons_of_mem _ hx)
    show (if 1 ≤ k * y ∧ k * y ≤ k * o then [(m + j * partsUp (k * H - k * o) (k * y), Way.over j)] else []) ++ waysO (k * H) m (k * o) (j + 1) (t.map (sc k)) = _
    have e1 : (k * y ≤ k * o) = (y ≤ o) := propext ⟨fun z => Int.le_of_mul_le_mul_left z hk, fun z => Int.mul_le_mul_of_nonneg_left z (by omega)⟩
    have e2 : (1 ≤ k * y) = (1 ≤ y) := propext ⟨fun z => by
      rcases Int.lt_or_le 0 y with h | h
      · omega
      · rw [show y = 0 by omega, Int.mul_zero] at z
        omega, fun z => by
      have := Int.mul_le_mul_of_nonneg_left z (show 0 ≤ k by omega)
      omega⟩
    simp only [e1, e2]
    rw [ih]
    by_cases hc : 1 ≤ y ∧ y ≤ o
    · rw [if_pos hc, ← Int.mul_sub, up_by hk (by omega)]
      show _ = (if 1 ≤ y ∧ y ≤ o then _ else _) ++ _
      rw [if_pos hc]
    · rw [if_neg hc]
      show _ = (if 1 ≤ y ∧ y ≤ o then _ else _) ++ _
      rw [if_neg hc]
theorem rems_bds {a b c H m : Int} (hH : 0 < H) : ∀ x ∈ rems a b c H m, (0 ≤ x.1 ∧ x.1 < H) ∧ 0 ≤ x.2 ∧ x.2 < H := fun x hm => by
  unfold rems at hm
  obtain ⟨j, _, rfl⟩ := List.mem_map.mp hm
  exact ⟨⟨Int.emod_nonneg _ (by omega), Int.emod_lt_of_pos _ hH⟩, Int.emod_nonneg _ (by omega), Int.emod_lt_of_pos _ hH⟩
theorem gap_pos {a b c H m r : Int} (h : 0 < overOf a b c H m r) (hm : 1 ≤ m) (hr : 1 ≤ r) (hH : 1 ≤ H) : 0 < b - a - c := by
  have e : overOf a b c H m r = m * (b - a - c) - (r - 1) * H := rfl
  rcases Int.lt_or_le 0 (b - a - c) with h | h
  · exact h
  · have h1 : m * (b - a - c) ≤ 0 := Int.mul_nonpos_of_nonneg_of_nonpos (by omega) h
    have h2 : 0 ≤ (r - 1) * H := Int.mul_nonneg (by omega) (by omega)
    omega
theorem fe_by {a b c H m r k : Int} (hm : 1 ≤ m) (hr : 1 ≤ r) (hH : 1 ≤ H) (hk : 0 < k) : forEver (k * a) (k * b) (k * c) (k * H) m r = forEver a b c H m r := by
  unfold forEver
  rw [ov_by]
  have e1 : (k * overOf a b c H m r ≤ 0) = (overOf a b c H m r ≤ 0) := propext ⟨fun z => by
    rcases Int.lt_or_le 0 (overOf a b c H m r) with h | h
    · have := Int.mul_pos hk h
      omega
    · exact h, fun z => Int.mul_nonpos_of_nonneg_of_nonpos (by omega) z⟩
  have e2 : (k * overOf a b c H m r ≥ k * H) = (overOf a b c H m r ≥ H) := propext ⟨fun z => Int.le_of_mul_le_mul_left z hk, fun z => Int.mul_le_mul_of_nonneg_left z (by omega)⟩
  simp only [e1, e2]
  by_cases h : overOf a b c H m r ≤ 0
  · rw [if_pos h, if_pos h]
  rw [if_neg h, if_neg h]
  have hg := gap_pos (show 0 < overOf a b c H m r by omega) hm hr hH
  have ew : caughtWays (k * a) (k * b) (k * c) (k * H) m (k * overOf a b c H m r) = caughtWays a b c H m (overOf a b c H m r) := by
    unfold caughtWays
    generalize overOf a b c H m r = o at *
    have e3 : (k * o > k * c) = (o > c) := propext ⟨fun z => Int.lt_of_mul_lt_mul_left z (by omega), fun z => Int.mul_lt_mul_of_pos_left z hk⟩
    have hb := rems_bds (a := a) (b := b) (c := c) (m := m) (show 0 < H by omega)
    rw [rems_by hk, waysS_by hk _ _ fun x hx => (hb x hx).1.2, waysO_by hk _ _ fun x hx => (hb x hx).2.1]
    simp only [e3]
    rw [← Int.mul_sub, ← Int.mul_sub, ← Int.mul_sub, up_by hk hg]
  rw [ew]
/-! ### caught -/
theorem isC_of {a b c H m r : Int} (h0 : 0 < overOf a b c H m r) (h : overOf a b c H m r ≥ H ∨ caughtWays a b c H m (overOf a b c H m r) ≠ []) : isC (forEver a b c H m r) = true := by
  unfold forEver
  rw [if_neg (by omega)]
  by_cases hp : overOf a b c H m r ≥ H
  · rw [if_pos hp]
    rfl
  · rw [if_neg hp]
    rcases h with h | h
    · exact absurd h hp
    · cases hw : caughtWays a b c H m (overOf a b c H m r) with
      | nil => exact absurd hw h
      | cons x t => rfl
theorem of_isC {a b c H m r : Int} (h : isC (forEver a b c H m r) = true) : 0 < overOf a b c H m r ∧ (overOf a b c H m r ≥ H ∨ caughtWays a b c H m (overOf a b c H m r) ≠ []) := by
  unfold forEver at h
  by_cases h0 : overOf a b c H m r ≤ 0
  · rw [if_pos h0] at h
    cases h
  rw [if_neg h0] at h
  refine ⟨by omega, ?_⟩
  by_cases hp : overOf a b c H m r ≥ H
  · exact .inl hp
  · rw [if_neg hp] at h
    refine .inr fun hw => ?_
    rw [hw] at h
    cases h
theorem waysS_ne {H m o : Int} : ∀ (j : Int) (l : List (Int × Int)), waysS H m o j l ≠ [] ↔ ∃ x ∈ l, x.1 ≥ H - o
  | _, [] => ⟨fun h => absurd rfl h, fun ⟨x, hx, _⟩ => (by cases hx)⟩
  | j, (s, y) :: t => by
    have ih := waysS_ne (H := H) (m := m) (o := o) (j + 1) t
    unfold waysS
    by_cases h : s ≥ H - o
    · rw [if_pos h]
      exact ⟨fun _ => ⟨_, List.mem_cons_self .., h⟩, fun _ => by simp⟩
    · rw [if_neg h, List.nil_append, ih]
      refine ⟨fun ⟨x, hx, e⟩ => ⟨x, List.mem_cons_of_mem _ hx, e⟩, fun ⟨x, hx, e⟩ => ?_⟩
      rcases List.mem_cons.mp hx with rfl | hx
      · exact absurd e h
      · exact ⟨x, hx, e⟩
theorem waysO_ne {H m o : Int} : ∀ (j : Int) (l : List (Int × Int)), waysO H m o j l ≠ [] ↔ ∃ x ∈ l, 1 ≤ x.2 ∧ x.2 ≤ o
  | _, [] => ⟨fun h => absurd rfl h, fun ⟨x, hx, _⟩ => (by cases hx)⟩
  | j, (s, y) :: t => by
    have ih := waysO_ne (H := H) (m := m) (o := o) (j + 1) t
    unfold waysO
    by_cases h : 1 ≤ y ∧ y ≤ o
    · rw [if_pos h]
      exact ⟨fun _ => ⟨_, List.mem_cons_self .., h⟩, fun _ => by simp⟩
    · rw [if_neg h, List.nil_append, ih]
      refine ⟨fun ⟨x, hx, e⟩ => ⟨x, List.mem_cons_of_mem _ hx, e⟩, fun ⟨x, hx, e⟩ => ?_⟩
      rcases List.mem_cons.mp hx with rfl | hx
      · exact absurd e h
      · exact ⟨x, hx, e⟩
theorem ways_ne {a b c H m o : Int} : caughtWays a b c H m o ≠ [] ↔ o > c ∨ (∃ x ∈ rems a b c H m, x.1 ≥ H - o) ∨ ∃ x ∈ rems a b c H m, 1 ≤ x.2 ∧ x.2 ≤ o := by
  rw [← waysS_ne (m := m) 1, ← waysO_ne (H := H) (m := m) 1]
  unfold caughtWays
  rw [ne_eq, List.append_eq_nil_iff, List.append_eq_nil_iff]
  by_cases h : o > c
  · rw [if_pos h]
    exact ⟨fun _ => .inl h, fun _ z => (by cases z.1.1)⟩
  · rw [if_neg h]
    refine ⟨fun z => .inr ?_, fun z w => ?_⟩
    · by_cases e : waysS H m o 1 (rems a b c H m) = []
      · exact .inr fun e2 => z ⟨⟨rfl, e⟩, e2⟩
      · exact .inl e
    · rcases z with z | z | z
      · exact h z
      · exact z w.1.2
      · exact z w.2
theorem rems_more {a b c H m : Int} {x : Int × Int} (h : x ∈ rems a b c H m) : x ∈ rems a b c H (m + 1) := by
  unfold rems at h ⊢
  obtain ⟨i, hi, e⟩ := List.mem_map.mp h
  have hi := List.mem_range.mp hi
  exact List.mem_map.mpr ⟨i, List.mem_range.mpr (by omega), e⟩
theorem fe_more {a b c H m r : Int} (hm : 1 ≤ m) (hr : 1 ≤ r) (hH : 1 ≤ H) (h : isC (forEver a b c H m r) = true) : isC (forEver a b c H (m + 1) r) = true := by
  obtain ⟨h0, h1⟩ := of_isC h
  have hg := gap_pos h0 hm hr hH
  have e : overOf a b c H (m + 1) r = overOf a b c H m r + (b - a - c) := by
    unfold overOf
    rw [Int.add_mul]
    omega
  refine isC_of (by omega) ?_
  rw [e]
  generalize overOf a b c H m r = o at *
  rcases h1 with h1 | h1
  · exact .inl (by omega)
  · refine .inr (ways_ne.mpr ?_)
    rcases ways_ne.mp h1 with h | ⟨x, hx, h⟩ | ⟨x, hx, h, h2⟩
    · exact .inl (by omega)
    · exact .inr (.inl ⟨x, rems_more hx, by omega⟩)
    · exact .inr (.inr ⟨x, rems_more hx, h, by omega⟩)
theorem fe_less {a b c H m r : Int} (hH : 1 ≤ H) (h : isC (forEver a b c H m r) = true) : isC (forEver a b c H m (r - 1)) = true := by
  obtain ⟨h0, h1⟩ := of_isC h
  have e : overOf a b c H m (r - 1) = overOf a b c H m r + H := by
    unfold overOf
    rw [Int.sub_mul (r - 1) 1 H]
    omega
  exact isC_of (by omega) (.inl (by omega))
end K80

namespace K80
open PySem L2 Ct PyProof.Rows
def topS (i : Nat) : Stmt := PySem.Challenge.pw_comestrue_k80_whole_like_sections_moved.main.body.getD i (.Pass ⟨0, 0, 0, 0⟩)
def c_LENGTHS : Int := 10000
def c_PAGE : Int := 10000
def c_LEAD : Int := 40
def c_RANGE : Int := 10
structure Zs (mg : Str → Option Value) : Prop where
  len : mg "len" = none
  sorted : mg "sorted" = none
  list_ : mg "list" = none
  max : mg "max" = none
  min : mg "min" = none
  isinstance : mg "isinstance" = none
  range_ : mg "range" = none
  enumerate : mg "enumerate" = none
  int_ : mg "int" = none
  sum : mg "sum" = none
  abs : mg "abs" = none
  bool_ : mg "bool" = none
  tuple_ : mg "tuple" = none
section
variable {P : Program} {w : World} {K : PySem.W.Frag} {mg : Str → Option Value} {base : Heap} {T : List (Addr × Str)}
local macro_rules | `(tactic| walk_at "we") => `(tactic| first
  | (with_reducible refine we_var (by with_unfolding_all rfl) ?_) | (with_reducible refine we_c (by with_unfolding_all rfl) ?_) | (with_reducible refine we_op ?_) | (with_reducible refine we_un ?_) | (with_reducible refine we_call ?_) | (with_reducible refine we_cb ?_) | (with_reducible refine we_tup ?_)
  | (with_reducible refine we_if ?_) | (with_reducible refine we_chain ?_) | (with_reducible refine we_andV ?_) | (with_reducible refine we_orV ?_) | (with_reducible refine we_notV ?_) | (with_reducible refine we_lst ?_) | (with_reducible refine we_slL ?_) | (with_reducible refine we_ty ?_))
local macro_rules | `(tactic| walk_at "wr") => `(tactic| first
  | (with_reducible refine wr_ixuT (by with_unfolding_all rfl) ?_) | (with_reducible refine wr_ixuL (by first | exact look_end | with_unfolding_all rfl) (by with_unfolding_all rfl) ?_) | (with_reducible refine wr_addI ?_) | (with_reducible refine wr_sub ?_) | (with_reducible refine wr_lt ?_) | (with_reducible refine wr_le ?_)
  | (with_reducible refine wr_mod (by omega) ?_) | (with_reducible refine wr_div (by omega) ?_) | (with_reducible refine wr_mul (by unfold CMul; omega) ?_) | (with_reducible refine wr_eqInt ?_) | (with_reducible refine wr_neInt ?_) | (with_reducible refine wr_eqStr (by decide +kernel) (by decide +kernel) ?_)
  | (with_reducible refine wr_neStr (by decide +kernel) (by decide +kernel) ?_) | (with_reducible refine wr_ip ?_) | (with_reducible refine wr_I0 (by with_unfolding_all rfl) ?_) | (with_reducible refine wr_isN ?_) | (with_reducible refine wr_notN ?_))
local macro_rules | `(tactic| walk_at "ws") => `(tactic| first
  | (with_reducible refine ws_sA ?_) | (with_reducible refine ws_sD ?_) | (with_reducible refine ws_sG (by with_unfolding_all rfl) ?_) | (with_reducible refine ws_sS ?_) | (with_reducible refine ws_asg ?_) | (with_reducible refine ws_retEnd (by with_unfolding_all rfl) ?_) | (with_reducible refine ws_ret ?_) | (with_reducible refine ws_if ?_)
  | (with_reducible refine ws_appEnd (by with_unfolding_all rfl) (by first | omega | (simp only [List.length_map, List.length_append, List.length_cons, List.length_nil] <;> omega)) ?_) | (with_reducible refine ws_drop ?_) | (with_reducible refine ws_next ?_) | (with_reducible refine ws_brk ?_) | (with_reducible refine ws_cont ?_) | (with_reducible refine ws_aug (by with_unfolding_all rfl) ?_))
local macro_rules | `(tactic| walk_at "wt") => `(tactic| first
  | (with_reducible refine wt_test ?_) | (with_reducible refine wt_B ?_) | (with_reducible refine wt_and ?_) | (with_reducible refine wt_or ?_) | (with_reducible refine wt_not ?_) | (with_reducible refine wt_yes ?_))
local macro_rules | `(tactic| walk_at "wc") => `(tactic| first
  | (with_reducible refine wc_abs ?_) | (with_reducible refine wc_int ?_) | (with_reducible refine wc_max2 ?_) | (with_reducible refine wc_min2 ?_) | (with_reducible refine wc_len (by first | exact look_end | with_unfolding_all rfl) ?_))
local macro_rules | `(tactic| walk_at "wg") => `(tactic| first
  | (with_reducible refine wg_name ?_) | (with_reducible refine wg_tup (by with_unfolding_all rfl) ?_) | (with_reducible refine wg_orT (by with_unfolding_all rfl) ?_) | (with_reducible refine wg_orL (by with_unfolding_all rfl) ?_))
local macro_rules | `(tactic| walk_at "wx") => `(tactic| first
  | (with_reducible refine ⟨_, _, (by (repeat apply purs_cons); exact purs_nil), (by simp only [List.length_cons, List.length_nil]; decide +kernel), ?_⟩)
  | (with_reducible refine ⟨_, (by with_unfolding_all rfl), ?_⟩) | (with_reducible refine ⟨_, _, (by with_unfolding_all rfl), (by with_unfolding_all rfl), ?_⟩))
local macro_rules | `(tactic| walk_at "e") => `(tactic| first
  | ((with_reducible show Ct.WE _ _ _ _ _ _); walk_at "we") | ((with_reducible show Ct.WR _ _ _ _ _ _ _); walk_at "wr") | ((with_reducible show Ct.WA _ _ _ _ _ _); first | (with_reducible refine wa_cons ?_) | (with_reducible refine wa_nil ?_))
  | ((with_reducible show Ct.WS _ _ _ _ _ _); walk_at "ws") | ((with_reducible show Ct.WT _ _ _ _ _ _); walk_at "wt") | ((with_reducible show Ct.WC _ _ _ _ _ _); walk_at "wc") | ((with_reducible show Ct.WG _ _ _ _ _ _ _); walk_at "wg")
  | ((with_reducible show Ct.WGs _ _ _ _ _ _ _); first | (with_reducible refine wgs_consM ?_) | (with_reducible refine wgs_nilM ?_)) | ((with_reducible show Ct.WO _ _ _ _ _ _); first | (with_reducible refine wo_none ?_) | (with_reducible refine wo_part ?_))
  | (with_reducible refine wu_neg ?_) | ((with_reducible show Exists _); walk_at "wx"))
local macro_rules | `(tactic| walk_at "s") => `(tactic| repeat walk_at "e")
local macro_rules | `(tactic| walk_at "f") => `(tactic| (refine ws_seq ?_; repeat walk_at "e"))
local macro_rules | `(tactic| walk_at "c") => `(tactic| ((refine ws_seq (ws_asg (we_lstC ?_))); (repeat walk_at "e")))
/-! ### is_whole -/
abbrev s_is_whole : Stmt := topS 5
abbrev N_is_whole : List Str := ["value"]
theorem sc_is_whole : FnScope N_is_whole ["value"] (defScope s_is_whole) := ⟨rfl, rfl, rfl, by decide +kernel, rfl, by decide +kernel, by decide +kernel⟩
def wholeD : PyData → Bool
  | .int _ => true
  | _ => false
def pre_is_whole : Pre := fun xs st Φ => ∃ d, xs = [.pd d] ∧ (∃ i, d = .int i) ∧ Φ (.pd (.bool true)) st
theorem ok_is_whole (Z : Zs mg) (dd : Df K mg "is_whole" s_is_whole) : Cal P w K mg base 1 "is_whole" ["value"] (spP K T 1 pre_is_whole) := by
  refine dd.cal (fun f fd F => F.ok sc_is_whole (fun vs H Q E h => spP_len h) fun cdv A outer s H vs Q E hr h => ?_) (fun _ _ _ _ _ _ us hl => match us, hl with | [_], _ => rfl)
  have nd := sc_is_whole.nd
  have hu := room_u hr
  refine ⟨_, (pss_one (ps_ret (pe_and (pe_callB (call_isiK (K := K) rfl) (by rfl) Z.isinstance boot_isinstance (pa_cons (pv 0) (pa_cons (pe_tyN (by rfl) Z.int_ boot_int) pa_nil))) (pe_one (pe_not (pe_callB (call_isiK (K := K) rfl) (by rfl) Z.isinstance boot_isinstance (pa_cons (pv 0) (pa_cons (pe_tyN (by rfl) Z.bool_ boot_bool) pa_nil)))))))), fn_run h ?_⟩
  intro xs st Φ hl hp
  clear hl h hu hr nd
  try dsimp only [L2.cxOf]
  obtain ⟨d, rfl, ⟨i, rfl⟩, q⟩ := hp
  refine ws_ret (we_andV (we_cb (wa_cons (we_var rfl (wa_cons (we_ty (wa_nil (wc_isi rfl rfl ?_))))))))
  refine ⟨_, rfl, fun _ => we_notV (we_cb (wa_cons (we_var rfl (wa_cons (we_ty (wa_nil (wc_isi rfl rfl ?_))))))), fun h => by cases h⟩
  exact ⟨_, rfl, fin_pd (by simp) q⟩
/-! ### whole_from -/
abbrev s_whole_from : Stmt := topS 6
abbrev N_whole_from : List Str := ["value", "least"]
theorem sc_whole_from : FnScope N_whole_from ["value", "least"] (defScope s_whole_from) := ⟨rfl, rfl, rfl, by decide +kernel, rfl, by decide +kernel, by decide +kernel⟩
def pre_whole_from : Pre := fun xs st Φ => ∃ i j, xs = [.pd (.int i), .pd (.int j)] ∧ Φ (.pd (.bool (decide (j ≤ i)))) st
theorem ok_whole_from (c_is_whole : Cal P w K mg base 1 "is_whole" ["value"] (spP K T 1 pre_is_whole)) (dd : Df K mg "whole_from" s_whole_from) : Cal P w K mg base 2 "whole_from" ["value", "least"] (spP K T 2 pre_whole_from) := by
  refine dd.cal (fun f fd F => F.ok sc_whole_from (fun vs H Q E h => spP_len h) fun cdv A outer s H vs Q E hr h => ?_) (fun _ _ _ _ _ _ us hl => match us, hl with | [_, _], _ => rfl)
  have nd := sc_whole_from.nd
  have hu := room_u hr
  refine ⟨_, (pss_one (ps_ret (pe_and (pe_callC c_is_whole (hr.mono (by decide)) (by rfl) (pa_cons (pv 0) pa_nil)) (pe_one (pe_cmpR op_ge (pv 0) (pv 1) (nomark _)))))), fn_run h ?_⟩
  intro xs st Φ hl hp
  clear hl h hu hr nd
  try dsimp only [L2.cxOf]
  obtain ⟨i, j, rfl, q⟩ := hp
  refine ws_ret (we_andV (we_call (wa_cons (we_var rfl (wa_nil ⟨rfl, _, rfl, ⟨_, rfl⟩, ?_⟩)))))
  refine ⟨_, rfl, fun _ => we_op (we_var rfl (we_var rfl (wr_I0 rfl ?_))), fun h => by cases h⟩
  exact fin_pd (by simp) q
/-! ### check_most -/
abbrev s_check_most : Stmt := topS 12
abbrev N_check_most : List Str := ["what", "many", "most"]
theorem sc_check_most : FnScope N_check_most ["what", "many", "most"] (defScope s_check_most) := ⟨rfl, rfl, rfl, by decide +kernel, rfl, by decide +kernel, by decide +kernel⟩
def pre_check_most : Pre := fun xs st Φ => ∃ w i m, xs = [.pd w, .pd (.int i), .pd (.int m)] ∧ i ≤ m ∧ Φ (.pd .none) st
theorem ok_check_most (c_is_whole : Cal P w K mg base 1 "is_whole" ["value"] (spP K T 1 pre_is_whole)) (dd : Df K mg "check_most" s_check_most) : Cal P w K mg base 2 "check_most" ["what", "many", "most"] (spP K T 3 pre_check_most) := by
  refine dd.cal (fun f fd F => F.ok sc_check_most (fun vs H Q E h => spP_len h) fun cdv A outer s H vs Q E hr h => ?_) (fun _ _ _ _ _ _ us hl => match us, hl with | [_, _, _], _ => rfl)
  have nd := sc_check_most.nd
  have hu := room_u hr
  refine ⟨_, (pss_one (ps_if (PW.pt (pw_and (pt_val (pe_callC c_is_whole (hr.mono (by decide)) (by rfl) (pa_cons (pv 1) pa_nil))) (pw_and1 (pt_cmpR op_gt (pv 1) (pv 2) (nomark _))))) (pss_one ps_never) pss_nil)), fn_run h ?_⟩
  intro xs st Φ hl hp
  clear hl h hu hr nd
  try dsimp only [L2.cxOf]
  obtain ⟨v, i, m, rfl, hi, q⟩ := hp
  walk_at "s"
  refine ⟨by rfl, _, rfl, ⟨_, rfl⟩, ?_⟩
  walk_at "s"
  refine ⟨fun _ => ?_, fun h => by cases h⟩
  walk_at "s"
  refine ⟨fun h => absurd (of_decide_eq_true h) (by omega), fun _ => ?_⟩
  walk_at "s"
  exact fin_pd (by simp) q
/-! ### check_numbers -/
abbrev s_check_numbers : Stmt := topS 13
abbrev N_check_numbers : List Str := ["what", "numbers", "most", "number"]
theorem sc_check_numbers : FnScope N_check_numbers ["what", "numbers", "most"] (defScope s_check_numbers) := ⟨rfl, rfl, rfl, by decide +kernel, rfl, by decide +kernel, by decide +kernel⟩
def pre_check_numbers : Pre := fun xs st Φ => ∃ (w : PyData) (ns : List Int) (m : Int), xs = [.pd w, .pd (.list (ns.map PyData.int)), .pd (.int m)] ∧ (∀ n ∈ ns, n ≤ m) ∧ Φ (.pd .none) st
theorem ok_check_numbers (c_check_most : Cal P w K mg base 2 "check_most" ["what", "many", "most"] (spP K T 3 pre_check_most)) (dd : Df K mg "check_numbers" s_check_numbers) : Cal P w K mg base 3 "check_numbers" ["what", "numbers", "most"] (spP K T 3 pre_check_numbers) := by
  refine dd.cal (fun f fd F => F.ok sc_check_numbers (fun vs H Q E h => spP_len h) fun cdv A outer s H vs Q E hr h => ?_) (fun _ _ _ _ _ _ us hl => match us, hl with | [_, _, _], _ => rfl)
  have nd := sc_check_numbers.nd
  have hu := room_u hr
  refine ⟨_, (pss_one (ps_for PassesOwn.never rfl (pi_list (pv 1)) (pg_name (i := 3) nd rfl (.inl rfl)) (pss_one (ps_expr (pe_callC c_check_most (hr.mono (by decide)) (by rfl) (pa_cons (pv 0) (pa_cons (pv 3) (pa_cons (pv 2) pa_nil)))))))), fn_run h ?_⟩
  intro xs st Φ hl hp
  clear hl h hu hr nd
  try dsimp only [L2.cxOf]
  obtain ⟨v, ns, m, rfl, hb, q⟩ := hp
  refine ws_forL (we_var rfl ?_)
  refine ⟨ns.map .int, rfl, fun i ss' st' => st' = st ∧ ∃ y, ss' = [some (.pd v), some (.pd (.list (ns.map .int))), some (.pd (.int m)), y], ⟨rfl, _, rfl⟩, ?_, ?_⟩
  · rintro i d ss' st' hd ⟨rfl, y, rfl⟩
    obtain ⟨n, hn, rfl⟩ : ∃ n, n ∈ ns ∧ d = .int n := by
      obtain ⟨n, hn, e⟩ := List.mem_map.mp (List.mem_of_getElem? hd)
      exact ⟨n, hn, e.symm⟩
    walk_at "s"
    refine ⟨by rfl, _, _, _, rfl, hb n hn, ?_⟩
    exact ⟨rfl, _, rfl⟩
  · rintro ss' st' ⟨rfl, y, rfl⟩
    exact fin_pd (by simp) q
/-! ### lesser_end -/
abbrev s_lesser_end : Stmt := topS 17
abbrev N_lesser_end : List Str := ["one", "other"]
theorem sc_lesser_end : FnScope N_lesser_end ["one", "other"] (defScope s_lesser_end) := ⟨rfl, rfl, rfl, by decide +kernel, rfl, by decide +kernel, by decide +kernel⟩
def pre_lesser_end : Pre := fun xs st Φ => ∃ a b, xs = [.pd (eOpt a), .pd (eOpt b)] ∧ Φ (.pd (eOpt (lesserEnd a b))) st
theorem ok_lesser_end (dd : Df K mg "lesser_end" s_lesser_end) : Cal P w K mg base 1 "lesser_end" ["one", "other"] (spP K T 2 pre_lesser_end) := by
  refine dd.cal (fun f fd F => F.ok sc_lesser_end (fun vs H Q E h => spP_len h) fun cdv A outer s H vs Q E hr h => ?_) (fun _ _ _ _ _ _ us hl => match us, hl with | [_, _], _ => rfl)
  have nd := sc_lesser_end.nd
  have hu := room_u hr
  refine ⟨_, (pss_cons (ps_if (pt_cmpR op_isN (pv 0) pe_non (nomark _)) (pss_one (ps_ret (pv 1))) pss_nil) (pss_one (ps_ret (pe_ifExp (PW.pt (pw_or (pt_cmpR op_isN (pv 1) pe_non (nomark _)) (pw_or1 (pt_cmpR op_lt (pv 0) (pv 1) (nomark _))))) (pv 0) (pv 1))))), fn_run h ?_⟩
  intro xs st Φ hl hp
  clear hl h hu hr nd
  try dsimp only [L2.cxOf]
  obtain ⟨a, b, rfl, q⟩ := hp
  cases a with
  | none =>
    walk_at "f"
    refine ⟨fun _ => ?_, fun h => by cases h⟩
    walk_at "s"
    exact fin_pd (by simp) q
  | some a =>
    walk_at "f"
    refine ⟨fun h => (by cases h), fun _ => ?_⟩
    walk_at "s"
    cases b with
    | none =>
      refine ⟨fun _ => ⟨fun _ => ?_, fun h => by cases h⟩, fun h => by cases h⟩
      walk_at "s"
      exact fin_pd (by simp) q
    | some b =>
      refine ⟨fun h => (by cases h), fun _ => ?_⟩
      have q : Φ (.pd (eOpt (if a < b then some a else some b))) st := q
      rw [show eOpt (some a) = .int a from rfl, show eOpt (some b) = .int b from rfl]
      walk_at "s"
      refine ⟨fun h => ?_, fun h => ?_⟩
      · rw [if_pos (of_decide_eq_true h)] at q
        walk_at "s"
        exact fin_pd (by simp) q
      · rw [if_neg (of_decide_eq_false h)] at q
        walk_at "s"
        exact fin_pd (by simp) q
/-! ### arcs_meet -/
abbrev s_arcs_meet : Stmt := topS 18
abbrev N_arcs_meet : List Str := ["r", "s", "made", "at", "to", "first", "last"]
theorem sc_arcs_meet : FnScope N_arcs_meet ["r", "s"] (defScope s_arcs_meet) := ⟨rfl, rfl, rfl, by decide +kernel, rfl, by decide +kernel, by decide +kernel⟩
def pre_arcs_meet : Pre := fun xs st Φ => ∃ r s, xs = [.pd (eArcs r), .pd (eArcs s)] ∧ r.length + s.length ≤ 100000 ∧ Φ (.pd (eArcs (arcsMeet r s))) st
theorem snoc_arc (made : List Arc) (f : Int) (l : Option Int) : made.map eArc ++ [.tuple [.int f, eOpt l]] = (made ++ [(f, l)]).map eArc := by rw [List.map_append]; rfl
theorem snoc_arcN (made : List Arc) (f : Int) : made.map eArc ++ [.tuple [.int f, .none]] = (made ++ [(f, none)]).map eArc := by rw [List.map_append]; rfl
theorem snoc_arcS (made : List Arc) (f l : Int) : made.map eArc ++ [.tuple [.int f, .int l]] = (made ++ [(f, some l)]).map eArc := by rw [List.map_append]; rfl
theorem at_arc {r : List Arc} {i : Nat} (h : i < r.length) : atI (r.map eArc) (i : Int) = some (eArc r[i]) := by
  refine atI_nat ?_
  rw [List.getElem?_map, List.getElem?_eq_getElem h]
  rfl
theorem meetN_le : ∀ (n : Nat) (r s : List Arc), (meetN n r s).length ≤ n
  | 0, _, _ => Nat.le_refl _
  | _ + 1, [], _ => Nat.zero_le _
  | _ + 1, _ :: _, [] => Nat.zero_le _
  | n + 1, a :: r, b :: s => by
    unfold meetN
    split
    · simp
    · rename_i l _
      have h1 := meetN_le n r (b :: s)
      have h2 := meetN_le n (a :: r) s
      rw [List.length_append]
      have e1 : ∀ (c : Prop) [Decidable c] (x : Arc), (if c then [x] else []).length ≤ 1 := fun c _ x => by split <;> simp
      have e2 : (if a.2 = some l then meetN n r (b :: s) else meetN n (a :: r) s).length ≤ n := by split <;> assumption
      have := e1 ((if b.1 > a.1 then b.1 else a.1) ≤ l) (if b.1 > a.1 then b.1 else a.1, some l)
      omega
theorem eqv_opt (a : Option Int) (l : Int) : PyData.eqv (eOpt a) (.int l) = decide (a = some l) := by
  cases a with
  | none => simp [eOpt, PyData.eqv]
  | some x => 
    rw [eOpt, eqv_int]
    by_cases h : x = l <;> simp [h]
theorem shaped_opt (a : Option Int) : SeqAt.shaped (eOpt a) = true := by cases a <;> first | exact shaped_none | exact shaped_int _
theorem ok_arcs_meet (c_lesser_end : Cal P w K mg base 1 "lesser_end" ["one", "other"] (spP K T 2 pre_lesser_end)) (Z : Zs mg) (dd : Df K mg "arcs_meet" s_arcs_meet) : Cal P w K mg base 2 "arcs_meet" ["r", "s"] (spP K T 2 pre_arcs_meet) := by
  refine dd.cal (fun f fd F => F.ok sc_arcs_meet (fun vs H Q E h => spP_len h) fun cdv A outer s H vs Q E hr h => ?_) (fun _ _ _ _ _ _ us hl => match us, hl with | [_, _], _ => rfl)
  have nd := sc_arcs_meet.nd
  have hu := room_u hr
  refine ⟨_, (pss_cons (ps_asg (pe_lst pa_nil) (pg_name (i := 2) nd rfl (.inl rfl))) (pss_cons (ps_asg pe_int (pg_name (i := 3) nd rfl (.inl rfl))) (pss_cons (ps_asg pe_int (pg_name (i := 4) nd rfl (.inl rfl))) (pss_cons (ps_while PassesOwn.never (PW.pt (pw_and (pt_cmpR op_lt (pv 3) (pe_callB (call_lenK (K := K) rfl) (by rfl) Z.len PySem.boot_len (pa_cons (pv 0) pa_nil)) (nomark _)) (pw_and1 (pt_cmpR op_lt (pv 4) (pe_callB (call_lenK (K := K) rfl) (by rfl) Z.len PySem.boot_len (pa_cons (pv 1) pa_nil)) (nomark _))))) (pss_cons (ps_asg (pe_callB (call_max2 rfl) (by rfl) Z.max boot_max (pa_cons (pe_ix (ix_seqK (K := K) rfl) (pe_ix (ix_seqK (K := K) rfl) (pv 0) (pv 3) (fun _ _ => rfl)) pe_int (fun _ _ => rfl)) (pa_cons (pe_ix (ix_seqK (K := K) rfl) (pe_ix (ix_seqK (K := K) rfl) (pv 1) (pv 4) (fun _ _ => rfl)) pe_int (fun _ _ => rfl)) pa_nil))) (pg_name (i := 5) nd rfl (.inl rfl))) (pss_cons (ps_asg (pe_callC c_lesser_end (hr.mono (by decide)) (by rfl) (pa_cons (pe_ix (ix_seqK (K := K) rfl) (pe_ix (ix_seqK (K := K) rfl) (pv 0) (pv 3) (fun _ _ => rfl)) pe_int (fun _ _ => rfl)) (pa_cons (pe_ix (ix_seqK (K := K) rfl) (pe_ix (ix_seqK (K := K) rfl) (pv 1) (pv 4) (fun _ _ => rfl)) pe_int (fun _ _ => rfl)) pa_nil))) (pg_name (i := 6) nd rfl (.inl rfl))) (pss_cons (ps_if (PW.pt (pw_or (pt_cmpR op_isN (pv 6) pe_non (nomark _)) (pw_or1 (pt_cmpR op_le (pv 5) (pv 6) (nomark _))))) (pss_one (ps_expr (pe_bm PySem.F.plainAttrs_list PySem.F.slot_list_append PySem.F.type_list_append mt_append (pv 2) (pa_cons (pe_tup (pa_cons (pv 5) (pa_cons (pv 6) pa_nil))) pa_nil)))) pss_nil) (pss_cons (ps_if (pt_cmpR op_isN (pv 6) pe_non (nomark _)) (pss_one ps_break) pss_nil) (pss_one (ps_if (pt_cmpR (op_eqK (K := K) rfl hu) (pe_ix (ix_seqK (K := K) rfl) (pe_ix (ix_seqK (K := K) rfl) (pv 0) (pv 3) (fun _ _ => rfl)) pe_int (fun _ _ => rfl)) (pv 6) (nomark _)) (pss_one (ps_aug (i := 3) nd rfl (.inl rfl) pe_int ip_add)) (pss_one (ps_aug (i := 4) nd rfl (.inl rfl) pe_int ip_add))))))))) (pss_one (ps_ret (pv 2))))))), fn_run h ?_⟩
  intro xs st Φ hl hp
  clear hl h hu hr nd
  try dsimp only [L2.cxOf]
  obtain ⟨r, s, rfl, hl, q⟩ := hp
  walk_at "c"
  refine ws_seq (ws_while (fun m ss' st' => ∃ (at_ to : Nat) (made : List Arc) (y5 y6 : Option Val), ss' = [some (.pd (eArcs r)), some (.pd (eArcs s)), some (.cell st.length), some (.pd (.int at_)), some (.pd (.int to)), y5, y6] ∧ st' = st ++ [.mu (made.map eArc)] ∧
    at_ ≤ r.length ∧ to ≤ s.length ∧ m = (r.length - at_) + (s.length - to) ∧ made ++ meetN m (r.drop at_) (s.drop to) = arcsMeet r s) ⟨_, 0, 0, [], none, none, rfl, rfl, Nat.zero_le _, Nat.zero_le _, rfl, rfl⟩ ?_)
  rintro m ss' st' ⟨at_, to, made, y5, y6, rfl, rfl, h1, h2, rfl, he⟩
  have hmade : made.length ≤ r.length + s.length := by
    have h3 := congrArg List.length he
    have h4 := meetN_le (r.length + s.length) r s
    rw [List.length_append] at h3
    unfold arcsMeet at h3
    omega
  walk_at "s"
  refine ⟨fun hb => ?_, fun hb => ⟨fun h => (by cases h), fun _ => ?_⟩⟩
  · have hat : at_ < r.length := by
      have := of_decide_eq_true hb
      simp at this
      exact this
    walk_at "s"
    refine ⟨fun hb2 => ?_, fun hb2 => ?_⟩
    · have hto : to < s.length := by
        have := of_decide_eq_true hb2
        simp at this
        exact this
      walk_at "s"
      refine wr_ixuL rfl (at_arc hat) ?_
      walk_at "s"
      refine wr_ixuL rfl (at_arc hto) ?_
      walk_at "s"
      refine wr_ixuL rfl (at_arc hat) ?_
      walk_at "s"
      refine wr_ixuL rfl (at_arc hto) ?_
      walk_at "s"
      refine ⟨rfl, _, _, rfl, ?_⟩
      walk_at "s"
      have em : meetN ((r.length - at_) + (s.length - to)) (r.drop at_) (s.drop to) = match lesserEnd r[at_].2 s[to].2 with
        | none => [(if s[to].1 > r[at_].1 then s[to].1 else r[at_].1, none)]
        | some l => (if (if s[to].1 > r[at_].1 then s[to].1 else r[at_].1) ≤ l then [(if s[to].1 > r[at_].1 then s[to].1 else r[at_].1, some l)] else []) ++
          (if r[at_].2 = some l then meetN ((r.length - at_) + (s.length - to) - 1) (r.drop (at_ + 1)) (s.drop to) else meetN ((r.length - at_) + (s.length - to) - 1) (r.drop at_) (s.drop (to + 1))) := by
        obtain ⟨n, hn⟩ : ∃ n, (r.length - at_) + (s.length - to) = n + 1 := ⟨(r.length - at_) + (s.length - to) - 1, by omega⟩
        rw [hn, List.drop_eq_getElem_cons hat, List.drop_eq_getElem_cons hto]
        rfl
      rw [em] at he
      generalize hfirst : (if s[to].1 > r[at_].1 then s[to].1 else r[at_].1) = first at he ⊢
      refine ws_mid (fun ss' st' => ss' = [some (.pd (eArcs r)), some (.pd (eArcs s)), some (.cell st.length), some (.pd (.int at_)), some (.pd (.int to)), some (.pd (.int first)), some (.pd (eOpt (lesserEnd r[at_].2 s[to].2)))] ∧
        ∃ made' : List Arc, st' = st ++ [.mu (made'.map eArc)] ∧ made' = made ++ match lesserEnd r[at_].2 s[to].2 with
          | none => [(first, none)]
          | some l => if first ≤ l then [(first, some l)] else []) ?_ ?_
      · cases hlast : lesserEnd r[at_].2 s[to].2 with
        | none =>
          walk_at "s"
          refine ⟨fun _ => ⟨fun _ => ?_, fun h => (by cases h)⟩, fun h => (by cases h)⟩
          walk_at "s"
          exact ⟨rfl, _, by rw [snoc_arc], rfl⟩
        | some l =>
          rw [show eOpt (some l) = .int l from rfl]
          walk_at "s"
          refine ⟨fun h => (by cases h), fun _ => ?_⟩
          walk_at "s"
          refine ⟨fun h => ?_, fun h => ?_⟩
          · walk_at "s"
            exact ⟨rfl, _, by rw [snoc_arcS], by simp [of_decide_eq_true h]⟩
          · walk_at "s"
            exact ⟨rfl, made, rfl, by simp [of_decide_eq_false h]⟩
      · rintro ss' st' ⟨rfl, made', rfl, em'⟩
        cases hlast : lesserEnd r[at_].2 s[to].2 with
        | none =>
          rw [hlast] at he em'
          walk_at "f"
          refine ⟨fun _ => ?_, fun h => (by cases h)⟩
          walk_at "s"
          rw [show made' = arcsMeet r s from em'.trans he]
          exact fin_end q
        | some l =>
          rw [hlast] at he em'
          have he : made ++ ((if first ≤ l then [(first, some l)] else []) ++ if r[at_].2 = some l then meetN ((r.length - at_) + (s.length - to) - 1) (r.drop (at_ + 1)) (s.drop to) else meetN ((r.length - at_) + (s.length - to) - 1) (r.drop at_) (s.drop (to + 1))) = arcsMeet r s := he
          rw [← List.append_assoc, ← em'] at he
          walk_at "f"
          refine ⟨fun h => (by cases h), fun _ => ?_⟩
          walk_at "s"
          refine wr_ixuL rfl (at_arc hat) ?_
          walk_at "s"
          refine wr_eqD rfl rfl (shaped_opt _) (shaped_opt _) ?_
          walk_at "s"
          rw [show eOpt (some l) = .int l from rfl, eqv_opt]
          refine ⟨fun h => ?_, fun h => ?_⟩
          · rw [if_pos (of_decide_eq_true h)] at he
            walk_at "s"
            exact ⟨(r.length - at_) + (s.length - to) - 1, by omega, at_ + 1, to, made', _, _, rfl, rfl, hat, h2, by omega, he⟩
          · rw [if_neg (of_decide_eq_false h)] at he
            walk_at "s"
            exact ⟨(r.length - at_) + (s.length - to) - 1, by omega, at_, to + 1, made', _, _, rfl, rfl, h1, hto, by omega, he⟩
    · have hto : to = s.length := by
        have := of_decide_eq_false hb2
        simp at this
        omega
      walk_at "s"
      rw [hto, List.drop_length] at he
      have e0 : ∀ n r, meetN n r [] = [] := fun n r => by cases n <;> cases r <;> rfl
      rw [e0, List.append_nil] at he
      rw [he]
      exact fin_end q
  · have hat : at_ = r.length := by
      have := of_decide_eq_false hb
      simp at this
      omega
    walk_at "s"
    rw [hat, List.drop_length] at he
    have e0 : ∀ n s, meetN n [] s = [] := fun n s => by cases n <;> rfl
    rw [e0, List.append_nil] at he
    rw [he]
    exact fin_end q
/-! ### arcs_gathered -/
abbrev s_arcs_gathered : Stmt := topS 15
abbrev N_arcs_gathered : List Str := ["rows", "made", "first", "last", "begin", "end"]
theorem sc_arcs_gathered : FnScope N_arcs_gathered ["rows"] (defScope s_arcs_gathered) := ⟨rfl, rfl, rfl, by decide +kernel, rfl, by decide +kernel, by decide +kernel⟩
def pre_arcs_gathered : Pre := fun xs st Φ => ∃ rows : List Arc, xs = [.pd (eArcs rows)] ∧ rows.length ≤ 100000 ∧ Φ (.pd (eArcs (arcsGathered rows))) st
theorem gStep_le (made : List Arc) (a : Arc) : (gStep made a).length ≤ made.length + 1 := by
  unfold gStep
  split
  · simp
  · omega
  · split
    · simp
    · split
      · simp
      · split <;> simp
theorem gFold_le : ∀ (rows made : List Arc), (rows.foldl gStep made).length ≤ made.length + rows.length
  | [], made => Nat.le_refl _
  | a :: rows, made => by
    rw [List.foldl_cons]
    have h1 := gFold_le rows (gStep made a)
    have h2 := gStep_le made a
    rw [List.length_cons]
    omega
theorem sh_arcs (r : List Arc) : SeqAt.shaped (.list (r.map eArc)) = true := Sh.shaped (k := 2) (sh_list fun d hd => by
  obtain ⟨a, _, rfl⟩ := List.mem_map.mp hd
  refine sh_tuple fun e he => ?_
  rcases List.mem_cons.mp he with rfl | he
  · exact sh_int _
  · rw [List.mem_singleton.mp he]
    cases a.2 with
    | none => exact sh_none
    | some i => exact sh_int i)
theorem eqv_isNil (xs : List PyData) : PyData.eqv (.list xs) (.list []) = decide (xs = []) := by
  cases xs <;> simp [PyData.eqv, PyData.eqvAll]
def gRest (ini : List Arc) (b : Int) : Option Int → Option Int → List Arc
  | none, _ => ini ++ [(b, none)]
  | some _, none => ini ++ [(b, none)]
  | some e, some l => if l > e then ini ++ [(b, some l)] else ini ++ [(b, some e)]
theorem gStep_none (ini : List Arc) (b f : Int) (l : Option Int) : gStep (ini ++ [(b, none)]) (f, l) = gRest ini b none l := by
  unfold gStep
  rw [List.getLast?_append]
  rfl
theorem gStep_far (ini : List Arc) (b e f : Int) (l : Option Int) (h : f > e + 1) : gStep (ini ++ [(b, some e)]) (f, l) = ini ++ [(b, some e)] ++ [(f, l)] := by
  unfold gStep
  rw [List.getLast?_append]
  show (if f > e + 1 then _ else _) = _
  rw [if_pos h]
theorem gStep_near (ini : List Arc) (b e f : Int) (l : Option Int) (h : ¬ f > e + 1) : gStep (ini ++ [(b, some e)]) (f, l) = gRest ini b (some e) l := by
  unfold gStep
  rw [List.getLast?_append]
  show (if f > e + 1 then _ else _) = _
  rw [if_neg h]
  cases l with
  | none => exact set_last _ _ _
  | some l =>
    show (if l > e then _ else _) = (if l > e then _ else _)
    split
    · exact set_last _ _ _
    · rfl
theorem eArc_eqv (a b : Arc) : PyData.eqv (eArc a) (eArc b) = decide (a = b) := by
  obtain ⟨x, y⟩ := a
  obtain ⟨z, u⟩ := b
  show PyData.eqv (.tuple [.int x, eOpt y]) (.tuple [.int z, eOpt u]) = _
  rw [eqv_tuple, eqvAll_cons, eqvAll_cons, eqvAll_nil, eqv_int]
  have e : PyData.eqv (eOpt y) (eOpt u) = decide (y = u) := by
    cases y with
    | none => cases u <;> simp [eOpt, PyData.eqv]
    | some y =>
      cases u with
      | none => simp [eOpt, PyData.eqv]
      | some u =>
        show PyData.eqv (.int y) (.int u) = _
        rw [eqv_int]
        by_cases h : y = u <;> simp [h]
  rw [e]
  by_cases h1 : x = z <;> by_cases h2 : y = u <;> simp [h1, h2]
theorem ok_arcs_gathered (Z : Zs mg) (hG : Gath K base mg T "arcs_gathered" s_arcs_gathered) : Cal P w K mg base 1 "arcs_gathered" ["rows"] (spP K T 1 pre_arcs_gathered) := by
  refine gath_cal hG sc_arcs_gathered (fun vs H Q E h => spP_len h) (fun _ _ _ _ _ _ us hl => match us, hl with | [_], _ => rfl) (fun f c P1 TB hmT huT A outer s H vs Q E hr h => ?_)
  have nd := sc_arcs_gathered.nd
  have hu := room_u hr
  refine ⟨_, (pss_cons (ps_asg (pe_lst pa_nil) (pg_name (i := 1) nd rfl (.inl rfl))) (pss_cons (ps_for PassesOwn.never rfl (pi_list (pe_sortRow rfl rfl (by rfl) Z.sorted TB rfl hmT huT hr ⟨rfl, rfl, rfl, rfl⟩ (by decide) rfl (fun _ _ _ _ => rfl) (pa_cons (pv 0) pa_nil))) (pg_tup (n := 2) rfl (pgs_cons (pg_name (i := 2) nd rfl (.inl rfl)) (pgs_cons (pg_name (i := 3) nd rfl (.inl rfl)) pgs_nil))) (pss_cons (ps_if (PW.pt (pw_or (pt_cmpR (op_eqK (K := K) rfl hu) (pv 1) (pe_lst pa_nil) (nomark _)) (pw_or1 (PW.pt (pw_and (pt_cmpR op_notN (pe_ix (ix_seqK (K := K) rfl) (pe_ix (ix_seqK (K := K) rfl) (pv 1) (pe_un un_neg pe_int) (fun _ _ => rfl)) pe_int (fun _ _ => rfl)) pe_non (nomark _)) (pw_and1 (pt_cmpR op_gt (pv 2) (pe_op (op_addK (K := K) rfl) (pe_ix (ix_seqK (K := K) rfl) (pe_ix (ix_seqK (K := K) rfl) (pv 1) (pe_un un_neg pe_int) (fun _ _ => rfl)) pe_int (fun _ _ => rfl)) pe_int) (nomark _)))))))) (pss_cons (ps_expr (pe_bm PySem.F.plainAttrs_list PySem.F.slot_list_append PySem.F.type_list_append mt_append (pv 1) (pa_cons (pe_tup (pa_cons (pv 2) (pa_cons (pv 3) pa_nil))) pa_nil))) (pss_one ps_continue)) pss_nil) (pss_cons (ps_asg (pe_ix (ix_seqK (K := K) rfl) (pv 1) (pe_un un_neg pe_int) (fun _ _ => rfl)) (pg_or (pg_tup (n := 2) rfl (pgs_cons (pg_name (i := 4) nd rfl (.inl rfl)) (pgs_cons (pg_name (i := 5) nd rfl (.inl rfl)) pgs_nil))) (pg_unl (n := 2) rfl (pgs_cons (pg_name (i := 4) nd rfl (.inl rfl)) (pgs_cons (pg_name (i := 5) nd rfl (.inl rfl)) pgs_nil))))) (pss_one (ps_if (PW.pt (pw_and (pt_cmpR op_notN (pv 5) pe_non (nomark _)) (pw_and1 (PW.pt (pw_or (pt_cmpR op_isN (pv 3) pe_non (nomark _)) (pw_or1 (pt_cmpR op_gt (pv 3) (pv 5) (nomark _)))))))) (pss_one (ps_asg (pe_tup (pa_cons (pv 4) (pa_cons (pv 3) pa_nil))) (pg_sub (pv 1) (pe_un un_neg pe_int) set_list))) pss_nil))))) (pss_one (ps_ret (pv 1))))), fn_run h ?_⟩
  intro xs st Φ hl hp
  clear hl h hu hr nd
  try dsimp only [L2.cxOf]
  obtain ⟨rows, rfl, hl, q⟩ := hp
  walk_at "c"
  have es : (rows.map eArc).mergeSort rowLe = (rows.mergeSort arcLe).map eArc := (List.map_mergeSort (s := rowLe) (f := eArc) fun a _ b _ => rfl).symm
  refine ws_seq (ws_forL (we_sortRow (wa_cons (we_var rfl (wa_nil ⟨_, rows.map eArc, rfl, rfl, ?_, ?_⟩)))))
  · intro d hd
    obtain ⟨a, _, rfl⟩ := List.mem_map.mp hd
    exact ⟨a.1, _, rfl⟩
  rw [es]
  refine ⟨_, rfl, fun i ss' st' => ∃ y2 y3 y4 y5 : Option Val, ss' = [some (.pd (eArcs rows)), some (.cell st.length), y2, y3, y4, y5] ∧ st' = st ++ [.mu ((((rows.mergeSort arcLe).take i).foldl gStep []).map eArc)], ⟨_, _, _, _, rfl, rfl⟩, ?_, ?_⟩
  · rintro i d ss' st' hd ⟨y2, y3, y4, y5, rfl, rfl⟩
    obtain ⟨a, ha, rfl⟩ : ∃ a, (rows.mergeSort arcLe)[i]? = some a ∧ d = eArc a := by
      rw [List.getElem?_map] at hd
      cases e : (rows.mergeSort arcLe)[i]? with
      | none =>
        rw [e] at hd
        cases hd
      | some a =>
        rw [e] at hd
        exact ⟨a, rfl, (Option.some.inj hd).symm⟩
    have hi : i < rows.length := by
      have := (List.getElem?_eq_some_iff.mp ha).1
      rw [List.length_mergeSort] at this
      exact this
    have hf : ((rows.mergeSort arcLe).take (i + 1)).foldl gStep [] = gStep (((rows.mergeSort arcLe).take i).foldl gStep []) a := by
      rw [List.take_add_one, ha, List.foldl_append]
      rfl
    have hb := gFold_le ((rows.mergeSort arcLe).take i) []
    rw [List.length_take] at hb
    simp only [List.length_nil] at hb
    dsimp only
    rw [hf]
    generalize ((rows.mergeSort arcLe).take i).foldl gStep [] = made at hb ⊢
    obtain ⟨f, l⟩ := a
    walk_at "s"

    rcases List.eq_nil_or_concat made with rfl | ⟨ini, x, rfl⟩
    · walk_at "f"
      refine wr_eqD look_end rfl rfl rfl ?_
      walk_at "s"
      refine ⟨fun _ => ⟨fun _ => ?_, fun h => (by cases h)⟩, fun h => (by cases h)⟩
      walk_at "s"
      exact ⟨_, _, _, _, rfl, by rfl⟩
    · obtain ⟨b, e⟩ := x
      rw [List.concat_eq_append] at hb ⊢
      have hlen : ini.length < 100000 := by
        rw [List.length_append] at hb
        simp only [List.length_cons, List.length_nil] at hb
        omega
      rw [show (ini ++ [(b, e)]).map eArc = ini.map eArc ++ [eArc (b, e)] by rw [List.map_append]; rfl]
      have hne : PyData.eqv (.list (ini.map eArc ++ [eArc (b, e)])) (.list []) = false := by
        rw [eqv_isNil]
        simp
      have hsh : SeqAt.shaped (.list (ini.map eArc ++ [eArc (b, e)])) = true := by
        have := sh_arcs (ini ++ [(b, e)])
        rw [List.map_append] at this
        exact this
      walk_at "f"
      refine wr_eqD look_end rfl hsh rfl ?_
      rw [hne]
      walk_at "s"
      refine ⟨fun h => (by cases h), fun _ => ?_⟩
      walk_at "s"
      refine wr_ixuL look_end (atI_last _ _) ?_
      walk_at "s"
      have tail : ∀ m : List Arc, gRest ini b e l = m → Ct.WS K T (tSeq (tAsg (tOp (rIx K) (tVar 1) (tUn (rU fun i => V.int (-i)) (tC (V.int 1)))) (gOr (gTup K 2 (gCons (gName 4) (gCons (gName 5) gNil))) (gUnl K 2 (gCons (gName 4) (gCons (gName 5) gNil)))))
            (tIfS (tAnd (tTest (tOp (fun x y H Q => y = V.non ∧ Q (V.bl (!decide (x = V.non))) H) (tVar 5) (tC V.non))) (tOr (tTest (tOp (fun x y H Q => y = V.non ∧ Q (V.bl (decide (x = V.non))) H) (tVar 3) (tC V.non))) (tTest (tOp (rI0 fun i j => V.bl (decide (j < i))) (tVar 3) (tVar 5)))))
              (tAsg (tTup (tCons (tVar 4) (tCons (tVar 3) tNil))) (gSub (tVar 1) (tUn (rU fun i => V.int (-i)) (tC (V.int 1))) rSetL)) tNext))
          [some (.pd (eArcs rows)), some (.cell st.length), some (.pd (.int f)), some (.pd (eOpt l)), y4, y5] (st ++ [.mu (ini.map eArc ++ [eArc (b, e)])])
          (inTurn { nx := fun ss1 st1 => WS K T (tRet (tVar 1)) ss1 st1 (PoF st.length Φ), rt := (PoF st.length Φ).rt, bk := (PoF st.length Φ).bk, ct := (PoF st.length Φ).ct } fun ss' st' => ∃ y2 y3 y4 y5 : Option Val, ss' = [some (.pd (eArcs rows)), some (.cell st.length), y2, y3, y4, y5] ∧ st' = st ++ [.mu (m.map eArc)]) := by
        rintro m rfl
        walk_at "s"
        refine wr_ixuL look_end (atI_last _ _) ?_
        walk_at "s"
        have fin : ∀ z : Option Int, Ct.WS K T (tAsg (tTup (tCons (tVar 4) (tCons (tVar 3) tNil))) (gSub (tVar 1) (tUn (rU fun i => V.int (-i)) (tC (V.int 1))) rSetL))
            [some (.pd (eArcs rows)), some (.cell st.length), some (.pd (.int f)), some (.pd (eOpt z)), some (.pd (.int b)), some (.pd (eOpt e))] (st ++ [.mu (ini.map eArc ++ [eArc (b, e)])])
            (inTurn { nx := fun ss1 st1 => WS K T (tRet (tVar 1)) ss1 st1 (PoF st.length Φ), rt := (PoF st.length Φ).rt, bk := (PoF st.length Φ).bk, ct := (PoF st.length Φ).ct } fun ss' st' => ∃ y2 y3 y4 y5 : Option Val, ss' = [some (.pd (eArcs rows)), some (.cell st.length), y2, y3, y4, y5] ∧ st' = st ++ [.mu ((ini ++ [(b, z)]).map eArc)]) := by
          intro z
          walk_at "s"
          refine wg_sub ?_
          walk_at "s"
          refine wx_end (ixN_last (by simp)) ?_
          rw [set_last]
          exact ⟨_, _, _, _, rfl, by rw [List.map_append]; rfl⟩
        cases e with
        | none =>
          refine ⟨fun h => (by cases h), fun _ => ⟨fun h => (by cases h), fun _ => ?_⟩⟩
          walk_at "s"
          exact ⟨_, _, _, _, rfl, by rw [show gRest ini b none l = ini ++ [(b, none)] from rfl, List.map_append]; rfl⟩
        | some e =>
          refine ⟨fun _ => ?_, fun h => (by cases h)⟩
          cases l with
          | none =>
            walk_at "s"
            refine ⟨fun _ => ⟨fun _ => ?_, fun h => (by cases h)⟩, fun h => (by cases h)⟩
            exact fin none
          | some l =>
            rw [show eOpt (some l) = .int l from rfl, show eOpt (some e) = .int e from rfl]
            walk_at "s"
            refine ⟨fun h => (by cases h), fun _ => ?_⟩
            walk_at "s"
            refine ⟨fun h => ?_, fun h => ?_⟩
            · have := fin (some l)
              rw [show gRest ini b (some e) (some l) = ini ++ [(b, some l)] from if_pos (of_decide_eq_true h)]
              exact this
            · walk_at "s"
              refine ⟨_, _, _, _, rfl, ?_⟩
              rw [show gRest ini b (some e) (some l) = ini ++ [(b, some e)] from if_neg (of_decide_eq_false h), List.map_append]
              rfl
      cases e with
      | none =>
        refine ⟨fun h => (by cases h), fun _ => ⟨fun h => (by cases h), fun _ => ?_⟩⟩
        refine ws_next ?_
        rw [gStep_none]
        exact tail _ rfl
      | some e =>
        refine ⟨fun _ => ?_, fun h => (by cases h)⟩
        walk_at "s"
        refine wr_ixuL look_end (atI_last _ _) ?_
        walk_at "s"
        rw [show eOpt (some e) = .int e from rfl]
        walk_at "s"
        refine ⟨fun h => ?_, fun h => ?_⟩
        · have hb2 : f > e + 1 := of_decide_eq_true h
          walk_at "s"
          refine ⟨_, _, _, _, rfl, ?_⟩
          rw [gStep_far _ _ _ _ _ hb2, List.map_append, List.map_append]
          rfl
        · have hb2 : ¬ f > e + 1 := of_decide_eq_false h
          refine ws_next ?_
          exact tail _ (gStep_near _ _ _ _ _ hb2).symm
  · rintro ss' st' ⟨y2, y3, y4, y5, rfl, rfl⟩
    have e : (rows.mergeSort arcLe).take ((rows.mergeSort arcLe).map eArc).length = rows.mergeSort arcLe := by rw [List.length_map, List.take_length]
    rw [e]
    walk_at "s"
    exact fin_end q
/-! ### arcs_union -/
abbrev s_arcs_union : Stmt := topS 16
abbrev N_arcs_union : List Str := ["r", "s"]
theorem sc_arcs_union : FnScope N_arcs_union ["r", "s"] (defScope s_arcs_union) := ⟨rfl, rfl, rfl, by decide +kernel, rfl, by decide +kernel, by decide +kernel⟩
def pre_arcs_union : Pre := fun xs st Φ => ∃ r s : List Arc, xs = [.pd (eArcs r), .pd (eArcs s)] ∧ r.length + s.length ≤ 100000 ∧ Φ (.pd (eArcs (arcsUnion r s))) st
theorem ok_arcs_union (c_arcs_gathered : Cal P w K mg base 1 "arcs_gathered" ["rows"] (spP K T 1 pre_arcs_gathered)) (Z : Zs mg) (dd : Df K mg "arcs_union" s_arcs_union) : Cal P w K mg base 2 "arcs_union" ["r", "s"] (spP K T 2 pre_arcs_union) := by
  refine dd.cal (fun f fd F => F.ok sc_arcs_union (fun vs H Q E h => spP_len h) fun cdv A outer s H vs Q E hr h => ?_) (fun _ _ _ _ _ _ us hl => match us, hl with | [_, _], _ => rfl)
  have nd := sc_arcs_union.nd
  have hu := room_u hr
  refine ⟨_, (pss_one (ps_ret (pe_callC c_arcs_gathered (hr.mono (by decide)) (by rfl) (pa_cons (pe_op (op_addK (K := K) rfl) (pe_callTy (call_listK (K := K) rfl) (by rfl) Z.list_ boot_list (pa_cons (pv 0) pa_nil)) (pe_callTy (call_listK (K := K) rfl) (by rfl) Z.list_ boot_list (pa_cons (pv 1) pa_nil))) pa_nil)))), fn_run h ?_⟩
  intro xs st Φ hl hp
  clear hl h hu hr nd
  try dsimp only [L2.cxOf]
  obtain ⟨r, s, rfl, hl, q⟩ := hp
  walk_at "s"
  refine wc_listC rfl ?_
  walk_at "s"
  refine wc_listC rfl ?_
  refine wr_addL (xs := r.map eArc) (ys := s.map eArc) ?_ ?_ ?_ ?_
  · rw [List.append_assoc]
    exact look_end
  · exact look_end
  · simp only [List.length_map]
    exact big_le (by omega)
  walk_at "s"
  refine ⟨by rfl, r ++ s, by rw [← List.map_append], by rw [List.length_append]; exact hl, ?_⟩
  rw [List.append_assoc]
  exact fin_end q
/-! ### arcs_other -/
abbrev s_arcs_other : Stmt := topS 19
abbrev N_arcs_other : List Str := ["r", "made", "line", "first", "last"]
theorem sc_arcs_other : FnScope N_arcs_other ["r"] (defScope s_arcs_other) := ⟨rfl, rfl, rfl, by decide +kernel, rfl, by decide +kernel, by decide +kernel⟩
def pre_arcs_other : Pre := fun xs st Φ => ∃ r : List Arc, xs = [.pd (eArcs r)] ∧ r.length ≤ 100000 ∧ Φ (.pd (eArcs (otherF 0 r))) st
theorem otherF_le : ∀ (line : Int) (r : List Arc), (otherF line r).length ≤ r.length + 1
  | line, [] => Nat.le_refl _
  | line, (f, none) :: r => by
    unfold otherF
    split <;> simp
  | line, (f, some l) :: r => by
    unfold otherF
    have h := otherF_le (l + 1) r
    rw [List.length_append, List.length_cons]
    split <;> simp <;> omega
theorem ok_arcs_other (dd : Df K mg "arcs_other" s_arcs_other) : Cal P w K mg base 1 "arcs_other" ["r"] (spP K T 1 pre_arcs_other) := by
  refine dd.cal (fun f fd F => F.ok sc_arcs_other (fun vs H Q E h => spP_len h) fun cdv A outer s H vs Q E hr h => ?_) (fun _ _ _ _ _ _ us hl => match us, hl with | [_], _ => rfl)
  have nd := sc_arcs_other.nd
  have hu := room_u hr
  refine ⟨_, (pss_cons (ps_asg (pe_lst pa_nil) (pg_name (i := 1) nd rfl (.inl rfl))) (pss_cons (ps_asg pe_int (pg_name (i := 2) nd rfl (.inl rfl))) (pss_cons (ps_for PassesOwn.never rfl (pi_list (pv 0)) (pg_tup (n := 2) rfl (pgs_cons (pg_name (i := 3) nd rfl (.inl rfl)) (pgs_cons (pg_name (i := 4) nd rfl (.inl rfl)) pgs_nil))) (pss_cons (ps_if (pt_cmpR op_gt (pv 3) (pv 2) (nomark _)) (pss_one (ps_expr (pe_bm PySem.F.plainAttrs_list PySem.F.slot_list_append PySem.F.type_list_append mt_append (pv 1) (pa_cons (pe_tup (pa_cons (pv 2) (pa_cons (pe_op op_sub (pv 3) pe_int) pa_nil))) pa_nil)))) pss_nil) (pss_cons (ps_if (pt_cmpR op_isN (pv 4) pe_non (nomark _)) (pss_one (ps_ret (pv 1))) pss_nil) (pss_one (ps_asg (pe_op (op_addK (K := K) rfl) (pv 4) pe_int) (pg_name (i := 2) nd rfl (.inl rfl))))))) (pss_cons (ps_expr (pe_bm PySem.F.plainAttrs_list PySem.F.slot_list_append PySem.F.type_list_append mt_append (pv 1) (pa_cons (pe_tup (pa_cons (pv 2) (pa_cons pe_non pa_nil))) pa_nil))) (pss_one (ps_ret (pv 1))))))), fn_run h ?_⟩
  intro xs st Φ hl hp
  clear hl h hu hr nd
  try dsimp only [L2.cxOf]
  obtain ⟨r, rfl, hl, q⟩ := hp
  walk_at "c"
  refine ws_seq (ws_forL (we_var rfl ⟨_, rfl, fun i ss' st' => ∃ (made : List Arc) (line : Int) (y3 y4 : Option Val), ss' = [some (.pd (eArcs r)), some (.cell st.length), some (.pd (.int line)), y3, y4] ∧ st' = st ++ [.mu (made.map eArc)] ∧ made ++ otherF line (r.drop i) = otherF 0 r,
    ⟨[], 0, none, none, rfl, rfl, rfl⟩, ?_, ?_⟩))
  · rintro i d ss' st' hd ⟨made, line, y3, y4, rfl, rfl, he⟩
    obtain ⟨a, ha, rfl⟩ : ∃ a, r[i]? = some a ∧ d = eArc a := by
      rw [List.getElem?_map] at hd
      cases e : r[i]? with
      | none =>
        rw [e] at hd
        cases hd
      | some a =>
        rw [e] at hd
        exact ⟨a, rfl, (Option.some.inj hd).symm⟩
    obtain ⟨hi, ha⟩ := List.getElem?_eq_some_iff.mp ha
    have hb := otherF_le 0 r
    rw [← he, List.length_append] at hb
    obtain ⟨f, l⟩ := a
    rw [List.drop_eq_getElem_cons hi, ha] at he
    walk_at "s"
    refine ws_mid (fun ss' st' => ss' = [some (.pd (eArcs r)), some (.cell st.length), some (.pd (.int line)), some (.pd (.int f)), some (.pd (eOpt l))] ∧ st' = st ++ [.mu ((made ++ if f > line then [(line, some (f - 1))] else []).map eArc)]) ?_ ?_
    · walk_at "s"
      refine ⟨fun h => ?_, fun h => ?_⟩
      · walk_at "s"
        exact ⟨rfl, by rw [snoc_arcS, if_pos (of_decide_eq_true h)]⟩
      · walk_at "s"
        exact ⟨rfl, by rw [if_neg (of_decide_eq_false h), List.append_nil]⟩
    · rintro ss' st' ⟨rfl, rfl⟩
      cases l with
      | none =>
        walk_at "f"
        refine ⟨fun _ => ?_, fun h => (by cases h)⟩
        walk_at "s"
        rw [show made ++ (if f > line then [(line, some (f - 1))] else []) = otherF 0 r from he]
        exact fin_end q
      | some l =>
        rw [show eOpt (some l) = .int l from rfl]
        walk_at "f"
        refine ⟨fun h => (by cases h), fun _ => ?_⟩
        walk_at "s"
        refine ⟨_, _, _, _, rfl, rfl, ?_⟩
        rw [List.append_assoc]
        exact he
  · rintro ss' st' ⟨made, line, y3, y4, rfl, rfl, he⟩
    rw [List.length_map, List.drop_length] at he
    have hb := otherF_le 0 r
    rw [← he, List.length_append] at hb
    walk_at "s"
    rw [snoc_arcN, show made ++ [(line, none)] = otherF 0 r from he]
    exact fin_end q
/-! ### arcs_minus -/
abbrev s_arcs_minus : Stmt := topS 20
abbrev N_arcs_minus : List Str := ["r", "s"]
theorem sc_arcs_minus : FnScope N_arcs_minus ["r", "s"] (defScope s_arcs_minus) := ⟨rfl, rfl, rfl, by decide +kernel, rfl, by decide +kernel, by decide +kernel⟩
def pre_arcs_minus : Pre := fun xs st Φ => ∃ r s : List Arc, xs = [.pd (eArcs r), .pd (eArcs s)] ∧ r.length + s.length ≤ 90000 ∧ Φ (.pd (eArcs (arcsMinus r s))) st
theorem ok_arcs_minus (c_arcs_meet : Cal P w K mg base 2 "arcs_meet" ["r", "s"] (spP K T 2 pre_arcs_meet)) (c_arcs_other : Cal P w K mg base 1 "arcs_other" ["r"] (spP K T 1 pre_arcs_other)) (dd : Df K mg "arcs_minus" s_arcs_minus) : Cal P w K mg base 3 "arcs_minus" ["r", "s"] (spP K T 2 pre_arcs_minus) := by
  refine dd.cal (fun f fd F => F.ok sc_arcs_minus (fun vs H Q E h => spP_len h) fun cdv A outer s H vs Q E hr h => ?_) (fun _ _ _ _ _ _ us hl => match us, hl with | [_, _], _ => rfl)
  have nd := sc_arcs_minus.nd
  have hu := room_u hr
  refine ⟨_, (pss_one (ps_ret (pe_callC c_arcs_meet (hr.mono (by decide)) (by rfl) (pa_cons (pv 0) (pa_cons (pe_callC c_arcs_other (hr.mono (by decide)) (by rfl) (pa_cons (pv 1) pa_nil)) pa_nil))))), fn_run h ?_⟩
  intro xs st Φ hl hp
  clear hl h hu hr nd
  try dsimp only [L2.cxOf]
  obtain ⟨r, s, rfl, hl, q⟩ := hp
  walk_at "s"
  refine ⟨by rfl, s, rfl, by omega, ?_⟩
  have h := otherF_le 0 s
  walk_at "s"
  refine ⟨by rfl, r, _, rfl, by omega, ?_⟩
  exact fin_pd (by simp) q
/-! ### check_like -/
abbrev s_check_like : Stmt := topS 22
abbrev N_check_like : List Str := ["a", "b", "c", "H", "m", "r", "one"]
theorem sc_check_like : FnScope N_check_like ["a", "b", "c", "H", "m", "r"] (defScope s_check_like) := ⟨rfl, rfl, rfl, by decide +kernel, rfl, by decide +kernel, by decide +kernel⟩
def pre_check_like : Pre := fun xs st Φ => ∃ a b c H m r : Int, xs = [.pd (.int a), .pd (.int b), .pd (.int c), .pd (.int H), .pd (.int m), .pd (.int r)] ∧ Good a b c H m r ∧ Φ (.pd .none) st
theorem ok_check_like (c_whole_from : Cal P w K mg base 2 "whole_from" ["value", "least"] (spP K T 2 pre_whole_from)) (c_is_whole : Cal P w K mg base 1 "is_whole" ["value"] (spP K T 1 pre_is_whole)) (c_check_most : Cal P w K mg base 2 "check_most" ["what", "many", "most"] (spP K T 3 pre_check_most)) (c_check_numbers : Cal P w K mg base 3 "check_numbers" ["what", "numbers", "most"] (spP K T 3 pre_check_numbers)) (x_RANGE : ∃ t, mg "RANGE" = some (.int c_RANGE t)) (x_LEAD : ∃ t, mg "LEAD" = some (.int c_LEAD t)) (x_PAGE : ∃ t, mg "PAGE" = some (.int c_PAGE t)) (x_LENGTHS : ∃ t, mg "LENGTHS" = some (.int c_LENGTHS t)) (dd : Df K mg "check_like" s_check_like) : Cal P w K mg base 4 "check_like" ["a", "b", "c", "H", "m", "r"] (spP K T 6 pre_check_like) := by
  obtain ⟨_, h_RANGE⟩ := x_RANGE
  obtain ⟨_, h_LEAD⟩ := x_LEAD
  obtain ⟨_, h_PAGE⟩ := x_PAGE
  obtain ⟨_, h_LENGTHS⟩ := x_LENGTHS
  refine dd.cal (fun f fd F => F.ok sc_check_like (fun vs H Q E h => spP_len h) fun cdv A outer s H vs Q E hr h => ?_) (fun _ _ _ _ _ _ us hl => match us, hl with | [_, _, _, _, _, _], _ => rfl)
  have nd := sc_check_like.nd
  have hu := room_u hr
  refine ⟨_, (pss_cons (ps_expr (pe_callC c_check_numbers (hr.mono (by decide)) (by rfl) (pa_cons pe_str (pa_cons (pe_lst (pa_cons (pv 0) (pa_cons (pv 1) (pa_cons (pv 2) pa_nil)))) (pa_cons (pe_glob (v := .int c_LENGTHS) rfl h_LENGTHS ⟨_, rfl⟩) pa_nil))))) (pss_cons (ps_expr (pe_callC c_check_most (hr.mono (by decide)) (by rfl) (pa_cons pe_str (pa_cons (pv 3) (pa_cons (pe_glob (v := .int c_PAGE) rfl h_PAGE ⟨_, rfl⟩) pa_nil))))) (pss_cons (ps_expr (pe_callC c_check_most (hr.mono (by decide)) (by rfl) (pa_cons pe_str (pa_cons (pv 4) (pa_cons (pe_glob (v := .int c_LEAD) rfl h_LEAD ⟨_, rfl⟩) pa_nil))))) (pss_cons (ps_expr (pe_callC c_check_most (hr.mono (by decide)) (by rfl) (pa_cons pe_str (pa_cons (pv 5) (pa_cons (pe_glob (v := .int c_RANGE) rfl h_RANGE ⟨_, rfl⟩) pa_nil))))) (pss_cons (ps_if (PW.pt (pw_or (pt_cmpR (op_inK (K := K) rfl) pe_bl (pe_lc (own := [("one", 6)]) (g := gName 6) (tt := tYes) rfl nd (pi_list (pe_lst (pa_cons (pv 0) (pa_cons (pv 1) (pa_cons (pv 2) pa_nil))))) (blkOk_by (N := N_check_like) (sc := defScope s_check_like) (by decide +kernel)) (fun _ _ _ _ _ => (pg_name (i := 6) nd rfl (.inl rfl))) (fun _ _ _ _ _ => pts_nil) (fun _ _ _ _ _ => (pe_callC c_is_whole (hr.mono (by decide)) (by rfl) (pa_cons (pv 6) pa_nil)))) (by rfl)) (pw_or1 (pt_not (PW.pt (pw_and (pt_chain op_le op_le pe_int (pv 0) (pv 1)) (pw_and (pt_cmpR op_le pe_int (pv 1) (nomark _)) (pw_and1 (pt_chain op_le op_le pe_int (pv 2) (pe_op op_sub (pv 1) (pv 0))))))))))) (pss_one ps_never) pss_nil) (pss_cons (ps_if (pt_not (pt_val (pe_callC c_whole_from (hr.mono (by decide)) (by rfl) (pa_cons (pv 3) (pa_cons pe_int pa_nil))))) (pss_one ps_never) pss_nil) (pss_cons (ps_if (pt_not (pt_val (pe_callC c_whole_from (hr.mono (by decide)) (by rfl) (pa_cons (pv 4) (pa_cons pe_int pa_nil))))) (pss_one ps_never) pss_nil) (pss_one (ps_if (pt_not (pt_val (pe_callC c_whole_from (hr.mono (by decide)) (by rfl) (pa_cons (pv 5) (pa_cons pe_int pa_nil))))) (pss_one ps_never) pss_nil))))))))), fn_run h ?_⟩
  intro xs st Φ hl hp
  clear hl h hu hr nd
  try dsimp only [L2.cxOf]
  obtain ⟨a, b, c, H, m, r, rfl, ⟨⟨g1, g2, g3, g4, g5⟩, ⟨g6, g7, g8⟩, g9, g10, g11, g12, g13, g14⟩, q⟩ := hp
  walk_at "s"
  refine ⟨by rfl, _, [a, b, c], _, rfl, ?_, ?_⟩
  · intro n hn
    simp at hn
    show n ≤ 10000
    omega
  walk_at "s"
  refine ⟨by rfl, _, _, _, rfl, by show H ≤ 10000; omega, ?_⟩
  walk_at "s"
  refine ⟨by rfl, _, _, _, rfl, by show m ≤ 40; omega, ?_⟩
  walk_at "s"
  refine ⟨by rfl, _, _, _, rfl, by show r ≤ 10; omega, ?_⟩
  walk_at "f"
  refine we_lcL (gw_name (by simp)) ?_
  walk_at "s"
  refine ⟨big_lt (by simp), fun d => some (.bool true), ?_, ?_⟩
  · intro i d acc hd
    have hm := List.mem_of_getElem? hd
    obtain ⟨j, rfl⟩ : ∃ j, d = .int j := by
      simp at hm
      rcases hm with h | h | h <;> exact ⟨_, h⟩
    walk_at "s"
    refine ⟨fun _ => ?_, fun h => (by cases h)⟩
    walk_at "s"
    refine ⟨by rfl, _, rfl, ⟨_, rfl⟩, ?_⟩
    exact ⟨_, _, rfl, take_snoc, rfl⟩
  refine wr_in rfl rfl rfl ?_
  walk_at "s"
  refine ⟨fun h => (by cases h), fun _ => ?_⟩
  walk_at "s"
  refine ⟨fun _ => ?_, fun h => absurd (of_decide_eq_false h) (by omega)⟩
  walk_at "s"
  refine ⟨fun _ => ?_, fun h => absurd (of_decide_eq_false h) (by omega)⟩
  walk_at "s"
  refine ⟨fun _ => ?_, fun h => absurd (of_decide_eq_false h) (by omega)⟩
  walk_at "s"
  refine ⟨fun _ => ?_, fun h => absurd (of_decide_eq_false h) (by omega)⟩
  walk_at "s"
  refine ⟨fun h => absurd (of_decide_eq_true (by simpa using h)) (by simp; omega), fun _ => ?_⟩
  refine ws_next ?_
  walk_at "f"
  refine ⟨by rfl, _, _, rfl, ?_⟩
  walk_at "s"
  refine ⟨fun h => absurd g6 (of_decide_eq_false (by simpa using h)), fun _ => ?_⟩
  refine ws_next ?_
  walk_at "f"
  refine ⟨by rfl, _, _, rfl, ?_⟩
  walk_at "s"
  refine ⟨fun h => absurd g7 (of_decide_eq_false (by simpa using h)), fun _ => ?_⟩
  walk_at "s"
  refine ⟨by rfl, _, _, rfl, ?_⟩
  walk_at "s"
  refine ⟨fun h => absurd g8 (of_decide_eq_false (by simpa using h)), fun _ => ?_⟩
  walk_at "s"
  exact fin_pd (by simp) q
/-! ### over_of -/
abbrev s_over_of : Stmt := topS 23
abbrev N_over_of : List Str := ["a", "b", "c", "H", "m", "r"]
theorem sc_over_of : FnScope N_over_of ["a", "b", "c", "H", "m", "r"] (defScope s_over_of) := ⟨rfl, rfl, rfl, by decide +kernel, rfl, by decide +kernel, by decide +kernel⟩
def pre_over_of : Pre := fun xs st Φ => ∃ a b c H m r : Int, xs = [.pd (.int a), .pd (.int b), .pd (.int c), .pd (.int H), .pd (.int m), .pd (.int r)] ∧ Good a b c H m r ∧ Φ (.pd (.int (overOf a b c H m r))) st
theorem ok_over_of (dd : Df K mg "over_of" s_over_of) : Cal P w K mg base 1 "over_of" ["a", "b", "c", "H", "m", "r"] (spP K T 6 pre_over_of) := by
  refine dd.cal (fun f fd F => F.ok sc_over_of (fun vs H Q E h => spP_len h) fun cdv A outer s H vs Q E hr h => ?_) (fun _ _ _ _ _ _ us hl => match us, hl with | [_, _, _, _, _, _], _ => rfl)
  have nd := sc_over_of.nd
  have hu := room_u hr
  refine ⟨_, (pss_one (ps_ret (pe_op op_sub (pe_op op_mul (pv 4) (pe_op op_sub (pe_op op_sub (pv 1) (pv 0)) (pv 2))) (pe_op op_mul (pe_op op_sub (pv 5) pe_int) (pv 3))))), fn_run h ?_⟩
  intro xs st Φ hl hp
  clear hl h hu hr nd
  try dsimp only [L2.cxOf]
  obtain ⟨a, b, c, H, m, r, rfl, ⟨⟨g1, g2, g3, g4, g5⟩, ⟨g6, g7, g8⟩, g9, g10, g11, g12, g13, g14⟩, q⟩ := hp
  walk_at "s"
  exact fin_pd (by simp) q
/-! ### remainders_of -/
abbrev s_remainders_of : Stmt := topS 24
abbrev N_remainders_of : List Str := ["a", "b", "c", "H", "m", "k"]
theorem sc_remainders_of : FnScope N_remainders_of ["a", "b", "c", "H", "m"] (defScope s_remainders_of) := ⟨rfl, rfl, rfl, by decide +kernel, rfl, by decide +kernel, by decide +kernel⟩
abbrev eII (x : Int × Int) : PyData := .tuple [.int x.1, .int x.2]
def pre_remainders_of : Pre := fun xs st Φ => ∃ a b c H m : Int, xs = [.pd (.int a), .pd (.int b), .pd (.int c), .pd (.int H), .pd (.int m)] ∧ Good a b c H m 1 ∧ Φ (.pd (.list ((rems a b c H m).map eII))) st
theorem ok_remainders_of (c_check_like : Cal P w K mg base 4 "check_like" ["a", "b", "c", "H", "m", "r"] (spP K T 6 pre_check_like)) (Z : Zs mg) (dd : Df K mg "remainders_of" s_remainders_of) : Cal P w K mg base 5 "remainders_of" ["a", "b", "c", "H", "m"] (spP K T 5 pre_remainders_of) := by
  refine dd.cal (fun f fd F => F.ok sc_remainders_of (fun vs H Q E h => spP_len h) fun cdv A outer s H vs Q E hr h => ?_) (fun _ _ _ _ _ _ us hl => match us, hl with | [_, _, _, _, _], _ => rfl)
  have nd := sc_remainders_of.nd
  have hu := room_u hr
  refine ⟨_, (pss_cons (ps_expr (pe_callC c_check_like (hr.mono (by decide)) (by rfl) (pa_cons (pv 0) (pa_cons (pv 1) (pa_cons (pv 2) (pa_cons (pv 3) (pa_cons (pv 4) (pa_cons pe_int pa_nil)))))))) (pss_one (ps_ret (pe_lc (own := [("k", 5)]) (g := gName 5) (tt := tYes) rfl nd (pi_range2 rfl Z.range_ (pa_cons pe_int (pa_cons (pe_op (op_addK (K := K) rfl) (pv 4) pe_int) pa_nil))) (blkOk_by (N := N_remainders_of) (sc := defScope s_remainders_of) (by decide +kernel)) (fun _ _ _ _ _ => (pg_name (i := 5) nd rfl (.inl rfl))) (fun _ _ _ _ _ => pts_nil) (fun _ _ _ _ _ => (pe_tup (pa_cons (pe_op op_mod (pe_op op_mul (pv 5) (pe_op (op_addK (K := K) rfl) (pv 0) (pv 2))) (pv 3)) (pa_cons (pe_op op_mod (pe_op op_mul (pv 5) (pv 1)) (pv 3)) pa_nil)))))))), fn_run h ?_⟩
  intro xs st Φ hl hp
  clear hl h hu hr nd
  try dsimp only [L2.cxOf]
  obtain ⟨a, b, c, H, m, rfl, G, q⟩ := hp
  walk_at "s"
  refine ⟨by rfl, a, b, c, H, m, 1, rfl, G, ?_⟩
  obtain ⟨⟨g1, g2, g3, g4, g5⟩, ⟨g6, g7, g8⟩, g9, g10, g11, g12, g13, g14⟩ := G
  refine ws_ret (we_lcR2 (gw_name (by simp)) ?_)
  walk_at "s"
  refine ⟨1, m + 1, rfl, by omega, big_lt (by omega), fun i => some (eII ((1 + (i : Int)) * (a + c) % H, (1 + (i : Int)) * b % H)), ?_, ?_⟩
  · intro i acc hi
    walk_at "s"
    refine ⟨fun _ => ?_, fun h => (by cases h)⟩
    walk_at "s"
    exact ⟨_, _, rfl, take_snoc, rfl⟩
  · have e : (List.range (m + 1 - 1).toNat).filterMap (fun (i : Nat) => some (eII ((1 + (i : Int)) * (a + c) % H, (1 + (i : Int)) * b % H))) = (rems a b c H m).map eII := by
      unfold rems
      rw [List.map_map, show m + 1 - 1 = m by omega, ← List.filterMap_eq_map]
      rfl
    rw [e]
    exact fin_pd (by simp) q
/-! ### gap_at -/
abbrev s_gap_at : Stmt := topS 25
abbrev N_gap_at : List Str := ["a", "b", "c", "H", "m", "r", "over"]
theorem sc_gap_at : FnScope N_gap_at ["a", "b", "c", "H", "m", "r"] (defScope s_gap_at) := ⟨rfl, rfl, rfl, by decide +kernel, rfl, by decide +kernel, by decide +kernel⟩
def pre_gap_at : Pre := fun xs st Φ => ∃ a b c H m r : Int, xs = [.pd (.int a), .pd (.int b), .pd (.int c), .pd (.int H), .pd (.int m), .pd (.int r)] ∧ Good a b c H m r ∧ Φ (.pd (eGap (gapAt a b c H m r))) st
theorem ok_gap_at (c_over_of : Cal P w K mg base 1 "over_of" ["a", "b", "c", "H", "m", "r"] (spP K T 6 pre_over_of)) (c_check_like : Cal P w K mg base 4 "check_like" ["a", "b", "c", "H", "m", "r"] (spP K T 6 pre_check_like)) (dd : Df K mg "gap_at" s_gap_at) : Cal P w K mg base 5 "gap_at" ["a", "b", "c", "H", "m", "r"] (spP K T 6 pre_gap_at) := by
  refine dd.cal (fun f fd F => F.ok sc_gap_at (fun vs H Q E h => spP_len h) fun cdv A outer s H vs Q E hr h => ?_) (fun _ _ _ _ _ _ us hl => match us, hl with | [_, _, _, _, _, _], _ => rfl)
  have nd := sc_gap_at.nd
  have hu := room_u hr
  refine ⟨_, (pss_cons (ps_expr (pe_callC c_check_like (hr.mono (by decide)) (by rfl) (pa_cons (pv 0) (pa_cons (pv 1) (pa_cons (pv 2) (pa_cons (pv 3) (pa_cons (pv 4) (pa_cons (pv 5) pa_nil)))))))) (pss_cons (ps_asg (pe_callC c_over_of (hr.mono (by decide)) (by rfl) (pa_cons (pv 0) (pa_cons (pv 1) (pa_cons (pv 2) (pa_cons (pv 3) (pa_cons (pv 4) (pa_cons (pv 5) pa_nil))))))) (pg_name (i := 6) nd rfl (.inl rfl))) (pss_cons (ps_if (pt_cmpR op_le (pv 6) pe_int (nomark _)) (pss_one (ps_ret pe_non)) pss_nil) (pss_one (ps_ret (pe_ifExp (pt_cmpR op_ge (pv 6) (pv 3) (nomark _)) (pe_tup (pa_cons pe_int (pa_cons (pv 3) pa_nil))) (pe_tup (pa_cons (pe_op op_mod (pe_op op_sub pe_int (pe_op op_mul (pv 4) (pv 1))) (pv 3)) (pa_cons (pv 6) pa_nil))))))))), fn_run h ?_⟩
  intro xs st Φ hl hp
  clear hl h hu hr nd
  try dsimp only [L2.cxOf]
  obtain ⟨a, b, c, H, m, r, rfl, G, q⟩ := hp
  walk_at "s"
  refine ⟨by rfl, a, b, c, H, m, r, rfl, G, ?_⟩
  walk_at "s"
  refine ⟨by rfl, a, b, c, H, m, r, rfl, G, ?_⟩
  obtain ⟨⟨g1, g2, g3, g4, g5⟩, ⟨g6, g7, g8⟩, g9, g10, g11, g12, g13, g14⟩ := G
  unfold gapAt at q
  walk_at "s"
  walk_at "f"
  refine ⟨fun h => ?_, fun h => ?_⟩
  · rw [if_pos (of_decide_eq_true h)] at q
    walk_at "s"
    exact fin_pd (by simp) q
  · rw [if_neg (of_decide_eq_false h)] at q
    walk_at "s"
    refine ⟨fun h => ?_, fun h => ?_⟩
    · rw [if_pos (of_decide_eq_true h)] at q
      walk_at "s"
      exact fin_pd (by simp) q
    · rw [if_neg (of_decide_eq_false h)] at q
      walk_at "s"
      exact fin_pd (by simp) q
/-! ### parts_up -/
abbrev s_parts_up : Stmt := topS 26
abbrev N_parts_up : List Str := ["many", "part"]
theorem sc_parts_up : FnScope N_parts_up ["many", "part"] (defScope s_parts_up) := ⟨rfl, rfl, rfl, by decide +kernel, rfl, by decide +kernel, by decide +kernel⟩
def pre_parts_up : Pre := fun xs st Φ => ∃ n p : Int, xs = [.pd (.int n), .pd (.int p)] ∧ 0 < p ∧ p < 1000000 ∧ Φ (.pd (.int (partsUp n p))) st
theorem ok_parts_up (dd : Df K mg "parts_up" s_parts_up) : Cal P w K mg base 1 "parts_up" ["many", "part"] (spP K T 2 pre_parts_up) := by
  refine dd.cal (fun f fd F => F.ok sc_parts_up (fun vs H Q E h => spP_len h) fun cdv A outer s H vs Q E hr h => ?_) (fun _ _ _ _ _ _ us hl => match us, hl with | [_, _], _ => rfl)
  have nd := sc_parts_up.nd
  have hu := room_u hr
  refine ⟨_, (pss_one (ps_ret (pe_op op_fdiv (pe_op op_sub (pe_op (op_addK (K := K) rfl) (pv 0) (pv 1)) pe_int) (pv 1)))), fn_run h ?_⟩
  intro xs st Φ hl hp
  clear hl h hu hr nd
  try dsimp only [L2.cxOf]
  obtain ⟨n, p, rfl, h1, h2, q⟩ := hp
  walk_at "s"
  exact fin_pd (by simp) q
/-! ### caught_ways -/
abbrev s_caught_ways : Stmt := topS 27
abbrev N_caught_ways : List Str := ["a", "b", "c", "H", "m", "over", "made", "told", "place", "short", "beyond", "k"]
theorem sc_caught_ways : FnScope N_caught_ways ["a", "b", "c", "H", "m", "over"] (defScope s_caught_ways) := ⟨rfl, rfl, rfl, by decide +kernel, rfl, by decide +kernel, by decide +kernel⟩
def pre_caught_ways : Pre := fun xs st Φ => ∃ a b c H m over : Int, xs = [.pd (.int a), .pd (.int b), .pd (.int c), .pd (.int H), .pd (.int m), .pd (.int over)] ∧ Good a b c H m 1 ∧ 0 < over ∧ over < H ∧ 0 < b - a - c ∧ Φ (.pd (.list ((caughtWays a b c H m over).map eRow))) st
theorem waysS_le (H m over : Int) : ∀ (k : Int) (l : List (Int × Int)), (waysS H m over k l).length ≤ l.length
  | _, [] => Nat.le_refl _
  | k, (s, y) :: t => by
    unfold waysS
    have h := waysS_le H m over (k + 1) t
    rw [List.length_append, List.length_cons]
    split <;> simp <;> omega
theorem waysO_le (H m over : Int) : ∀ (k : Int) (l : List (Int × Int)), (waysO H m over k l).length ≤ l.length
  | _, [] => Nat.le_refl _
  | k, (s, y) :: t => by
    unfold waysO
    have h := waysO_le H m over (k + 1) t
    rw [List.length_append, List.length_cons]
    split <;> simp <;> omega
theorem rems_len (a b c H m : Int) : (rems a b c H m).length = m.toNat := by simp [rems]
theorem rems_bd {a b c H m : Int} (hH : 0 < H) {i : Nat} {x : Int × Int} (h : (rems a b c H m)[i]? = some x) : (0 ≤ x.1 ∧ x.1 < H) ∧ 0 ≤ x.2 ∧ x.2 < H := by
  have hm := List.mem_of_getElem? h
  unfold rems at hm
  obtain ⟨j, _, rfl⟩ := List.mem_map.mp hm
  exact ⟨⟨Int.emod_nonneg _ (by omega), Int.emod_lt_of_pos _ hH⟩, Int.emod_nonneg _ (by omega), Int.emod_lt_of_pos _ hH⟩
theorem snoc_row (made : List (Int × Way)) (x : Int × Way) {d : PyData} (e : eRow x = d) : made.map eRow ++ [d] = (made ++ [x]).map eRow := by rw [List.map_append, ← e]; rfl
theorem ok_caught_ways (c_parts_up : Cal P w K mg base 1 "parts_up" ["many", "part"] (spP K T 2 pre_parts_up)) (c_remainders_of : Cal P w K mg base 5 "remainders_of" ["a", "b", "c", "H", "m"] (spP K T 5 pre_remainders_of)) (Z : Zs mg) (dd : Df K mg "caught_ways" s_caught_ways) : Cal P w K mg base 6 "caught_ways" ["a", "b", "c", "H", "m", "over"] (spP K T 6 pre_caught_ways) := by
  refine dd.cal (fun f fd F => F.ok sc_caught_ways (fun vs H Q E h => spP_len h) fun cdv A outer s H vs Q E hr h => ?_) (fun _ _ _ _ _ _ us hl => match us, hl with | [_, _, _, _, _, _], _ => rfl)
  have nd := sc_caught_ways.nd
  have hu := room_u hr
  refine ⟨_, (pss_cons (ps_asg (pe_lst pa_nil) (pg_name (i := 6) nd rfl (.inl rfl))) (pss_cons (ps_if (pt_cmpR op_gt (pv 5) (pv 2) (nomark _)) (pss_one (ps_expr (pe_bm PySem.F.plainAttrs_list PySem.F.slot_list_append PySem.F.type_list_append mt_append (pv 6) (pa_cons (pe_tup (pa_cons (pe_op (op_addK (K := K) rfl) (pv 4) (pe_callC c_parts_up (hr.mono (by decide)) (by rfl) (pa_cons (pe_op op_sub (pv 3) (pv 5)) (pa_cons (pe_op op_sub (pe_op op_sub (pv 1) (pv 0)) (pv 2)) pa_nil)))) (pa_cons (pe_tup (pa_cons pe_str pa_nil)) pa_nil))) pa_nil)))) pss_nil) (pss_cons (ps_asg (pe_callC c_remainders_of (hr.mono (by decide)) (by rfl) (pa_cons (pv 0) (pa_cons (pv 1) (pa_cons (pv 2) (pa_cons (pv 3) (pa_cons (pv 4) pa_nil)))))) (pg_name (i := 7) nd rfl (.inl rfl))) (pss_cons (ps_for PassesOwn.never rfl (pi_enum (by rfl) Z.enumerate (pa_cons (pv 7) pa_nil)) (pg_tup (n := 2) rfl (pgs_cons (pg_name (i := 8) nd rfl (.inl rfl)) (pgs_cons (pg_tup (n := 2) rfl (pgs_cons (pg_name (i := 9) nd rfl (.inl rfl)) (pgs_cons (pg_name (i := 10) nd rfl (.inl rfl)) pgs_nil))) pgs_nil))) (pss_one (ps_if (pt_cmpR op_ge (pv 9) (pe_op op_sub (pv 3) (pv 5)) (nomark _)) (pss_cons (ps_asg (pe_op (op_addK (K := K) rfl) (pv 8) pe_int) (pg_name (i := 11) nd rfl (.inl rfl))) (pss_one (ps_expr (pe_bm PySem.F.plainAttrs_list PySem.F.slot_list_append PySem.F.type_list_append mt_append (pv 6) (pa_cons (pe_tup (pa_cons (pe_op (op_addK (K := K) rfl) (pv 4) (pe_op op_mul (pv 11) (pe_callC c_parts_up (hr.mono (by decide)) (by rfl) (pa_cons (pe_op op_sub (pv 3) (pv 5)) (pa_cons (pe_op op_sub (pv 3) (pv 9)) pa_nil))))) (pa_cons (pe_tup (pa_cons pe_str (pa_cons (pv 11) pa_nil))) pa_nil))) pa_nil))))) pss_nil))) (pss_cons (ps_for PassesOwn.never rfl (pi_enum (by rfl) Z.enumerate (pa_cons (pv 7) pa_nil)) (pg_tup (n := 2) rfl (pgs_cons (pg_name (i := 8) nd rfl (.inl rfl)) (pgs_cons (pg_tup (n := 2) rfl (pgs_cons (pg_name (i := 9) nd rfl (.inl rfl)) (pgs_cons (pg_name (i := 10) nd rfl (.inl rfl)) pgs_nil))) pgs_nil))) (pss_one (ps_if (pt_chain op_le op_le pe_int (pv 10) (pv 5)) (pss_cons (ps_asg (pe_op (op_addK (K := K) rfl) (pv 8) pe_int) (pg_name (i := 11) nd rfl (.inl rfl))) (pss_one (ps_expr (pe_bm PySem.F.plainAttrs_list PySem.F.slot_list_append PySem.F.type_list_append mt_append (pv 6) (pa_cons (pe_tup (pa_cons (pe_op (op_addK (K := K) rfl) (pv 4) (pe_op op_mul (pv 11) (pe_callC c_parts_up (hr.mono (by decide)) (by rfl) (pa_cons (pe_op op_sub (pv 3) (pv 5)) (pa_cons (pv 10) pa_nil))))) (pa_cons (pe_tup (pa_cons pe_str (pa_cons (pv 11) pa_nil))) pa_nil))) pa_nil))))) pss_nil))) (pss_one (ps_ret (pv 6)))))))), fn_run h ?_⟩
  intro xs st Φ hl hp
  clear hl h hu hr nd
  try dsimp only [L2.cxOf]
  obtain ⟨a, b, c, H, m, over, rfl, G, o1, o2, o3, q⟩ := hp
  have G' := G
  obtain ⟨⟨g1, g2, g3, g4, g5⟩, ⟨g6, g7, g8⟩, g9, g10, g11, g12, g13, g14⟩ := G'
  walk_at "c"
  refine ws_mid (fun ss' st' => ss' = [some (.pd (.int a)), some (.pd (.int b)), some (.pd (.int c)), some (.pd (.int H)), some (.pd (.int m)), some (.pd (.int over)), some (.cell st.length), none, none, none, none, none] ∧
    st' = st ++ [.mu ((if over > c then [(m + partsUp (H - over) (b - a - c), Way.gap)] else []).map eRow)]) ?_ ?_
  · walk_at "s"
    refine ⟨fun h => ?_, fun h => ?_⟩
    · rw [if_pos (of_decide_eq_true h)]
      walk_at "s"
      refine ⟨by rfl, _, _, rfl, by omega, by omega, ?_⟩
      walk_at "s"
      exact ⟨rfl, rfl⟩
    · rw [if_neg (of_decide_eq_false h)]
      walk_at "s"
      exact ⟨rfl, rfl⟩
  rintro ss' st' ⟨rfl, rfl⟩
  generalize hw0 : (if over > c then [(m + partsUp (H - over) (b - a - c), Way.gap)] else []) = w0
  have hl0 : w0.length ≤ 1 := by
    rw [← hw0]
    split <;> simp
  walk_at "s"
  refine ⟨by rfl, a, b, c, H, m, rfl, G, ?_⟩
  walk_at "s"
  have hrl := rems_len a b c H m
  have hq : caughtWays a b c H m over = w0 ++ waysS H m over 1 (rems a b c H m) ++ waysO H m over 1 (rems a b c H m) := by
    unfold caughtWays
    rw [hw0]
  have hSl := waysS_le H m over 1 (rems a b c H m)
  have hOl := waysO_le H m over 1 (rems a b c H m)
  have hbd := fun i x (h : (rems a b c H m)[i]? = some x) => rems_bd (a := a) (b := b) (c := c) (m := m) (show 0 < H by omega) h
  generalize rems a b c H m = R at hrl hq hSl hOl hbd ⊢
  refine ws_seq (ws_forE (wa_cons (we_var rfl (wa_nil ⟨_, rfl, fun i ss' st' => ∃ (made : List (Int × Way)) (y8 y9 y10 y11 : Option Val), ss' = [some (.pd (.int a)), some (.pd (.int b)), some (.pd (.int c)), some (.pd (.int H)), some (.pd (.int m)), some (.pd (.int over)), some (.cell st.length), some (.pd (.list (R.map eII))), y8, y9, y10, y11] ∧
    st' = st ++ [.mu (made.map eRow)] ∧ made ++ waysS H m over ((i : Int) + 1) (R.drop i) = w0 ++ waysS H m over 1 R, ⟨w0, none, none, none, none, rfl, rfl, rfl⟩, ?_, ?_⟩))))
  · rintro i d ss' st' hd ⟨made, y8, y9, y10, y11, rfl, rfl, he⟩
    obtain ⟨x, hx, rfl⟩ : ∃ x, R[i]? = some x ∧ d = eII x := by
      rw [List.getElem?_map] at hd
      cases e : R[i]? with
      | none =>
        rw [e] at hd
        cases hd
      | some x =>
        rw [e] at hd
        exact ⟨x, rfl, (Option.some.inj hd).symm⟩
    obtain ⟨⟨b1, b2⟩, b3, b4⟩ := hbd i x hx
    obtain ⟨hi, hxi⟩ := List.getElem?_eq_some_iff.mp hx
    have hb := congrArg List.length he
    rw [List.length_append, List.length_append] at hb
    obtain ⟨s, y⟩ := x
    simp only at b1 b2 b3 b4
    rw [List.drop_eq_getElem_cons hi, hxi] at he
    have he : made ++ ((if s ≥ H - over then [(m + ((i : Int) + 1) * partsUp (H - over) (H - s), Way.short ((i : Int) + 1))] else []) ++ waysS H m over ((i : Int) + 1 + 1) (R.drop (i + 1))) = w0 ++ waysS H m over 1 R := he
    have ei : ((i : Int) + 1 + 1) = (((i + 1 : Nat) : Int) + 1) := by omega
    rw [ei] at he
    walk_at "s"
    refine ⟨fun h => ?_, fun h => ?_⟩
    · rw [if_pos (of_decide_eq_true h)] at he
      walk_at "s"
      refine ⟨by rfl, _, _, rfl, by omega, by omega, ?_⟩
      walk_at "s"
      refine ⟨made ++ [(m + ((i : Int) + 1) * partsUp (H - over) (H - s), Way.short ((i : Int) + 1))], _, _, _, _, rfl, ?_, ?_⟩
      · rw [← snoc_row made _ rfl]
        rfl
      · rw [List.append_assoc]
        exact he
    · rw [if_neg (of_decide_eq_false h)] at he
      walk_at "s"
      exact ⟨made, _, _, _, _, rfl, rfl, he⟩
  · rintro ss' st' ⟨made, y8, y9, y10, y11, rfl, rfl, he⟩
    rw [List.length_map, List.drop_length] at he
    have he : made = w0 ++ waysS H m over 1 R := by
      rw [← he]
      exact (List.append_nil _).symm
    rw [← he] at hq
    have hml := congrArg List.length he
    rw [List.length_append] at hml
    refine ws_seq (ws_forE (wa_cons (we_var rfl (wa_nil ⟨_, rfl, fun i ss' st' => ∃ (made2 : List (Int × Way)) (y8 y9 y10 y11 : Option Val), ss' = [some (.pd (.int a)), some (.pd (.int b)), some (.pd (.int c)), some (.pd (.int H)), some (.pd (.int m)), some (.pd (.int over)), some (.cell st.length), some (.pd (.list (R.map eII))), y8, y9, y10, y11] ∧
      st' = st ++ [.mu (made2.map eRow)] ∧ made2 ++ waysO H m over ((i : Int) + 1) (R.drop i) = made ++ waysO H m over 1 R, ⟨made, _, _, _, _, rfl, rfl, rfl⟩, ?_, ?_⟩))))
    · rintro i d ss' st' hd ⟨made2, y8, y9, y10, y11, rfl, rfl, he⟩
      obtain ⟨x, hx, rfl⟩ : ∃ x, R[i]? = some x ∧ d = eII x := by
        rw [List.getElem?_map] at hd
        cases e : R[i]? with
        | none =>
          rw [e] at hd
          cases hd
        | some x =>
          rw [e] at hd
          exact ⟨x, rfl, (Option.some.inj hd).symm⟩
      obtain ⟨⟨b1, b2⟩, b3, b4⟩ := hbd i x hx
      obtain ⟨hi, hxi⟩ := List.getElem?_eq_some_iff.mp hx
      have hb := congrArg List.length he
      rw [List.length_append, List.length_append] at hb
      obtain ⟨s, y⟩ := x
      simp only at b1 b2 b3 b4
      rw [List.drop_eq_getElem_cons hi, hxi] at he
      have he : made2 ++ ((if 1 ≤ y ∧ y ≤ over then [(m + ((i : Int) + 1) * partsUp (H - over) y, Way.over ((i : Int) + 1))] else []) ++ waysO H m over ((i : Int) + 1 + 1) (R.drop (i + 1))) = made ++ waysO H m over 1 R := he
      have ei : ((i : Int) + 1 + 1) = (((i + 1 : Nat) : Int) + 1) := by omega
      rw [ei] at he
      have no : ¬ (1 ≤ y ∧ y ≤ over) → WS K T tNext [some (.pd (.int a)), some (.pd (.int b)), some (.pd (.int c)), some (.pd (.int H)), some (.pd (.int m)), some (.pd (.int over)), some (.cell st.length), some (.pd (.list (R.map eII))), some (.pd (.int i)), some (.pd (.int s)), some (.pd (.int y)), y11] (st ++ [.mu (made2.map eRow)])
          (inTurn { nx := fun ss1 st1 => WS K T (tRet (tVar 6)) ss1 st1 (PoF st.length Φ), rt := (PoF st.length Φ).rt, bk := (PoF st.length Φ).bk, ct := (PoF st.length Φ).ct } fun ss' st' => ∃ (made2 : List (Int × Way)) (y8 y9 y10 y11 : Option Val), ss' = [some (.pd (.int a)), some (.pd (.int b)), some (.pd (.int c)), some (.pd (.int H)), some (.pd (.int m)), some (.pd (.int over)), some (.cell st.length), some (.pd (.list (R.map eII))), y8, y9, y10, y11] ∧
            st' = st ++ [.mu (made2.map eRow)] ∧ made2 ++ waysO H m over (((i + 1 : Nat) : Int) + 1) (R.drop (i + 1)) = made ++ waysO H m over 1 R) := fun hn => by
        rw [if_neg hn] at he
        walk_at "s"
        exact ⟨made2, _, _, _, _, rfl, rfl, he⟩
      walk_at "s"
      refine ⟨fun h => ?_, fun h => ⟨_, rfl, fun h2 => (by cases h2), fun _ => no fun hn => absurd hn.1 (of_decide_eq_false h)⟩⟩
      walk_at "s"
      refine ⟨fun h2 => ?_, fun h2 => no fun hn => absurd hn.2 (of_decide_eq_false h2)⟩
      have h1 := of_decide_eq_true h
      have h2 := of_decide_eq_true h2
      rw [if_pos ⟨h1, h2⟩] at he
      walk_at "s"
      refine ⟨by rfl, _, _, rfl, by omega, by omega, ?_⟩
      walk_at "s"
      refine ⟨made2 ++ [(m + ((i : Int) + 1) * partsUp (H - over) y, Way.over ((i : Int) + 1))], _, _, _, _, rfl, ?_, ?_⟩
      · rw [← snoc_row made2 _ rfl]
        rfl
      · rw [List.append_assoc]
        exact he
    · rintro ss' st' ⟨made2, y8, y9, y10, y11, rfl, rfl, he2⟩
      rw [List.length_map, List.drop_length] at he2
      have he2 : made2 = made ++ waysO H m over 1 R := by
        rw [← he2]
        exact (List.append_nil _).symm
      rw [← he2] at hq
      rw [hq] at q
      walk_at "s"
      exact fin_end q
/-! ### for_ever -/
abbrev s_for_ever : Stmt := topS 28
abbrev N_for_ever : List Str := ["a", "b", "c", "H", "m", "r", "over", "ways", "best", "row"]
theorem sc_for_ever : FnScope N_for_ever ["a", "b", "c", "H", "m", "r"] (defScope s_for_ever) := ⟨rfl, rfl, rfl, by decide +kernel, rfl, by decide +kernel, by decide +kernel⟩
def pre_for_ever : Pre := fun xs st Φ => ∃ a b c H m r : Int, xs = [.pd (.int a), .pd (.int b), .pd (.int c), .pd (.int H), .pd (.int m), .pd (.int r)] ∧ Good a b c H m r ∧ Φ (.pd (eVer (forEver a b c H m r))) st
theorem bestOf_snoc : ∀ (l : List (Int × Way)) (b x : Int × Way), bestOf b (l ++ [x]) = if x.1 < (bestOf b l).1 then x else bestOf b l
  | [], b, x => rfl
  | y :: l, b, x => bestOf_snoc l (if y.1 < b.1 then y else b) x
theorem ok_for_ever (c_caught_ways : Cal P w K mg base 6 "caught_ways" ["a", "b", "c", "H", "m", "over"] (spP K T 6 pre_caught_ways)) (c_over_of : Cal P w K mg base 1 "over_of" ["a", "b", "c", "H", "m", "r"] (spP K T 6 pre_over_of)) (c_check_like : Cal P w K mg base 4 "check_like" ["a", "b", "c", "H", "m", "r"] (spP K T 6 pre_check_like)) (dd : Df K mg "for_ever" s_for_ever) : Cal P w K mg base 7 "for_ever" ["a", "b", "c", "H", "m", "r"] (spP K T 6 pre_for_ever) := by
  refine dd.cal (fun f fd F => F.ok sc_for_ever (fun vs H Q E h => spP_len h) fun cdv A outer s H vs Q E hr h => ?_) (fun _ _ _ _ _ _ us hl => match us, hl with | [_, _, _, _, _, _], _ => rfl)
  have nd := sc_for_ever.nd
  have hu := room_u hr
  refine ⟨_, (pss_cons (ps_expr (pe_callC c_check_like (hr.mono (by decide)) (by rfl) (pa_cons (pv 0) (pa_cons (pv 1) (pa_cons (pv 2) (pa_cons (pv 3) (pa_cons (pv 4) (pa_cons (pv 5) pa_nil)))))))) (pss_cons (ps_asg (pe_callC c_over_of (hr.mono (by decide)) (by rfl) (pa_cons (pv 0) (pa_cons (pv 1) (pa_cons (pv 2) (pa_cons (pv 3) (pa_cons (pv 4) (pa_cons (pv 5) pa_nil))))))) (pg_name (i := 6) nd rfl (.inl rfl))) (pss_cons (ps_if (pt_cmpR op_le (pv 6) pe_int (nomark _)) (pss_one (ps_ret (pe_tup (pa_cons pe_str (pa_cons pe_str pa_nil))))) pss_nil) (pss_cons (ps_if (pt_cmpR op_ge (pv 6) (pv 3) (nomark _)) (pss_one (ps_ret (pe_tup (pa_cons pe_str (pa_cons (pv 4) (pa_cons (pe_tup (pa_cons pe_str pa_nil)) pa_nil)))))) pss_nil) (pss_cons (ps_asg (pe_callC c_caught_ways (hr.mono (by decide)) (by rfl) (pa_cons (pv 0) (pa_cons (pv 1) (pa_cons (pv 2) (pa_cons (pv 3) (pa_cons (pv 4) (pa_cons (pv 6) pa_nil))))))) (pg_name (i := 7) nd rfl (.inl rfl))) (pss_cons (ps_if (pt_cmpR (op_eqK (K := K) rfl hu) (pv 7) (pe_lst pa_nil) (nomark _)) (pss_one (ps_ret (pe_tup (pa_cons pe_str (pa_cons pe_str pa_nil))))) pss_nil) (pss_cons (ps_asg (pe_ix (ix_seqK (K := K) rfl) (pv 7) pe_int (fun _ _ => rfl)) (pg_name (i := 8) nd rfl (.inl rfl))) (pss_cons (ps_for PassesOwn.never rfl (pi_list (pv 7)) (pg_name (i := 9) nd rfl (.inl rfl)) (pss_one (ps_if (pt_cmpR op_lt (pe_ix (ix_seqK (K := K) rfl) (pv 9) pe_int (fun _ _ => rfl)) (pe_ix (ix_seqK (K := K) rfl) (pv 8) pe_int (fun _ _ => rfl)) (nomark _)) (pss_one (ps_asg (pv 9) (pg_name (i := 8) nd rfl (.inl rfl)))) pss_nil))) (pss_one (ps_ret (pe_tup (pa_cons pe_str (pa_cons (pe_ix (ix_seqK (K := K) rfl) (pv 8) pe_int (fun _ _ => rfl)) (pa_cons (pe_ix (ix_seqK (K := K) rfl) (pv 8) pe_int (fun _ _ => rfl)) pa_nil)))))))))))))), fn_run h ?_⟩
  intro xs st Φ hl hp
  clear hl h hu hr nd
  try dsimp only [L2.cxOf]
  obtain ⟨a, b, c, H, m, r, rfl, G, q⟩ := hp
  walk_at "s"
  refine ⟨by rfl, a, b, c, H, m, r, rfl, G, ?_⟩
  walk_at "s"
  refine ⟨by rfl, a, b, c, H, m, r, rfl, G, ?_⟩
  have G' := G
  obtain ⟨⟨g1, g2, g3, g4, g5⟩, ⟨g6, g7, g8⟩, g9, g10, g11, g12, g13, g14⟩ := G'
  unfold forEver at q
  walk_at "s"
  walk_at "f"
  refine ⟨fun h => ?_, fun h => ?_⟩
  · rw [if_pos (of_decide_eq_true h)] at q
    walk_at "s"
    exact fin_pd (by simp) q
  rw [if_neg (of_decide_eq_false h)] at q
  have o1 : 0 < overOf a b c H m r := by
    have := of_decide_eq_false h
    omega
  refine ws_next ?_
  walk_at "f"
  refine ⟨fun h => ?_, fun h => ?_⟩
  · rw [if_pos (of_decide_eq_true h)] at q
    walk_at "s"
    exact fin_pd (by simp) q
  rw [if_neg (of_decide_eq_false h)] at q
  have o2 : overOf a b c H m r < H := by
    have := of_decide_eq_false h
    omega
  have o3 : 0 < b - a - c := by
    have e : overOf a b c H m r = m * (b - a - c) - (r - 1) * H := rfl
    rcases Int.lt_or_le 0 (b - a - c) with h | h
    · exact h
    · have h1 : m * (b - a - c) ≤ 0 := Int.mul_nonpos_of_nonneg_of_nonpos (by omega) h
      have h2 : 0 ≤ (r - 1) * H := Int.mul_nonneg (by omega) (by omega)
      omega
  walk_at "s"
  refine ⟨by rfl, a, b, c, H, m, overOf a b c H m r, rfl, ⟨⟨g1, g2, g3, g4, g5⟩, ⟨g6, g7, by omega⟩, g9, g10, g11, g12, g13, by omega⟩, o1, o2, o3, ?_⟩
  walk_at "s"
  have hsh : SeqAt.shaped (.list ((caughtWays a b c H m (overOf a b c H m r)).map eRow)) = true := Sh.shaped (k := 3) (sh_list fun d hd => by
    obtain ⟨x, _, rfl⟩ := List.mem_map.mp hd
    refine sh_tuple fun e he => ?_
    rcases List.mem_cons.mp he with rfl | he
    · exact sh_int _
    · rw [List.mem_singleton.mp he]
      have hs : ∀ s : Str, (PyData.str s).canLay0 = true → Sh 0 (.str s) := fun s h => ⟨h, by simp [PyData.depth]⟩
      cases x.2 with
      | gap => exact sh_tuple fun e he => by rw [List.mem_singleton.mp he]; exact hs _ (by decide +kernel)
      | short k =>
        refine sh_tuple fun e he => ?_
        rcases List.mem_cons.mp he with rfl | he
        · exact hs _ (by decide +kernel)
        · rw [List.mem_singleton.mp he]
          exact sh_int _
      | over k =>
        refine sh_tuple fun e he => ?_
        rcases List.mem_cons.mp he with rfl | he
        · exact hs _ (by decide +kernel)
        · rw [List.mem_singleton.mp he]
          exact sh_int _)
  generalize caughtWays a b c H m (overOf a b c H m r) = W at q hsh ⊢
  walk_at "f"
  refine wr_eqD rfl rfl hsh rfl ?_
  rw [eqv_isNil]
  walk_at "s"
  cases W with
  | nil =>
    refine ⟨fun _ => ?_, fun h => (by cases h)⟩
    walk_at "s"
    exact fin_pd (by simp) q
  | cons x t =>
    refine ⟨fun h => (by cases h), fun _ => ?_⟩
    refine ws_next ?_
    refine ws_sA (we_op (we_var rfl (we_c rfl (wr_ixuL rfl (atI_nat (j := 0) rfl) ?_))))
    walk_at "s"
    refine ws_seq (ws_forL (we_var rfl ⟨_, rfl, fun i ss' st' => st' = st ∧ ∃ y : Option Val, ss' = [some (.pd (.int a)), some (.pd (.int b)), some (.pd (.int c)), some (.pd (.int H)), some (.pd (.int m)), some (.pd (.int r)), some (.pd (.int (overOf a b c H m r))), some (.pd (.list ((x :: t).map eRow))), some (.pd (eRow (bestOf x ((x :: t).take i)))), y], ⟨rfl, none, rfl⟩, ?_, ?_⟩))
    · rintro i d ss' st' hd ⟨rfl, y, rfl⟩
      obtain ⟨z, hz, rfl⟩ : ∃ z, (x :: t)[i]? = some z ∧ d = eRow z := by
        rw [List.getElem?_map] at hd
        cases e : (x :: t)[i]? with
        | none =>
          rw [e] at hd
          cases hd
        | some z =>
          rw [e] at hd
          exact ⟨z, rfl, (Option.some.inj hd).symm⟩
      have hn : bestOf x ((x :: t).take (i + 1)) = if z.1 < (bestOf x ((x :: t).take i)).1 then z else bestOf x ((x :: t).take i) := by
        rw [List.take_add_one, hz]
        exact bestOf_snoc _ _ _
      dsimp only
      rw [hn]
      generalize bestOf x ((x :: t).take i) = best
      walk_at "s"
      refine ⟨fun h => ?_, fun h => ?_⟩
      · rw [if_pos (of_decide_eq_true h)]
        walk_at "s"
        exact ⟨rfl, _, rfl⟩
      · rw [if_neg (of_decide_eq_false h)]
        walk_at "s"
        exact ⟨rfl, _, rfl⟩
    · rintro ss' st' ⟨rfl, y, rfl⟩
      rw [List.length_map, List.take_length]
      walk_at "s"
      exact fin_pd (by simp) q
/-! ### round_arcs -/
abbrev s_round_arcs : Stmt := topS 29
abbrev N_round_arcs : List Str := ["holes", "H", "made", "first", "lines", "begin"]
theorem sc_round_arcs : FnScope N_round_arcs ["holes", "H"] (defScope s_round_arcs) := ⟨rfl, rfl, rfl, by decide +kernel, rfl, by decide +kernel, by decide +kernel⟩
def pre_round_arcs : Pre := fun xs st Φ => ∃ (hs : List Hole) (H : Int), xs = [.pd (.list (hs.map eHole)), .pd (.int H)] ∧ hs.length ≤ 10000 ∧ 0 < H ∧ Φ (.pd (eArcs (roundArcs hs H))) st
theorem pieces_cons (H f l : Int) (t : List Hole) : pieces H ((f, l) :: t) = if l ≥ H then none else (pieces H t).map fun t => (if f % H + l ≤ H then [(f % H, some (f % H + l - 1))] else [(f % H, some (H - 1)), (0, some (f % H + l - H - 1))]) ++ t := rfl
theorem pieces_le (H : Int) : ∀ (hs : List Hole) (p : List Arc), pieces H hs = some p → p.length ≤ 2 * hs.length
  | [], p, h => by
    cases h
    exact Nat.le_refl _
  | (f, l) :: t, p, h => by
    unfold pieces at h
    split at h
    · cases h
    · rw [Option.map_eq_some_iff] at h
      obtain ⟨q, hq, rfl⟩ := h
      have := pieces_le H t q hq
      rw [List.length_append, List.length_cons]
      split <;> simp <;> omega
theorem ok_round_arcs (c_arcs_union : Cal P w K mg base 2 "arcs_union" ["r", "s"] (spP K T 2 pre_arcs_union)) (dd : Df K mg "round_arcs" s_round_arcs) : Cal P w K mg base 3 "round_arcs" ["holes", "H"] (spP K T 2 pre_round_arcs) := by
  refine dd.cal (fun f fd F => F.ok sc_round_arcs (fun vs H Q E h => spP_len h) fun cdv A outer s H vs Q E hr h => ?_) (fun _ _ _ _ _ _ us hl => match us, hl with | [_, _], _ => rfl)
  have nd := sc_round_arcs.nd
  have hu := room_u hr
  refine ⟨_, (pss_cons (ps_asg (pe_lst pa_nil) (pg_name (i := 2) nd rfl (.inl rfl))) (pss_cons (ps_for PassesOwn.never rfl (pi_list (pv 0)) (pg_tup (n := 2) rfl (pgs_cons (pg_name (i := 3) nd rfl (.inl rfl)) (pgs_cons (pg_name (i := 4) nd rfl (.inl rfl)) pgs_nil))) (pss_cons (ps_if (pt_cmpR op_ge (pv 4) (pv 1) (nomark _)) (pss_one (ps_ret (pe_lst (pa_cons (pe_tup (pa_cons pe_int (pa_cons (pe_op op_sub (pv 1) pe_int) pa_nil))) pa_nil)))) pss_nil) (pss_cons (ps_asg (pe_op op_mod (pv 3) (pv 1)) (pg_name (i := 5) nd rfl (.inl rfl))) (pss_one (ps_if (pt_cmpR op_le (pe_op (op_addK (K := K) rfl) (pv 5) (pv 4)) (pv 1) (nomark _)) (pss_one (ps_expr (pe_bm PySem.F.plainAttrs_list PySem.F.slot_list_append PySem.F.type_list_append mt_append (pv 2) (pa_cons (pe_tup (pa_cons (pv 5) (pa_cons (pe_op op_sub (pe_op (op_addK (K := K) rfl) (pv 5) (pv 4)) pe_int) pa_nil))) pa_nil)))) (pss_cons (ps_expr (pe_bm PySem.F.plainAttrs_list PySem.F.slot_list_append PySem.F.type_list_append mt_append (pv 2) (pa_cons (pe_tup (pa_cons (pv 5) (pa_cons (pe_op op_sub (pv 1) pe_int) pa_nil))) pa_nil))) (pss_one (ps_expr (pe_bm PySem.F.plainAttrs_list PySem.F.slot_list_append PySem.F.type_list_append mt_append (pv 2) (pa_cons (pe_tup (pa_cons pe_int (pa_cons (pe_op op_sub (pe_op op_sub (pe_op (op_addK (K := K) rfl) (pv 5) (pv 4)) (pv 1)) pe_int) pa_nil))) pa_nil)))))))))) (pss_one (ps_ret (pe_callC c_arcs_union (hr.mono (by decide)) (by rfl) (pa_cons (pv 2) (pa_cons (pe_lst pa_nil) pa_nil))))))), fn_run h ?_⟩
  intro xs st Φ hl hp
  clear hl h hu hr nd
  try dsimp only [L2.cxOf]
  obtain ⟨hs, H, rfl, hl, hH, q⟩ := hp
  walk_at "c"
  unfold roundArcs at q
  refine ws_seq (ws_forL (we_var rfl ⟨_, rfl, fun i ss' st' => i ≤ hs.length ∧ ∃ (made : List Arc) (y3 y4 y5 : Option Val), ss' = [some (.pd (.list (hs.map eHole))), some (.pd (.int H)), some (.cell st.length), y3, y4, y5] ∧ st' = st ++ [.mu (made.map eArc)] ∧ made.length ≤ 2 * i ∧ pieces H hs = (pieces H (hs.drop i)).map fun t => made ++ t,
    ⟨Nat.zero_le _, [], none, none, none, rfl, rfl, Nat.le_refl _, ?_⟩, ?_, ?_⟩))
  · show pieces H hs = (pieces H hs).map fun t => t
    cases pieces H hs <;> rfl
  · rintro i d ss' st' hd ⟨hi0, made, y3, y4, y5, rfl, rfl, hml, he⟩
    obtain ⟨x, hx, rfl⟩ : ∃ x, hs[i]? = some x ∧ d = eHole x := by
      rw [List.getElem?_map] at hd
      cases e : hs[i]? with
      | none =>
        rw [e] at hd
        cases hd
      | some x =>
        rw [e] at hd
        exact ⟨x, rfl, (Option.some.inj hd).symm⟩
    obtain ⟨hi, hxi⟩ := List.getElem?_eq_some_iff.mp hx
    obtain ⟨f, l⟩ := x
    rw [List.drop_eq_getElem_cons hi, hxi] at he
    rw [pieces_cons] at he
    walk_at "s"
    walk_at "f"
    refine ⟨fun h => ?_, fun h => ?_⟩
    · rw [if_pos (of_decide_eq_true h)] at he
      have he : pieces H hs = none := he
      rw [he] at q
      walk_at "s"
      exact fin_end q
    · rw [if_neg (of_decide_eq_false h)] at he
      walk_at "s"
      refine ⟨fun h2 => ?_, fun h2 => ?_⟩
      · rw [if_pos (of_decide_eq_true h2)] at he
        walk_at "s"
        refine ⟨hi, made ++ [(f % H, some (f % H + l - 1))], _, _, _, rfl, by rw [snoc_arcS], by rw [List.length_append]; simp; omega, ?_⟩
        rw [he]
        cases pieces H (hs.drop (i + 1)) with
        | none => rfl
        | some t =>
          show some (made ++ ([(f % H, some (f % H + l - 1))] ++ t)) = some (made ++ [(f % H, some (f % H + l - 1))] ++ t)
          rw [List.append_assoc]
      · rw [if_neg (of_decide_eq_false h2)] at he
        walk_at "s"
        refine ⟨hi, made ++ [(f % H, some (H - 1))] ++ [(0, some (f % H + l - H - 1))], _, _, _, rfl, by rw [snoc_arcS, snoc_arcS], by rw [List.length_append, List.length_append]; simp; omega, ?_⟩
        rw [he]
        cases pieces H (hs.drop (i + 1)) with
        | none => rfl
        | some t =>
          show some (made ++ ([(f % H, some (H - 1)), (0, some (f % H + l - H - 1))] ++ t)) = some (made ++ [(f % H, some (H - 1))] ++ [(0, some (f % H + l - H - 1))] ++ t)
          rw [List.append_assoc, List.append_assoc]
          rfl
  · rintro ss' st' ⟨hi0, made, y3, y4, y5, rfl, rfl, hml, he⟩
    rw [List.length_map, List.drop_length] at he
    have he : pieces H hs = some (made ++ []) := he
    rw [List.append_nil] at he
    rw [he] at q
    rw [List.length_map] at hml
    refine ws_ret (we_call (wa_cons (we_pur (we_var rfl ⟨_, _, pur_end, ?_⟩))))
    walk_at "s"
    refine ⟨by rfl, made, [], rfl, by simp; omega, ?_⟩
    exact fin_end q
/-! ### round_holes -/
abbrev s_round_holes : Stmt := topS 30
abbrev N_round_holes : List Str := ["arcs", "H", "made", "first", "last"]
theorem sc_round_holes : FnScope N_round_holes ["arcs", "H"] (defScope s_round_holes) := ⟨rfl, rfl, rfl, by decide +kernel, rfl, by decide +kernel, by decide +kernel⟩
def pre_round_holes : Pre := fun xs st Φ => ∃ (r : List Arc) (H : Int), xs = [.pd (eArcs r), .pd (.int H)] ∧ r.length ≤ 10000 ∧ (∀ a ∈ r, a.2 ≠ none) ∧ Φ (.pd (.list ((roundHoles r H).map eHole))) st
theorem fm_congr {α β : Type} {f g : α → Option β} : ∀ {l : List α}, (∀ a ∈ l, f a = g a) → l.filterMap f = l.filterMap g
  | [], _ => rfl
  | a :: l, h => by
    rw [List.filterMap_cons, List.filterMap_cons, h a (List.mem_cons_self ..), fm_congr fun b hb => h b (List.mem_cons_of_mem _ hb)]
theorem at_last {r : List Arc} (h : 0 < r.length) : atI (r.map eArc) (-1) = some (eArc r[r.length - 1]) := by
  unfold atI
  rw [List.length_map, ixN_last h]
  show (r.map eArc)[r.length - 1]? = _
  rw [List.getElem?_map, List.getElem?_eq_getElem (by omega)]
  rfl
theorem rh_eq {r : List Arc} {H : Int} (h : 1 < r.length) : roundHoles r H = if r[0].1 = 0 ∧ r[r.length - 1].2 = some (H - 1) then ((r.drop 1).take (r.length - 1 - 1)).map toHole ++ [(r[r.length - 1].1, H - r[r.length - 1].1 + r[0].2.getD 0 + 1)] else r.map toHole := by
  unfold roundHoles
  rw [List.head?_eq_getElem?, List.getLast?_eq_getElem?, List.getElem?_eq_getElem (by omega), List.getElem?_eq_getElem (by omega)]
  show (if 1 < r.length ∧ _ then _ else _) = _
  simp only [h, true_and]
theorem rh_ne {r : List Arc} {H : Int} (h : ¬ 1 < r.length) : roundHoles r H = r.map toHole := by
  unfold roundHoles
  split
  · rw [if_neg fun z => h z.1]
  · rfl
theorem eqvN (x : Option Int) (z : Int) (h : x ≠ none) : ∃ y, x = some y := by
  cases x with
  | none => exact absurd rfl h
  | some y => exact ⟨y, rfl⟩
theorem cut_mid (xs : List PyData) (h : 1 < xs.length) : Ct.cutD xs (some 1) (some (-1)) = (xs.drop 1).take (xs.length - 1 - 1) := by
  unfold Ct.cutD
  rw [show HT.sIx xs.length 0 (some 1) = min 1 xs.length from HT.sIx_nat xs.length 0 1]
  have e1 : HT.sIx xs.length xs.length (some (-1)) = xs.length - 1 := by
    show (if (-1 : Int) < 0 then ((-1 : Int) + (xs.length : Int)).toNat else min (-1 : Int).toNat xs.length) = xs.length - 1
    rw [if_pos (by omega)]
    omega
  rw [e1]
  rw [show min 1 xs.length = 1 by omega]
theorem ok_round_holes (Z : Zs mg) (dd : Df K mg "round_holes" s_round_holes) : Cal P w K mg base 1 "round_holes" ["arcs", "H"] (spP K T 2 pre_round_holes) := by
  refine dd.cal (fun f fd F => F.ok sc_round_holes (fun vs H Q E h => spP_len h) fun cdv A outer s H vs Q E hr h => ?_) (fun _ _ _ _ _ _ us hl => match us, hl with | [_, _], _ => rfl)
  have nd := sc_round_holes.nd
  have hu := room_u hr
  refine ⟨_, (pss_cons (ps_setLc (i := 2) (own := [("first", 3), ("last", 4)]) (g := gTup K 2 (gCons (gName 3) (gCons (gName 4) gNil))) (tt := tYes) rfl nd rfl rfl (sw_true rfl rfl rfl (by decide +kernel)) (pi_list (pv 0)) (blkOk_by (N := N_round_holes) (sc := defScope s_round_holes) (by decide +kernel)) (fun _ _ _ _ _ => (pg_tup (n := 2) rfl (pgs_cons (pg_name (i := 3) nd rfl (.inl rfl)) (pgs_cons (pg_name (i := 4) nd rfl (.inl rfl)) pgs_nil)))) (fun _ _ _ _ _ => pts_nil) (fun _ _ _ _ _ => (pe_tup (pa_cons (pv 3) (pa_cons (pe_op (op_addK (K := K) rfl) (pe_op op_sub (pv 4) (pv 3)) pe_int) pa_nil))))) (pss_cons (ps_if (PW.pt (pw_and (pt_cmpR op_gt (pe_callB (call_lenK (K := K) rfl) (by rfl) Z.len PySem.boot_len (pa_cons (pv 0) pa_nil)) pe_int (nomark _)) (pw_and (pt_cmpR (op_eqK (K := K) rfl hu) (pe_ix (ix_seqK (K := K) rfl) (pe_ix (ix_seqK (K := K) rfl) (pv 0) pe_int (fun _ _ => rfl)) pe_int (fun _ _ => rfl)) pe_int (nomark _)) (pw_and1 (pt_cmpR (op_eqK (K := K) rfl hu) (pe_ix (ix_seqK (K := K) rfl) (pe_ix (ix_seqK (K := K) rfl) (pv 0) (pe_un un_neg pe_int) (fun _ _ => rfl)) pe_int (fun _ _ => rfl)) (pe_op op_sub (pv 1) pe_int) (nomark _)))))) (pss_one (ps_asg (pe_op (op_addK (K := K) rfl) (pe_slice (sl_listK (K := K) rfl) (pv 2) (po_some pe_int) (po_some (pe_un un_neg pe_int))) (pe_lst (pa_cons (pe_tup (pa_cons (pe_ix (ix_seqK (K := K) rfl) (pe_ix (ix_seqK (K := K) rfl) (pv 0) (pe_un un_neg pe_int) (fun _ _ => rfl)) pe_int (fun _ _ => rfl)) (pa_cons (pe_op (op_addK (K := K) rfl) (pe_op (op_addK (K := K) rfl) (pe_op op_sub (pv 1) (pe_ix (ix_seqK (K := K) rfl) (pe_ix (ix_seqK (K := K) rfl) (pv 0) (pe_un un_neg pe_int) (fun _ _ => rfl)) pe_int (fun _ _ => rfl))) (pe_ix (ix_seqK (K := K) rfl) (pe_ix (ix_seqK (K := K) rfl) (pv 0) pe_int (fun _ _ => rfl)) pe_int (fun _ _ => rfl))) pe_int) pa_nil))) pa_nil))) (pg_name (i := 2) nd rfl (.inl rfl)))) pss_nil) (pss_one (ps_ret (pv 2))))), fn_run h ?_⟩
  intro xs st Φ hl hp
  clear hl h hu hr nd
  try dsimp only [L2.cxOf]
  obtain ⟨r, H, rfl, hl, hs, q⟩ := hp
  refine ws_sA (we_lcL (gw_tup (gw_cons gm_name (gm_cons gm_name gm_nil) (gw_name (by simp)) (gw_cons gm_name gm_nil (gw_name (by simp)) gw_nil))) ?_)
  walk_at "s"
  refine ⟨by rw [List.length_map]; exact big_lt (by omega), fun d => match d with
    | .tuple [.int f, .int l] => some (eHole (f, l - f + 1))
    | _ => none, ?_, ?_⟩
  · intro i d acc hd
    obtain ⟨a, ha, rfl⟩ := List.mem_map.mp (List.mem_of_getElem? hd)
    obtain ⟨f, l⟩ := a
    obtain ⟨l, rfl⟩ := eqvN l 0 (hs _ ha)
    rw [show eArc (f, some l) = .tuple [.int f, .int l] from rfl]
    walk_at "s"
    refine ⟨fun _ => ?_, fun h => (by cases h)⟩
    walk_at "s"
    exact ⟨_, _, rfl, take_snoc, rfl⟩
  have e : (r.map eArc).filterMap (fun d => match d with
    | .tuple [.int f, .int l] => some (eHole (f, l - f + 1))
    | _ => none) = (r.map toHole).map eHole := by
    rw [List.filterMap_map, List.map_map, ← List.filterMap_eq_map]
    refine fm_congr fun a ha => ?_
    obtain ⟨f, l⟩ := a
    obtain ⟨l, rfl⟩ := eqvN l 0 (hs _ ha)
    rfl
  rw [e]
  walk_at "s"
  refine ws_mid (fun ss' st' => st' = st ∧ ∃ y3 y4 : Option Val, ss' = [some (.pd (eArcs r)), some (.pd (.int H)), some (.pd (.list ((roundHoles r H).map eHole))), y3, y4]) ?_ ?_
  · walk_at "s"
    rw [List.length_map]
    refine ⟨fun h => ?_, fun h => ⟨fun h => (by cases h), fun _ => ?_⟩⟩
    · have h : 1 < r.length := by
        have := of_decide_eq_true h
        omega
      rw [rh_eq h]
      have h0 : 0 < r.length := by omega
      walk_at "s"
      refine wr_ixuL rfl (at_arc h0) ?_
      walk_at "s"
      refine ⟨fun h1 => ?_, fun h1 => ⟨fun h => (by cases h), fun _ => ?_⟩⟩
      · walk_at "s"
        refine wr_ixuL rfl (at_last h0) ?_
        walk_at "s"
        refine wr_eqD rfl rfl (shaped_opt _) (shaped_int _) ?_
        rw [eqv_opt]
        walk_at "s"
        refine ⟨fun h2 => ?_, fun h2 => ?_⟩
        · rw [if_pos ⟨of_decide_eq_true h1, of_decide_eq_true h2⟩]
          obtain ⟨z, hz⟩ := eqvN r[0].2 0 (hs _ (List.getElem_mem _))
          have e0 : eArc r[0] = .tuple [.int r[0].1, .int z] := by
            show PyData.tuple [.int r[0].1, eOpt r[0].2] = _
            rw [hz]
            rfl
          walk_at "s"
          refine wr_ixuL rfl (at_last h0) ?_
          walk_at "s"
          refine wr_ixuL rfl (at_last h0) ?_
          walk_at "s"
          refine wr_ixuL rfl (at_arc h0) ?_
          rw [e0]
          walk_at "s"
          rw [cut_mid _ (by rw [List.length_map, List.length_map]; exact h)]
          refine wr_addL rfl rfl ?_ ?_
          · refine big_le ?_
            rw [List.length_take, List.length_drop, List.length_map, List.length_map]
            simp
            omega
          walk_at "s"
          refine ⟨rfl, none, none, ?_⟩
          rw [hz, List.map_append, List.map_take, List.map_drop, List.map_take, List.map_drop, List.length_map, List.length_map]
          rfl
        · rw [if_neg fun z => of_decide_eq_false h2 z.2]
          walk_at "s"
          exact ⟨rfl, _, _, rfl⟩
      · rw [if_neg fun z => of_decide_eq_false h1 z.1]
        walk_at "s"
        exact ⟨rfl, _, _, rfl⟩
    · rw [rh_ne (fun z => of_decide_eq_false h (by omega))]
      walk_at "s"
      exact ⟨rfl, _, _, rfl⟩
  · rintro ss' st' ⟨rfl, y3, y4, rfl⟩
    walk_at "s"
    exact fin_pd (by simp) q
/-! ### line_ranks -/
abbrev s_line_ranks : Stmt := topS 31
abbrev N_line_ranks : List Str := ["a", "b", "c", "H", "m", "r", "told", "gap", "shut", "made", "grown", "left", "first", "lines"]
theorem sc_line_ranks : FnScope N_line_ranks ["a", "b", "c", "H", "m", "r"] (defScope s_line_ranks) := ⟨rfl, rfl, rfl, by decide +kernel, rfl, by decide +kernel, by decide +kernel⟩
def pre_line_ranks : Pre := fun xs st Φ => ∃ (a b c H m r : Int) (res : List (List Arc)), xs = [.pd (.int a), .pd (.int b), .pd (.int c), .pd (.int H), .pd (.int m), .pd (.int r)] ∧ Good a b c H m r ∧ lineRanks a b c H m r = some res ∧ Φ (.pd (.list (res.map eArcs))) st
def growF (a b c : Int) : PyData → Option PyData := fun d => match d with
  | .tuple [.int f, .int l] => if l > c then some (eHole (f - b, l + b - a - c)) else none
  | _ => none
theorem growF_eq (a b c f l : Int) : growF a b c (eHole (f, l)) = if l > c then some (eHole (f - b, l + b - a - c)) else none := rfl
theorem fm_grow (a b c : Int) : ∀ hs : List Hole, (hs.map eHole).filterMap (growF a b c) = (grow a b c hs).map eHole
  | [] => rfl
  | (f, l) :: t => by
    have ih := fm_grow a b c t
    rw [List.map_cons, List.filterMap_cons, growF_eq, ih]
    unfold grow
    rw [List.filter_cons]
    by_cases h : l > c
    · rw [if_pos h, if_pos (decide_eq_true h)]
      rfl
    · rw [if_neg h, if_neg (by simpa using h)]
theorem ok_len {s : List Arc} (h : okShut s = true) : s.length ≤ 1000 := of_decide_eq_true (Bool.and_eq_true_iff.mp h).1
theorem ok_fin {s : List Arc} (h : okShut s = true) : ∀ a ∈ s, a.2 ≠ none := fun a ha e => by
  have := (List.all_eq_true.mp (Bool.and_eq_true_iff.mp h).2) a ha
  rw [e] at this
  cases this
theorem eqv_arcs (r s : List Arc) : PyData.eqv (.list (r.map eArc)) (.list (s.map eArc)) = decide (r = s) := by
  rw [eqv_list]
  exact eqvAll_map eArc_eqv r s
theorem snoc_arcs (made : List (List Arc)) (x : List Arc) : made.map eArcs ++ [.list (x.map eArc)] = (made ++ [x]).map eArcs := by rw [List.map_append]; rfl
theorem holes_le (r : List Arc) (H : Int) : (roundHoles r H).length ≤ r.length := by
  by_cases h : 1 < r.length
  · rw [rh_eq h]
    split
    · rw [List.length_append, List.length_map, List.length_take, List.length_drop]
      simp
      omega
    · rw [List.length_map]
      exact Nat.le_refl _
  · rw [rh_ne h, List.length_map]
    exact Nat.le_refl _
theorem ok_line_ranks (c_arcs_minus : Cal P w K mg base 3 "arcs_minus" ["r", "s"] (spP K T 2 pre_arcs_minus)) (c_round_arcs : Cal P w K mg base 3 "round_arcs" ["holes", "H"] (spP K T 2 pre_round_arcs)) (c_round_holes : Cal P w K mg base 1 "round_holes" ["arcs", "H"] (spP K T 2 pre_round_holes)) (c_gap_at : Cal P w K mg base 5 "gap_at" ["a", "b", "c", "H", "m", "r"] (spP K T 6 pre_gap_at)) (dd : Df K mg "line_ranks" s_line_ranks) : Cal P w K mg base 6 "line_ranks" ["a", "b", "c", "H", "m", "r"] (spP K T 6 pre_line_ranks) := by
  refine dd.cal (fun f fd F => F.ok sc_line_ranks (fun vs H Q E h => spP_len h) fun cdv A outer s H vs Q E hr h => ?_) (fun _ _ _ _ _ _ us hl => match us, hl with | [_, _, _, _, _, _], _ => rfl)
  have nd := sc_line_ranks.nd
  have hu := room_u hr
  refine ⟨_, (pss_cons (ps_asg (pe_callC c_gap_at (hr.mono (by decide)) (by rfl) (pa_cons (pv 0) (pa_cons (pv 1) (pa_cons (pv 2) (pa_cons (pv 3) (pa_cons (pv 4) (pa_cons (pv 5) pa_nil))))))) (pg_name (i := 6) nd rfl (.inl rfl))) (pss_cons (ps_asg (pe_ifExp (pt_cmpR op_isN (pv 6) pe_non (nomark _)) (pe_lst pa_nil) (pe_lst (pa_cons (pv 6) pa_nil))) (pg_name (i := 7) nd rfl (.inl rfl))) (pss_cons (ps_asg (pe_callC c_round_arcs (hr.mono (by decide)) (by rfl) (pa_cons (pv 7) (pa_cons (pv 3) pa_nil))) (pg_name (i := 8) nd rfl (.inl rfl))) (pss_cons (ps_asg (pe_lst (pa_cons (pe_callC c_arcs_minus (hr.mono (by decide)) (by rfl) (pa_cons (pe_lst (pa_cons (pe_tup (pa_cons pe_int (pa_cons (pe_op op_sub (pv 3) pe_int) pa_nil))) pa_nil)) (pa_cons (pv 8) pa_nil))) pa_nil)) (pg_name (i := 9) nd rfl (.inl rfl))) (pss_cons (ps_while PassesOwn.never (pt_cmpR (op_neK (K := K) rfl hu) (pe_ix (ix_seqK (K := K) rfl) (pv 9) (pe_un un_neg pe_int) (fun _ _ => rfl)) (pe_lst pa_nil) (nomark _)) (pss_cons (ps_setLc (i := 10) (own := [("first", 12), ("lines", 13)]) (g := gTup K 2 (gCons (gName 12) (gCons (gName 13) gNil))) (tt := _) rfl nd rfl rfl (sw_true rfl rfl rfl (by decide +kernel)) (pi_list (pe_callC c_round_holes (hr.mono (by decide)) (by rfl) (pa_cons (pv 8) (pa_cons (pv 3) pa_nil)))) (blkOk_by (N := N_line_ranks) (sc := defScope s_line_ranks) (by decide +kernel)) (fun _ _ _ _ _ => (pg_tup (n := 2) rfl (pgs_cons (pg_name (i := 12) nd rfl (.inl rfl)) (pgs_cons (pg_name (i := 13) nd rfl (.inl rfl)) pgs_nil)))) (fun _ _ _ _ _ => (pts_one (pt_cmpR op_gt (pv 13) (pv 2) (nomark _)))) (fun _ _ _ _ _ => (pe_tup (pa_cons (pe_op op_sub (pv 12) (pv 1)) (pa_cons (pe_op op_sub (pe_op op_sub (pe_op (op_addK (K := K) rfl) (pv 13) (pv 1)) (pv 0)) (pv 2)) pa_nil))))) (pss_cons (ps_asg (pe_callC c_round_arcs (hr.mono (by decide)) (by rfl) (pa_cons (pe_op (op_addK (K := K) rfl) (pv 10) (pv 7)) (pa_cons (pv 3) pa_nil))) (pg_name (i := 8) nd rfl (.inl rfl))) (pss_cons (ps_asg (pe_callC c_arcs_minus (hr.mono (by decide)) (by rfl) (pa_cons (pe_lst (pa_cons (pe_tup (pa_cons pe_int (pa_cons (pe_op op_sub (pv 3) pe_int) pa_nil))) pa_nil)) (pa_cons (pv 8) pa_nil))) (pg_name (i := 11) nd rfl (.inl rfl))) (pss_cons (ps_if (pt_cmpR (op_eqK (K := K) rfl hu) (pv 11) (pe_ix (ix_seqK (K := K) rfl) (pv 9) (pe_un un_neg pe_int) (fun _ _ => rfl)) (nomark _)) (pss_one (ps_ret (pv 9))) pss_nil) (pss_one (ps_expr (pe_bm PySem.F.plainAttrs_list PySem.F.slot_list_append PySem.F.type_list_append mt_append (pv 9) (pa_cons (pv 11) pa_nil))))))))) (pss_one (ps_ret (pv 9)))))))), fn_run h ?_⟩
  intro xs st Φ hl hp
  clear hl h hu hr nd
  try dsimp only [L2.cxOf]
  obtain ⟨a, b, c, H, m, r, res, rfl, G, hres, q⟩ := hp
  walk_at "s"
  refine ⟨by rfl, a, b, c, H, m, r, rfl, G, ?_⟩
  obtain ⟨⟨g1, g2, g3, g4, g5⟩, ⟨g6, g7, g8⟩, g9, g10, g11, g12, g13, g14⟩ := G
  refine wg_name ?_
  refine ws_mid (fun ss' st' => ss' = [some (.pd (.int a)), some (.pd (.int b)), some (.pd (.int c)), some (.pd (.int H)), some (.pd (.int m)), some (.pd (.int r)), some (.pd (eGap (gapAt a b c H m r))), some (.pd (.list ((gapL a b c H m r).map eHole))), none, none, none, none, none, none] ∧ st = st') ?_ ?_
  · unfold gapL
    cases gapAt a b c H m r with
    | none =>
      walk_at "s"
      refine ⟨fun _ => ?_, fun h => (by cases h)⟩
      walk_at "s"
      exact ⟨rfl, rfl⟩
    | some h =>
      walk_at "s"
      refine ⟨fun h => (by cases h), fun _ => ?_⟩
      walk_at "s"
      exact ⟨rfl, rfl⟩
  rintro ss' st' ⟨rfl, rfl⟩
  have hgl : (gapL a b c H m r).length ≤ 1 := by
    unfold gapL
    cases gapAt a b c H m r <;> simp
  unfold lineRanks at hres
  generalize gapL a b c H m r = gap at hres hgl ⊢
  walk_at "s"
  refine ⟨by rfl, gap, H, rfl, by omega, by omega, ?_⟩
  generalize hsh : roundArcs gap H = shut at hres ⊢
  by_cases hok : okShut shut = true
  case neg =>
    rw [if_neg hok] at hres
    cases hres
  rw [if_pos hok] at hres
  have hl := ok_len hok
  refine wg_name ?_
  refine ws_seq (ws_asg (we_lstC ?_))
  walk_at "s"
  refine ⟨by rfl, [(0, some (H - 1))], shut, rfl, by simp; omega, ?_⟩
  walk_at "s"
  rw [show arcsMinus [(0, some (H - 1))] shut = leftOf H shut from rfl]
  rw [Option.map_eq_some_iff] at hres
  obtain ⟨rest, hr, rfl⟩ := hres
  refine ws_seq (ws_while (fun n ss' st' => n ≤ 20 ∧ ∃ (sofar : List (List Arc)) (last shut : List Arc) (rest' : List (List Arc)) (y10 y11 y12 y13 : Option Val), ss' = [some (.pd (.int a)), some (.pd (.int b)), some (.pd (.int c)), some (.pd (.int H)), some (.pd (.int m)), some (.pd (.int r)), some (.pd (eGap (gapAt a b c H m r))), some (.pd (.list (gap.map eHole))), some (.pd (eArcs shut)), some (.cell st.length), y10, y11, y12, y13] ∧
    st' = st ++ [.mu (sofar.map eArcs ++ [eArcs last])] ∧ okShut shut = true ∧ sofar.length + n ≤ 20 ∧ ranksGo a b c H gap n shut last = some rest' ∧ leftOf H (roundArcs gap H) :: rest = sofar ++ [last] ++ rest') ⟨20, Nat.le_refl _, [], leftOf H shut, shut, rest, none, none, none, none, rfl, rfl, hok, Nat.le_refl _, hr, by rw [hsh]; rfl⟩ ?_)
  · rintro n ss' st' ⟨hn20, sofar, last, shut, rest', y10, y11, y12, y13, rfl, rfl, hok, hsl, hr, he⟩
    have hl := ok_len hok
    have hf := ok_fin hok
    walk_at "s"
    refine wr_ixuL look_end (atI_last _ _) ?_
    walk_at "s"
    refine wr_neD rfl rfl (sh_arcs _) rfl ?_
    rw [eqv_isNil]
    walk_at "s"
    cases n with
    | zero => cases hr
    | succ n =>
      unfold ranksGo at hr
      refine ⟨fun hb => ?_, fun hb => ?_⟩
      · have hne : last ≠ [] := fun e => by
          rw [e] at hb
          cases hb
        rw [if_neg hne] at hr
        have hhl := holes_le shut H
        refine ws_sA (we_lcL (gw_tup (gw_cons gm_name (gm_cons gm_name gm_nil) (gw_name (by simp)) (gw_cons gm_name gm_nil (gw_name (by simp)) gw_nil))) ?_)
        walk_at "s"
        refine ⟨by rfl, shut, H, rfl, by omega, hf, ?_⟩
        refine ⟨_, rfl, by rw [List.length_map]; exact big_lt (by omega), growF a b c, ?_, ?_⟩
        · intro i d acc hd
          obtain ⟨x, hx, rfl⟩ := List.mem_map.mp (List.mem_of_getElem? hd)
          obtain ⟨f, l⟩ := x
          walk_at "s"
          refine ⟨fun hb => ?_, fun hb => ?_⟩
          · walk_at "s"
            exact ⟨_, _, rfl, take_snoc, if_pos (of_decide_eq_true hb)⟩
          · exact ⟨take_snoc, if_neg (of_decide_eq_false hb)⟩
        rw [fm_grow]
        have hgr : (grow a b c (roundHoles shut H)).length ≤ shut.length := by
          unfold grow
          rw [List.length_map]
          exact Nat.le_trans (List.length_filter_le _ _) hhl
        walk_at "s"
        refine wr_addL rfl rfl (by rw [List.length_map, List.length_map]; exact big_le (by omega)) ?_
        walk_at "s"
        refine ⟨by rfl, grow a b c (roundHoles shut H) ++ gap, H, by rw [List.map_append], by rw [List.length_append]; omega, by omega, ?_⟩
        rw [show roundArcs (grow a b c (roundHoles shut H) ++ gap) H = nextShut a b c H gap shut from rfl]
        generalize nextShut a b c H gap shut = shut2 at hr ⊢
        by_cases hok2 : okShut shut2 = true
        case neg =>
          rw [if_neg hok2] at hr
          cases hr
        rw [if_pos hok2] at hr
        have hl2 := ok_len hok2
        walk_at "s"
        refine ⟨by rfl, [(0, some (H - 1))], shut2, rfl, by simp; omega, ?_⟩
        rw [show arcsMinus [(0, some (H - 1))] shut2 = leftOf H shut2 from rfl]
        walk_at "s"
        walk_at "f"
        refine wr_ixuL look_end (atI_last _ _) ?_
        refine wr_eqD rfl rfl (sh_arcs _) (sh_arcs _) ?_
        rw [eqv_arcs]
        walk_at "s"
        refine ⟨fun hb2 => ?_, fun hb2 => ?_⟩
        · rw [if_pos (of_decide_eq_true hb2)] at hr
          cases hr
          rw [List.append_nil] at he
          walk_at "s"
          rw [show sofar.map eArcs ++ [PyData.list (last.map eArc)] = (sofar ++ [last]).map eArcs from snoc_arcs _ _, ← he]
          rw [← hsh] at *
          exact fin_end q
        · rw [if_neg (of_decide_eq_false hb2), Option.map_eq_some_iff] at hr
          obtain ⟨rest2, hr2, rfl⟩ := hr
          walk_at "s"
          refine ⟨n, Nat.lt_succ_self _, by omega, sofar ++ [last], leftOf H shut2, shut2, rest2, _, _, _, _, rfl, ?_, hok2, by rw [List.length_append]; simp; omega, hr2, ?_⟩
          · rw [List.map_append]
            rfl
          · rw [he]
            simp
      · have hne : last = [] := by
          cases last with
          | nil => rfl
          | cons x t => cases hb
        rw [if_pos hne] at hr
        cases hr
        rw [List.append_nil] at he
        walk_at "s"
        rw [show sofar.map eArcs ++ [PyData.list (last.map eArc)] = (sofar ++ [last]).map eArcs from snoc_arcs _ _, ← he]
        rw [← hsh] at *
        exact fin_end q
/-! ### _law_purse -/
abbrev s__law_purse : Stmt := topS 33
abbrev N__law_purse : List Str := ["script", "at", "cell", "size", "one"]
theorem sc__law_purse : FnScope N__law_purse ["script", "at"] (defScope s__law_purse) := ⟨rfl, rfl, rfl, by decide +kernel, rfl, by decide +kernel, by decide +kernel⟩
def pre__law_purse : Pre := fun xs st Φ => ∃ (ns : List Int) (at_ : Int), xs = [.pd (.list (ns.map PyData.int)), .pd (.int at_)] ∧ ns.length ≤ 63 ∧ 0 ≤ at_ ∧ at_ ≤ 1 ∧ ∀ p0 p1 : Int, Φ (.cell st.length) (st ++ [.mu [.int p0, .int p1, .int at_]])
theorem at_int {ns : List Int} {i : Int} (h : 0 ≤ i) (h2 : i < ns.length) : ∃ v, atI (ns.map PyData.int) i = some (.int v) := by
  obtain ⟨j, rfl⟩ : ∃ j : Nat, i = (j : Int) := ⟨i.toNat, by omega⟩
  have hj : j < ns.length := by omega
  refine ⟨ns[j], atI_nat ?_⟩
  rw [List.getElem?_map, List.getElem?_eq_getElem hj]
  rfl
theorem cut_ints (ns : List Int) (lo hi : Option Int) : ∃ ms : List Int, Ct.cutD (ns.map PyData.int) lo hi = ms.map PyData.int ∧ ms.length ≤ ns.length := by
  unfold Ct.cutD
  rw [← List.map_drop, ← List.map_take]
  exact ⟨_, rfl, by rw [List.length_take, List.length_drop]; omega⟩
theorem ok__law_purse (Z : Zs mg) (dd : Df K mg "_law_purse" s__law_purse) : Cal P w K mg base 1 "_law_purse" ["script", "at"] (spP K T 2 pre__law_purse) := by
  refine dd.cal (fun f fd F => F.ok sc__law_purse (fun vs H Q E h => spP_len h) fun cdv A outer s H vs Q E hr h => ?_) (fun _ _ _ _ _ _ us hl => match us, hl with | [_, _], _ => rfl)
  have nd := sc__law_purse.nd
  have hu := room_u hr
  refine ⟨_, (pss_cons (ps_asg (pe_ifExp (pt_cmpR op_lt (pv 1) (pe_callB (call_lenK (K := K) rfl) (by rfl) Z.len PySem.boot_len (pa_cons (pv 0) pa_nil)) (nomark _)) (pe_callTy call_int1 (by rfl) Z.int_ boot_int (pa_cons (pe_ix (ix_seqK (K := K) rfl) (pv 0) (pv 1) (fun _ _ => rfl)) pa_nil)) (pe_op op_mul pe_int (pe_callB (cr_sumK (K := K) rfl rfl) (by rfl) Z.sum boot_sum (pa_cons (pe_lc (own := [("one", 4)]) (g := gName 4) (tt := tYes) rfl nd (pi_list (pe_slice (sl_listK (K := K) rfl) (pv 0) po_none (po_some pe_int))) (blkOk_by (N := N__law_purse) (sc := defScope s__law_purse) (by decide +kernel)) (fun _ _ _ _ _ => (pg_name (i := 4) nd rfl (.inl rfl))) (fun _ _ _ _ _ => pts_nil) (fun _ _ _ _ _ => (pe_callTy call_int1 (by rfl) Z.int_ boot_int (pa_cons (pv 4) pa_nil)))) pa_nil)))) (pg_name (i := 2) nd rfl (.inl rfl))) (pss_cons (ps_asg (pe_op (op_addK (K := K) rfl) (pe_op op_mul pe_int (pe_callB call_abs (by rfl) Z.abs boot_abs (pa_cons (pv 2) pa_nil))) (pe_ifExp (pt_cmpR op_lt (pv 2) pe_int (nomark _)) pe_int pe_int)) (pg_name (i := 3) nd rfl (.inl rfl))) (pss_one (ps_ret (pe_lst (pa_cons (pe_ifExp (pt_cmpR op_ge (pv 3) (pe_op op_pow pe_int pe_int) (nomark _)) (pv 3) pe_int) (pa_cons (pe_op op_mod (pe_callTy call_int1 (by rfl) Z.int_ boot_int (pa_cons (pe_op (op_addK (K := K) rfl) (pe_op (op_addK (K := K) rfl) (pv 3) (pe_op op_mul (pv 1) pe_int)) pe_int) pa_nil)) pe_int) (pa_cons (pv 1) pa_nil)))))))), fn_run h ?_⟩
  intro xs st Φ hl hp
  clear hl h hu hr nd
  try dsimp only [L2.cxOf]
  obtain ⟨ns, at_, rfl, hl, h0, h1, q⟩ := hp
  refine ws_mid (fun ss' st' => st' = st ∧ ∃ v : Int, ss' = [some (.pd (.list (ns.map PyData.int))), some (.pd (.int at_)), some (.pd (.int v)), none, none]) ?_ ?_
  · walk_at "s"
    refine ⟨fun h => ?_, fun h => ?_⟩
    · have h := of_decide_eq_true h
      rw [List.length_map] at h
      obtain ⟨v, hv⟩ := at_int h0 h
      walk_at "s"
      refine wr_ixuL rfl hv ?_
      walk_at "s"
      exact ⟨rfl, v, rfl⟩
    · walk_at "s"
      refine we_lcL (gw_name (by simp)) ?_
      walk_at "s"
      obtain ⟨ms, em, hm⟩ := cut_ints ns none (some 4)
      rw [em]
      refine ⟨by rw [List.length_map]; exact big_lt (by omega), fun d => some d, ?_, ?_⟩
      · intro i d acc hd
        obtain ⟨z, hz, rfl⟩ := List.mem_map.mp (List.mem_of_getElem? hd)
        walk_at "s"
        refine ⟨fun _ => ?_, fun h => (by cases h)⟩
        walk_at "s"
        exact ⟨_, _, rfl, take_snoc, rfl⟩
      rw [show (ms.map PyData.int).filterMap (fun d => some d) = ms.map PyData.int by rw [List.filterMap_some]]
      walk_at "s"
      refine wc_sum rfl ?_
      walk_at "s"
      exact ⟨rfl, _, rfl⟩
  · rintro ss' st' ⟨rfl, v, rfl⟩
    refine ws_mid (fun ss' st'' => st'' = st' ∧ ∃ z : Int, ss' = [some (.pd (.list (ns.map PyData.int))), some (.pd (.int at_)), some (.pd (.int v)), some (.pd (.int z)), none]) ?_ ?_
    · walk_at "s"
      refine ⟨fun h => ?_, fun h => ?_⟩
      · walk_at "s"
        exact ⟨rfl, _, rfl⟩
      · walk_at "s"
        exact ⟨rfl, _, rfl⟩
    · rintro ss' st'' ⟨rfl, z, rfl⟩
      refine ws_ret (we_lstC ?_)
      walk_at "s"
      refine wr_pow (by unfold CPow; omega) ?_
      walk_at "s"
      have fin : ∀ p0 p1 : Int, Ct.Fin st''.length Φ (.cell st''.length) (st'' ++ [.mu [.int p0, .int p1, .int at_]]) := fun p0 p1 => fin_all (by simp) (fun k e => by cases e; simp) (q p0 p1)
      refine ⟨fun h => ?_, fun h => ?_⟩
      · walk_at "s"
        exact fin _ _
      · walk_at "s"
        exact fin _ _
/-! ### _law_draw -/
abbrev s__law_draw : Stmt := topS 34
abbrev N__law_draw : List Str := ["purse", "many", "found"]
theorem sc__law_draw : FnScope N__law_draw ["purse", "many"] (defScope s__law_draw) := ⟨rfl, rfl, rfl, by decide +kernel, rfl, by decide +kernel, by decide +kernel⟩
def pre__law_draw : Pre := fun xs st Φ => ∃ (n : Nat) (many : Int), xs = [.cell n, .pd (.int many)] ∧ 0 < many ∧ many < 1000 ∧ Pur st n ∧ ∀ (v : Int) (st' : Sto), 0 ≤ v → v < many → Only st st' n → Pur st' n → Φ (.pd (.int v)) st'
theorem ok__law_draw (Z : Zs mg) (dd : Df K mg "_law_draw" s__law_draw) : Cal P w K mg base 1 "_law_draw" ["purse", "many"] (spP K T 2 pre__law_draw) := by
  refine dd.cal (fun f fd F => F.ok sc__law_draw (fun vs H Q E h => spP_len h) fun cdv A outer s H vs Q E hr h => ?_) (fun _ _ _ _ _ _ us hl => match us, hl with | [_, _], _ => rfl)
  have nd := sc__law_draw.nd
  have hu := room_u hr
  refine ⟨_, (pss_cons (ps_if (pt_cmpR op_gt (pe_ix (ix_seqK (K := K) rfl) (pv 0) pe_int (fun _ _ => rfl)) pe_int (nomark _)) (pss_cons (ps_asg (pe_op op_mod (pe_callTy call_int1 (by rfl) Z.int_ boot_int (pa_cons (pe_ix (ix_seqK (K := K) rfl) (pv 0) pe_int (fun _ _ => rfl)) pa_nil)) (pv 1)) (pg_name (i := 2) nd rfl (.inl rfl))) (pss_cons (ps_asg (pe_op op_fdiv (pe_ix (ix_seqK (K := K) rfl) (pv 0) pe_int (fun _ _ => rfl)) (pv 1)) (pg_sub (pv 0) pe_int set_list)) (pss_one (ps_ret (pv 2))))) pss_nil) (pss_cons (ps_augS (pv 0) pe_int get_list pe_int ip_add set_list) (pss_cons (ps_asg (pe_op op_mod (pe_callTy call_int1 (by rfl) Z.int_ boot_int (pa_cons (pe_op (op_addK (K := K) rfl) (pe_op op_mul (pe_ix (ix_seqK (K := K) rfl) (pv 0) pe_int (fun _ _ => rfl)) pe_int) (pe_op op_mul (pe_ix (ix_seqK (K := K) rfl) (pv 0) pe_int (fun _ _ => rfl)) pe_int)) pa_nil)) pe_int) (pg_sub (pv 0) pe_int set_list)) (pss_one (ps_ret (pe_op op_mod (pe_op op_fdiv (pe_op op_mod (pe_callTy call_int1 (by rfl) Z.int_ boot_int (pa_cons (pe_op (op_addK (K := K) rfl) (pe_op op_mul (pe_ix (ix_seqK (K := K) rfl) (pv 0) pe_int (fun _ _ => rfl)) pe_int) (pe_op op_mul (pe_ix (ix_seqK (K := K) rfl) (pv 0) pe_int (fun _ _ => rfl)) pe_int)) pa_nil)) pe_int) pe_int) (pv 1))))))), fn_run h ?_⟩
  intro xs st Φ hl hp
  clear hl h hu hr nd
  try dsimp only [L2.cxOf]
  obtain ⟨n, many, rfl, h1, h2, ⟨p0, p1, p2, e⟩, q⟩ := hp
  walk_at "f"
  refine wr_ixuL (look_mu e) rfl ?_
  walk_at "s"
  refine ⟨fun _ => ?_, fun _ => ?_⟩
  · walk_at "s"
    refine wr_ixuL (look_mu e) rfl ?_
    walk_at "s"
    refine wr_ixuL (look_mu e) rfl ?_
    walk_at "s"
    refine wg_sub ?_
    walk_at "s"
    refine wx_list e rfl ?_
    walk_at "s"
    exact fin_same List.length_set (q _ _ (Int.emod_nonneg _ (by omega)) (Int.emod_lt_of_pos _ h1) Only.set ⟨_, _, _, get_setSelf e⟩)
  · refine ws_next ?_
    refine ws_sS (ws_augS ?_)
    walk_at "s"
    refine wr_ixL (look_mu e) rfl ?_
    walk_at "s"
    refine wx_list e rfl ?_
    have e2 := get_setSelf (c' := .mu ([.int p0, .int p1, .int p2].set (Int.toNat 2) (.int (p2 + 1)))) e
    have o2 : Only st (st.set n (.mu ([.int p0, .int p1, .int p2].set (Int.toNat 2) (.int (p2 + 1))))) n := Only.set
    generalize st.set n (.mu ([.int p0, .int p1, .int p2].set (Int.toNat 2) (.int (p2 + 1)))) = st2 at e2 o2 ⊢
    walk_at "s"
    refine wr_ixuL (look_mu e2) rfl ?_
    walk_at "s"
    refine wr_ixuL (look_mu e2) rfl ?_
    walk_at "s"
    refine wg_sub ?_
    walk_at "s"
    refine wx_list e2 rfl ?_
    have e3 := get_setSelf (c' := .mu (([.int p0, .int p1, .int p2].set (Int.toNat 2) (.int (p2 + 1))).set (Int.toNat 1) (.int ((p1 * 48271 + (p2 + 1) * 69621) % 2147483647)))) e2
    have o3 : Only st (st2.set n (.mu (([.int p0, .int p1, .int p2].set (Int.toNat 2) (.int (p2 + 1))).set (Int.toNat 1) (.int ((p1 * 48271 + (p2 + 1) * 69621) % 2147483647))))) n := o2.trans Only.set
    generalize st2.set n (.mu (([.int p0, .int p1, .int p2].set (Int.toNat 2) (.int (p2 + 1))).set (Int.toNat 1) (.int ((p1 * 48271 + (p2 + 1) * 69621) % 2147483647)))) = st3 at e3 o3 ⊢
    walk_at "s"
    refine wr_ixuL (look_mu e3) rfl ?_
    walk_at "s"
    refine wr_ixuL (look_mu e3) rfl ?_
    walk_at "s"
    exact fin_same o3.len (q _ _ (Int.emod_nonneg _ (by omega)) (Int.emod_lt_of_pos _ h1) o3 ⟨_, _, _, e3⟩)
/-! ### _law_over -/
abbrev s__law_over : Stmt := topS 35
abbrev N__law_over : List Str := ["like"]
theorem sc__law_over : FnScope N__law_over ["like"] (defScope s__law_over) := ⟨rfl, rfl, rfl, by decide +kernel, rfl, by decide +kernel, by decide +kernel⟩
def Likes (a b c H m r : Int) : PyData := .list [.int a, .int b, .int c, .int H, .int m, .int r]
def pre__law_over : Pre := fun xs st Φ => ∃ a b c H m r : Int, xs = [.pd (.list [.int a, .int b, .int c, .int H, .int m, .int r])] ∧ Good a b c H m r ∧ Φ (.pd (.int (overOf a b c H m r))) st
theorem ok__law_over (dd : Df K mg "_law_over" s__law_over) : Cal P w K mg base 1 "_law_over" ["like"] (spP K T 1 pre__law_over) := by
  refine dd.cal (fun f fd F => F.ok sc__law_over (fun vs H Q E h => spP_len h) fun cdv A outer s H vs Q E hr h => ?_) (fun _ _ _ _ _ _ us hl => match us, hl with | [_], _ => rfl)
  have nd := sc__law_over.nd
  have hu := room_u hr
  refine ⟨_, (pss_one (ps_ret (pe_op op_sub (pe_op op_mul (pe_ix (ix_seqK (K := K) rfl) (pv 0) pe_int (fun _ _ => rfl)) (pe_op op_sub (pe_op op_sub (pe_ix (ix_seqK (K := K) rfl) (pv 0) pe_int (fun _ _ => rfl)) (pe_ix (ix_seqK (K := K) rfl) (pv 0) pe_int (fun _ _ => rfl))) (pe_ix (ix_seqK (K := K) rfl) (pv 0) pe_int (fun _ _ => rfl)))) (pe_op op_mul (pe_op op_sub (pe_ix (ix_seqK (K := K) rfl) (pv 0) pe_int (fun _ _ => rfl)) pe_int) (pe_ix (ix_seqK (K := K) rfl) (pv 0) pe_int (fun _ _ => rfl)))))), fn_run h ?_⟩
  intro xs st Φ hl hp
  clear hl h hu hr nd
  try dsimp only [L2.cxOf]
  obtain ⟨a, b, c, H, m, r, rfl, ⟨⟨g1, g2, g3, g4, g5⟩, ⟨g6, g7, g8⟩, g9, g10, g11, g12, g13, g14⟩, q⟩ := hp
  walk_at "s"
  exact fin_pd (by simp) q
/-! ### _law_rest -/
abbrev s__law_rest : Stmt := topS 36
abbrev N__law_rest : List Str := ["many", "part"]
theorem sc__law_rest : FnScope N__law_rest ["many", "part"] (defScope s__law_rest) := ⟨rfl, rfl, rfl, by decide +kernel, rfl, by decide +kernel, by decide +kernel⟩
def pre__law_rest : Pre := fun xs st Φ => ∃ n p : Int, xs = [.pd (.int n), .pd (.int p)] ∧ 0 < p ∧ Φ (.pd (.int (n % p))) st
theorem ok__law_rest (Z : Zs mg) (dd : Df K mg "_law_rest" s__law_rest) : Cal P w K mg base 1 "_law_rest" ["many", "part"] (spP K T 2 pre__law_rest) := by
  refine dd.cal (fun f fd F => F.ok sc__law_rest (fun vs H Q E h => spP_len h) fun cdv A outer s H vs Q E hr h => ?_) (fun _ _ _ _ _ _ us hl => match us, hl with | [_, _], _ => rfl)
  have nd := sc__law_rest.nd
  have hu := room_u hr
  refine ⟨_, (pss_one (ps_ret (pe_op op_mod (pe_callTy call_int1 (by rfl) Z.int_ boot_int (pa_cons (pv 0) pa_nil)) (pv 1)))), fn_run h ?_⟩
  intro xs st Φ hl hp
  clear hl h hu hr nd
  try dsimp only [L2.cxOf]
  obtain ⟨n, p, rfl, h1, q⟩ := hp
  walk_at "s"
  exact fin_pd (by simp) q
/-! ### _law_up -/
abbrev s__law_up : Stmt := topS 37
abbrev N__law_up : List Str := ["many", "part", "found"]
theorem sc__law_up : FnScope N__law_up ["many", "part"] (defScope s__law_up) := ⟨rfl, rfl, rfl, by decide +kernel, rfl, by decide +kernel, by decide +kernel⟩
theorem up_eq {n p : Int} (h : 0 < p) : partsUp n p = if n / p * p = n then n / p else n / p + 1 := by
  unfold partsUp
  have h1 := Int.emod_add_mul_ediv n p
  have h2 := Int.emod_nonneg n (show p ≠ 0 by omega)
  have h3 := Int.emod_lt_of_pos n h
  have hc : n / p * p = p * (n / p) := Int.mul_comm _ _
  split
  · rename_i he
    rw [show n + p - 1 = (p - 1) + p * (n / p) by omega, Int.add_mul_ediv_left _ _ (by omega), Int.ediv_eq_zero_of_lt (by omega) (by omega)]
    omega
  · rename_i he
    rw [show n + p - 1 = (n % p - 1) + p * (n / p + 1) by rw [Int.mul_add]; omega, Int.add_mul_ediv_left _ _ (by omega), Int.ediv_eq_zero_of_lt (by omega) (by omega)]
    omega
def pre__law_up : Pre := fun xs st Φ => ∃ n p : Int, xs = [.pd (.int n), .pd (.int p)] ∧ 0 < p ∧ p < 1000000 ∧ Φ (.pd (.int (partsUp n p))) st
theorem ok__law_up (dd : Df K mg "_law_up" s__law_up) : Cal P w K mg base 1 "_law_up" ["many", "part"] (spP K T 2 pre__law_up) := by
  refine dd.cal (fun f fd F => F.ok sc__law_up (fun vs H Q E h => spP_len h) fun cdv A outer s H vs Q E hr h => ?_) (fun _ _ _ _ _ _ us hl => match us, hl with | [_, _], _ => rfl)
  have nd := sc__law_up.nd
  have hu := room_u hr
  refine ⟨_, (pss_cons (ps_asg (pe_op op_fdiv (pv 0) (pv 1)) (pg_name (i := 2) nd rfl (.inl rfl))) (pss_one (ps_ret (pe_ifExp (pt_cmpR (op_eqK (K := K) rfl hu) (pe_op op_mul (pv 2) (pv 1)) (pv 0) (nomark _)) (pv 2) (pe_op (op_addK (K := K) rfl) (pv 2) pe_int))))), fn_run h ?_⟩
  intro xs st Φ hl hp
  clear hl h hu hr nd
  try dsimp only [L2.cxOf]
  obtain ⟨n, p, rfl, h1, h2, q⟩ := hp
  rw [up_eq h1] at q
  walk_at "s"
  refine ⟨fun h => ?_, fun h => ?_⟩
  · rw [if_pos (of_decide_eq_true h)] at q
    walk_at "s"
    exact fin_pd (by simp) q
  · rw [if_neg (of_decide_eq_false h)] at q
    walk_at "s"
    exact fin_pd (by simp) q
/-! ### _law_forever -/
abbrev s__law_forever : Stmt := topS 38
abbrev N__law_forever : List Str := ["like", "a", "b", "c", "H", "m", "r", "over", "ways", "k", "short", "beyond", "least", "many", "way"]
theorem sc__law_forever : FnScope N__law_forever ["like"] (defScope s__law_forever) := ⟨rfl, rfl, rfl, by decide +kernel, rfl, by decide +kernel, by decide +kernel⟩
def pre__law_forever : Pre := fun xs st Φ => ∃ a b c H m r : Int, xs = [.pd (.list [.int a, .int b, .int c, .int H, .int m, .int r])] ∧ Good a b c H m r ∧ Φ (.pd (eVer (forEver a b c H m r))) st
theorem sh_str {k : Nat} (s : Str) (h : (PyData.str s).canLay0 = true) : Sh k (.str s) := ⟨h, by simp [PyData.depth]⟩
theorem sh_way {k : Nat} (w : Way) : Sh (k + 1) (eWay w) := by
  cases w with
  | gap => exact sh_tuple fun e he => by rw [List.mem_singleton.mp he]; exact sh_str _ (by decide +kernel)
  | short k =>
    refine sh_tuple fun e he => ?_
    rcases List.mem_cons.mp he with rfl | he
    · exact sh_str _ (by decide +kernel)
    · rw [List.mem_singleton.mp he]
      exact sh_int _
  | over k =>
    refine sh_tuple fun e he => ?_
    rcases List.mem_cons.mp he with rfl | he
    · exact sh_str _ (by decide +kernel)
    · rw [List.mem_singleton.mp he]
      exact sh_int _
theorem sh_rows (W : List (Int × Way)) : SeqAt.shaped (.list (W.map eRow)) = true := Sh.shaped (k := 3) (sh_list fun d hd => by
  obtain ⟨x, _, rfl⟩ := List.mem_map.mp hd
  refine sh_tuple fun e he => ?_
  rcases List.mem_cons.mp he with rfl | he
  · exact sh_int _
  · rw [List.mem_singleton.mp he]
    exact sh_way _)
def rowN : PyData → Option PyData
  | .tuple [n, _] => some n
  | _ => none
theorem rowN_map : ∀ l : List (Int × Way), (l.map eRow).filterMap rowN = (l.map Prod.fst).map PyData.int
  | [] => rfl
  | x :: t => by
    have ih := rowN_map t
    rw [List.map_cons, List.filterMap_cons, ih]
    rfl
def rowC (least : Int) : PyData → Option PyData
  | .tuple [.int n, w] => if n = least then some (.tuple [.str "caught", .int n, w]) else none
  | _ => none
theorem rowC_eq (least : Int) (x : Int × Way) : rowC least (eRow x) = if x.1 = least then some (eVer (.caught x.1 x.2)) else none := rfl
theorem rowC_map (least : Int) : ∀ l : List (Int × Way), (l.map eRow).filterMap (rowC least) = (l.filter fun y => decide (y.1 = least)).map fun x => eVer (.caught x.1 x.2)
  | [] => rfl
  | x :: t => by
    have ih := rowC_map least t
    rw [List.map_cons, List.filterMap_cons, rowC_eq, ih, List.filter_cons]
    by_cases h : x.1 = least
    · rw [if_pos h, if_pos (decide_eq_true h)]
      rfl
    · rw [if_neg h, if_neg (by simpa using h)]
theorem best_min {least : Int} : ∀ (l : List (Int × Way)) (b : Int × Way), least ≤ b.1 → (∀ y ∈ l, least ≤ y.1) → (b.1 = least ∨ ∃ y ∈ l, y.1 = least) → ∃ t, (b :: l).filter (fun y => decide (y.1 = least)) = bestOf b l :: t
  | [], b, h1, h2, h3 => by
    rcases h3 with h | ⟨y, hy, _⟩
    · exact ⟨[], by rw [List.filter_cons_of_pos (by simpa using h)]; rfl⟩
    · cases hy
  | y :: l, b, h1, h2, h3 => by
    have hy := h2 y (List.mem_cons_self ..)
    have hl := fun z (hz : z ∈ l) => h2 z (List.mem_cons_of_mem _ hz)
    show ∃ t, _ = bestOf (if y.1 < b.1 then y else b) l :: t
    by_cases h : y.1 < b.1
    · rw [if_pos h, List.filter_cons_of_neg (by simp; omega)]
      refine best_min l y hy hl ?_
      rcases h3 with h3 | ⟨z, hz, e⟩
      · omega
      · rcases List.mem_cons.mp hz with rfl | hz
        · exact .inl e
        · exact .inr ⟨z, hz, e⟩
    · rw [if_neg h]
      by_cases hb : b.1 = least
      · obtain ⟨t, ht⟩ := best_min l b h1 hl (.inl hb)
        rw [List.filter_cons_of_pos (by simpa using hb)] at ht ⊢
        exact ⟨_, by rw [← (List.cons.inj ht).1]⟩
      · obtain ⟨t, ht⟩ := best_min l b h1 hl (by
          rcases h3 with h3 | ⟨z, hz, e⟩
          · exact absurd h3 hb
          · rcases List.mem_cons.mp hz with rfl | hz
            · omega
            · exact .inr ⟨z, hz, e⟩)
        rw [List.filter_cons_of_neg (by simpa using hb)] at ht ⊢
        rw [List.filter_cons_of_neg (by simp; omega)]
        exact ⟨t, ht⟩
theorem rems_get {a b c H m : Int} {i : Nat} (h : i < m.toNat) : (rems a b c H m)[i]? = some ((1 + (i : Int)) * (a + c) % H, (1 + (i : Int)) * b % H) := by
  unfold rems
  rw [List.getElem?_map, List.getElem?_range h]
  rfl
theorem ok__law_forever (c__law_up : Cal P w K mg base 1 "_law_up" ["many", "part"] (spP K T 2 pre__law_up)) (c__law_rest : Cal P w K mg base 1 "_law_rest" ["many", "part"] (spP K T 2 pre__law_rest)) (c__law_over : Cal P w K mg base 1 "_law_over" ["like"] (spP K T 1 pre__law_over)) (Z : Zs mg) (dd : Df K mg "_law_forever" s__law_forever) : Cal P w K mg base 2 "_law_forever" ["like"] (spP K T 1 pre__law_forever) := by
  refine dd.cal (fun f fd F => F.ok sc__law_forever (fun vs H Q E h => spP_len h) fun cdv A outer s H vs Q E hr h => ?_) (fun _ _ _ _ _ _ us hl => match us, hl with | [_], _ => rfl)
  have nd := sc__law_forever.nd
  have hu := room_u hr
  refine ⟨_, (pss_cons (ps_asg (pv 0) (pg_or (pg_tup (n := 6) rfl (pgs_cons (pg_name (i := 1) nd rfl (.inl rfl)) (pgs_cons (pg_name (i := 2) nd rfl (.inl rfl)) (pgs_cons (pg_name (i := 3) nd rfl (.inl rfl)) (pgs_cons (pg_name (i := 4) nd rfl (.inl rfl)) (pgs_cons (pg_name (i := 5) nd rfl (.inl rfl)) (pgs_cons (pg_name (i := 6) nd rfl (.inl rfl)) pgs_nil))))))) (pg_unl (n := 6) rfl (pgs_cons (pg_name (i := 1) nd rfl (.inl rfl)) (pgs_cons (pg_name (i := 2) nd rfl (.inl rfl)) (pgs_cons (pg_name (i := 3) nd rfl (.inl rfl)) (pgs_cons (pg_name (i := 4) nd rfl (.inl rfl)) (pgs_cons (pg_name (i := 5) nd rfl (.inl rfl)) (pgs_cons (pg_name (i := 6) nd rfl (.inl rfl)) pgs_nil))))))))) (pss_cons (ps_asg (pe_callC c__law_over (hr.mono (by decide)) (by rfl) (pa_cons (pv 0) pa_nil)) (pg_name (i := 7) nd rfl (.inl rfl))) (pss_cons (ps_if (pt_cmpR op_le (pv 7) pe_int (nomark _)) (pss_one (ps_ret (pe_tup (pa_cons pe_str (pa_cons pe_str pa_nil))))) pss_nil) (pss_cons (ps_if (pt_cmpR op_ge (pv 7) (pv 4) (nomark _)) (pss_one (ps_ret (pe_tup (pa_cons pe_str (pa_cons (pv 5) (pa_cons (pe_tup (pa_cons pe_str pa_nil)) pa_nil)))))) pss_nil) (pss_cons (ps_asg (pe_ifExp (pt_cmpR op_gt (pv 7) (pv 3) (nomark _)) (pe_lst (pa_cons (pe_tup (pa_cons (pe_op (op_addK (K := K) rfl) (pv 5) (pe_callC c__law_up (hr.mono (by decide)) (by rfl) (pa_cons (pe_op op_sub (pv 4) (pv 7)) (pa_cons (pe_op op_sub (pe_op op_sub (pv 2) (pv 1)) (pv 3)) pa_nil)))) (pa_cons (pe_tup (pa_cons pe_str pa_nil)) pa_nil))) pa_nil)) (pe_lst pa_nil)) (pg_name (i := 8) nd rfl (.inl rfl))) (pss_cons (ps_for PassesOwn.never rfl (pi_range2 rfl Z.range_ (pa_cons pe_int (pa_cons (pe_op (op_addK (K := K) rfl) (pv 5) pe_int) pa_nil))) (pg_name (i := 9) nd rfl (.inl rfl)) (pss_cons (ps_asg (pe_callC c__law_rest (hr.mono (by decide)) (by rfl) (pa_cons (pe_op op_mul (pv 9) (pe_op (op_addK (K := K) rfl) (pv 1) (pv 3))) (pa_cons (pv 4) pa_nil))) (pg_name (i := 10) nd rfl (.inl rfl))) (pss_one (ps_if (pt_cmpR op_le (pe_op op_sub (pv 4) (pv 10)) (pv 7) (nomark _)) (pss_one (ps_expr (pe_bm PySem.F.plainAttrs_list PySem.F.slot_list_append PySem.F.type_list_append mt_append (pv 8) (pa_cons (pe_tup (pa_cons (pe_op (op_addK (K := K) rfl) (pv 5) (pe_op op_mul (pv 9) (pe_callC c__law_up (hr.mono (by decide)) (by rfl) (pa_cons (pe_op op_sub (pv 4) (pv 7)) (pa_cons (pe_op op_sub (pv 4) (pv 10)) pa_nil))))) (pa_cons (pe_tup (pa_cons pe_str (pa_cons (pv 9) pa_nil))) pa_nil))) pa_nil)))) pss_nil)))) (pss_cons (ps_for PassesOwn.never rfl (pi_range2 rfl Z.range_ (pa_cons pe_int (pa_cons (pe_op (op_addK (K := K) rfl) (pv 5) pe_int) pa_nil))) (pg_name (i := 9) nd rfl (.inl rfl)) (pss_cons (ps_asg (pe_callC c__law_rest (hr.mono (by decide)) (by rfl) (pa_cons (pe_op op_mul (pv 9) (pv 2)) (pa_cons (pv 4) pa_nil))) (pg_name (i := 11) nd rfl (.inl rfl))) (pss_one (ps_if (pt_chain op_lt op_le pe_int (pv 11) (pv 7)) (pss_one (ps_expr (pe_bm PySem.F.plainAttrs_list PySem.F.slot_list_append PySem.F.type_list_append mt_append (pv 8) (pa_cons (pe_tup (pa_cons (pe_op (op_addK (K := K) rfl) (pv 5) (pe_op op_mul (pv 9) (pe_callC c__law_up (hr.mono (by decide)) (by rfl) (pa_cons (pe_op op_sub (pv 4) (pv 7)) (pa_cons (pv 11) pa_nil))))) (pa_cons (pe_tup (pa_cons pe_str (pa_cons (pv 9) pa_nil))) pa_nil))) pa_nil)))) pss_nil)))) (pss_cons (ps_if (pt_cmpR (op_eqK (K := K) rfl hu) (pv 8) (pe_lst pa_nil) (nomark _)) (pss_one (ps_ret (pe_tup (pa_cons pe_str (pa_cons pe_str pa_nil))))) pss_nil) (pss_cons (ps_asg (pe_callB (cr_minK' (K := K) rfl rfl) (by rfl) Z.min boot_min (pa_cons (pe_lc (own := [("many", 13), ("way", 14)]) (g := gTup K 2 (gCons (gName 13) (gCons (gName 14) gNil))) (tt := tYes) rfl nd (pi_list (pv 8)) (blkOk_by (N := N__law_forever) (sc := defScope s__law_forever) (by decide +kernel)) (fun _ _ _ _ _ => (pg_tup (n := 2) rfl (pgs_cons (pg_name (i := 13) nd rfl (.inl rfl)) (pgs_cons (pg_name (i := 14) nd rfl (.inl rfl)) pgs_nil)))) (fun _ _ _ _ _ => pts_nil) (fun _ _ _ _ _ => (pv 13))) pa_nil)) (pg_name (i := 12) nd rfl (.inr rfl))) (pss_one (ps_ret (pe_ix (ix_seqK (K := K) rfl) (pe_lc (own := [("many", 13), ("way", 14)]) (g := gTup K 2 (gCons (gName 13) (gCons (gName 14) gNil))) (tt := _) rfl nd (pi_list (pv 8)) (blkOk_by (N := N__law_forever) (sc := defScope s__law_forever) (by decide +kernel)) (fun _ _ _ _ _ => (pg_tup (n := 2) rfl (pgs_cons (pg_name (i := 13) nd rfl (.inl rfl)) (pgs_cons (pg_name (i := 14) nd rfl (.inl rfl)) pgs_nil)))) (fun _ _ _ _ _ => (pts_one (pt_cmpR (op_eqK (K := K) rfl hu) (pv 13) (pv 12) (nomark _)))) (fun _ _ _ _ _ => (pe_tup (pa_cons pe_str (pa_cons (pv 13) (pa_cons (pv 14) pa_nil)))))) pe_int (fun _ _ => rfl))))))))))))), fn_run h ?_⟩
  intro xs st Φ hl hp
  clear hl h hu hr nd
  try dsimp only [L2.cxOf]
  obtain ⟨a, b, c, H, m, r, rfl, G, q⟩ := hp
  have G' := G
  obtain ⟨⟨g1, g2, g3, g4, g5⟩, ⟨g6, g7, g8⟩, g9, g10, g11, g12, g13, g14⟩ := G'
  unfold forEver at q
  walk_at "s"
  refine ⟨by rfl, a, b, c, H, m, r, rfl, G, ?_⟩
  walk_at "s"
  walk_at "f"
  refine ⟨fun h => ?_, fun h => ?_⟩
  · rw [if_pos (of_decide_eq_true h)] at q
    walk_at "s"
    exact fin_pd (by simp) q
  rw [if_neg (of_decide_eq_false h)] at q
  have o1 : 0 < overOf a b c H m r := by
    have := of_decide_eq_false h
    omega
  refine ws_next ?_
  walk_at "f"
  refine ⟨fun h => ?_, fun h => ?_⟩
  · rw [if_pos (of_decide_eq_true h)] at q
    walk_at "s"
    exact fin_pd (by simp) q
  rw [if_neg (of_decide_eq_false h)] at q
  have o2 : overOf a b c H m r < H := by
    have := of_decide_eq_false h
    omega
  have o3 : 0 < b - a - c := by
    have e : overOf a b c H m r = m * (b - a - c) - (r - 1) * H := rfl
    rcases Int.lt_or_le 0 (b - a - c) with h | h
    · exact h
    · have h1 : m * (b - a - c) ≤ 0 := Int.mul_nonpos_of_nonneg_of_nonpos (by omega) h
      have h2 : 0 ≤ (r - 1) * H := Int.mul_nonneg (by omega) (by omega)
      omega
  refine ws_next ?_
  generalize overOf a b c H m r = over at q o1 o2 ⊢
  refine ws_mid (fun ss' st' => ss' = [some (.pd (.list [.int a, .int b, .int c, .int H, .int m, .int r])), some (.pd (.int a)), some (.pd (.int b)), some (.pd (.int c)), some (.pd (.int H)), some (.pd (.int m)), some (.pd (.int r)), some (.pd (.int over)), some (.cell st.length), none, none, none, none, none, none] ∧
    st' = st ++ [.mu ((if over > c then [(m + partsUp (H - over) (b - a - c), Way.gap)] else []).map eRow)]) ?_ ?_
  · refine ws_asg (we_if ?_)
    walk_at "s"
    refine ⟨fun h => ?_, fun h => ?_⟩
    · rw [if_pos (of_decide_eq_true h)]
      refine we_lstC ?_
      walk_at "s"
      refine ⟨by rfl, _, _, rfl, by omega, by omega, ?_⟩
      walk_at "s"
      exact ⟨rfl, rfl⟩
    · rw [if_neg (of_decide_eq_false h)]
      refine we_lstC ?_
      walk_at "s"
      exact ⟨rfl, rfl⟩
  rintro ss' st' ⟨rfl, rfl⟩
  generalize hw0 : (if over > c then [(m + partsUp (H - over) (b - a - c), Way.gap)] else []) = w0
  have hl0 : w0.length ≤ 1 := by
    rw [← hw0]
    split <;> simp
  have hrl := rems_len a b c H m
  have hq : caughtWays a b c H m over = w0 ++ waysS H m over 1 (rems a b c H m) ++ waysO H m over 1 (rems a b c H m) := by
    unfold caughtWays
    rw [hw0]
  have hSl := waysS_le H m over 1 (rems a b c H m)
  have hOl := waysO_le H m over 1 (rems a b c H m)
  have hget := fun i (h : i < m.toNat) => rems_get (a := a) (b := b) (c := c) (H := H) h
  generalize rems a b c H m = R at hrl hq hSl hOl hget ⊢
  refine ws_seq (ws_forR2 (wa_cons (we_c rfl (wa_cons (we_op (we_var rfl (we_c rfl (wr_addI (wa_nil ⟨_, _, rfl, by omega, fun i ss' st' => ∃ (made : List (Int × Way)) (y9 y10 : Option Val), ss' = [some (.pd (.list [.int a, .int b, .int c, .int H, .int m, .int r])), some (.pd (.int a)), some (.pd (.int b)), some (.pd (.int c)), some (.pd (.int H)), some (.pd (.int m)), some (.pd (.int r)), some (.pd (.int over)), some (.cell st.length), y9, y10, none, none, none, none] ∧
    st' = st ++ [.mu (made.map eRow)] ∧ made ++ waysS H m over (1 + (i : Int)) (R.drop i) = w0 ++ waysS H m over 1 R, ⟨w0, none, none, rfl, rfl, rfl⟩, ?_, ?_⟩)))))))))
  · rintro i ss' st' hi ⟨made, y9, y10, rfl, rfl, he⟩
    have hi : i < m.toNat := by omega
    have hx := hget i hi
    have b1 := Int.emod_nonneg ((1 + (i : Int)) * (a + c)) (show H ≠ 0 by omega)
    have b2 := Int.emod_lt_of_pos ((1 + (i : Int)) * (a + c)) (show 0 < H by omega)
    obtain ⟨hi2, hxi⟩ := List.getElem?_eq_some_iff.mp hx
    have hb := congrArg List.length he
    rw [List.length_append, List.length_append] at hb
    rw [List.drop_eq_getElem_cons hi2, hxi] at he
    walk_at "s"
    refine ⟨by rfl, _, _, rfl, by omega, ?_⟩
    generalize (1 + (i : Int)) * (a + c) % H = s at b1 b2 he hx hxi ⊢
    generalize (1 + (i : Int)) * b % H = y at he hx hxi ⊢
    have he : made ++ ((if s ≥ H - over then [(m + (1 + (i : Int)) * partsUp (H - over) (H - s), Way.short (1 + (i : Int)))] else []) ++ waysS H m over (1 + (i : Int) + 1) (R.drop (i + 1))) = w0 ++ waysS H m over 1 R := he
    have ei : (1 + (i : Int) + 1) = (1 + ((i + 1 : Nat) : Int)) := by omega
    rw [ei] at he
    walk_at "s"
    refine ⟨fun h => ?_, fun h => ?_⟩
    · rw [if_pos (by have := of_decide_eq_true h; omega)] at he
      walk_at "s"
      refine ⟨by rfl, _, _, rfl, by omega, by omega, ?_⟩
      walk_at "s"
      refine ⟨made ++ [(m + (1 + (i : Int)) * partsUp (H - over) (H - s), Way.short (1 + (i : Int)))], _, _, rfl, ?_, ?_⟩
      · rw [← snoc_row made _ rfl]
        rfl
      · rw [List.append_assoc]
        exact he
    · rw [if_neg (by have := of_decide_eq_false h; omega)] at he
      walk_at "s"
      exact ⟨made, _, _, rfl, rfl, he⟩
  · rintro ss' st' ⟨made, y9, y10, rfl, rfl, he⟩
    rw [show (m + 1 - 1).toNat = R.length by omega, List.drop_length] at he
    have he : made = w0 ++ waysS H m over 1 R := by
      rw [← he]
      exact (List.append_nil _).symm
    rw [← he] at hq
    have hml := congrArg List.length he
    rw [List.length_append] at hml
    refine ws_seq (ws_forR2 (wa_cons (we_c rfl (wa_cons (we_op (we_var rfl (we_c rfl (wr_addI (wa_nil ⟨_, _, rfl, by omega, fun i ss' st' => ∃ (made2 : List (Int × Way)) (y9 y11 : Option Val), ss' = [some (.pd (.list [.int a, .int b, .int c, .int H, .int m, .int r])), some (.pd (.int a)), some (.pd (.int b)), some (.pd (.int c)), some (.pd (.int H)), some (.pd (.int m)), some (.pd (.int r)), some (.pd (.int over)), some (.cell st.length), y9, y10, y11, none, none, none] ∧
      st' = st ++ [.mu (made2.map eRow)] ∧ made2 ++ waysO H m over (1 + (i : Int)) (R.drop i) = made ++ waysO H m over 1 R, ⟨made, _, _, rfl, rfl, rfl⟩, ?_, ?_⟩)))))))))
    · rintro i ss' st' hi ⟨made2, y9, y11, rfl, rfl, he⟩
      have hi : i < m.toNat := by omega
      have hx := hget i hi
      have b1 := Int.emod_nonneg ((1 + (i : Int)) * b) (show H ≠ 0 by omega)
      have b2 := Int.emod_lt_of_pos ((1 + (i : Int)) * b) (show 0 < H by omega)
      obtain ⟨hi2, hxi⟩ := List.getElem?_eq_some_iff.mp hx
      have hb := congrArg List.length he
      rw [List.length_append, List.length_append] at hb
      rw [List.drop_eq_getElem_cons hi2, hxi] at he
      walk_at "s"
      refine ⟨by rfl, _, _, rfl, by omega, ?_⟩
      generalize (1 + (i : Int)) * (a + c) % H = s at he hx hxi ⊢
      generalize (1 + (i : Int)) * b % H = y at b1 b2 he hx hxi ⊢
      have he : made2 ++ ((if 1 ≤ y ∧ y ≤ over then [(m + (1 + (i : Int)) * partsUp (H - over) y, Way.over (1 + (i : Int)))] else []) ++ waysO H m over (1 + (i : Int) + 1) (R.drop (i + 1))) = made ++ waysO H m over 1 R := he
      have ei : (1 + (i : Int) + 1) = (1 + ((i + 1 : Nat) : Int)) := by omega
      rw [ei] at he
      walk_at "s"
      have no : ¬ (1 ≤ y ∧ y ≤ over) → ∃ (made2' : List (Int × Way)) (y9' y11' : Option Val), [some (.pd (.list [.int a, .int b, .int c, .int H, .int m, .int r])), some (.pd (.int a)), some (.pd (.int b)), some (.pd (.int c)), some (.pd (.int H)), some (.pd (.int m)), some (.pd (.int r)), some (.pd (.int over)), some (.cell st.length), some (.pd (.int (1 + (i : Int)))), y10, some (.pd (.int y)), none, none, none] = [some (.pd (.list [.int a, .int b, .int c, .int H, .int m, .int r])), some (.pd (.int a)), some (.pd (.int b)), some (.pd (.int c)), some (.pd (.int H)), some (.pd (.int m)), some (.pd (.int r)), some (.pd (.int over)), some (.cell st.length), y9', y10, y11', none, none, none] ∧
          st ++ [.mu (made2.map eRow)] = st ++ [.mu (made2'.map eRow)] ∧ made2' ++ waysO H m over (1 + ((i + 1 : Nat) : Int)) (R.drop (i + 1)) = made ++ waysO H m over 1 R := fun hn => by
        rw [if_neg hn] at he
        exact ⟨made2, _, _, rfl, rfl, he⟩
      refine ⟨fun h => ?_, fun h => ⟨_, rfl, fun h2 => (by cases h2), fun _ => ?_⟩⟩
      · walk_at "s"
        refine ⟨fun h2 => ?_, fun h2 => ?_⟩
        · have h1 := of_decide_eq_true h
          have h2 := of_decide_eq_true h2
          rw [if_pos ⟨by omega, h2⟩] at he
          walk_at "s"
          refine ⟨by rfl, _, _, rfl, by omega, by omega, ?_⟩
          walk_at "s"
          refine ⟨made2 ++ [(m + (1 + (i : Int)) * partsUp (H - over) y, Way.over (1 + (i : Int)))], _, _, rfl, ?_, ?_⟩
          · rw [← snoc_row made2 _ rfl]
            rfl
          · rw [List.append_assoc]
            exact he
        · walk_at "s"
          exact no fun hn => absurd hn.2 (of_decide_eq_false h2)
      · walk_at "s"
        exact no fun hn => absurd (show 0 < y by omega) (of_decide_eq_false h)
    · rintro ss' st' ⟨made2, y9, y11, rfl, rfl, he2⟩
      rw [show (m + 1 - 1).toNat = R.length by omega, List.drop_length] at he2
      have he2 : made2 = made ++ waysO H m over 1 R := by
        rw [← he2]
        exact (List.append_nil _).symm
      rw [← he2] at hq
      rw [hq] at q
      have hml2 := congrArg List.length he2
      rw [List.length_append] at hml2
      clear he2 he hq
      walk_at "f"
      refine wr_eqD look_end rfl (sh_rows made2) rfl ?_
      rw [eqv_isNil]
      walk_at "s"
      cases made2 with
      | nil =>
        refine ⟨fun _ => ?_, fun h => (by cases h)⟩
        walk_at "s"
        exact fin_end q
      | cons x t =>
        refine ⟨fun h => (by cases h), fun _ => ?_⟩
        refine ws_next ?_
        refine ws_sA (we_cb (wa_cons ?_))
        refine we_lcL (gw_tup (gw_cons gm_name (gm_cons gm_name gm_nil) (gw_name (by simp)) (gw_cons gm_name gm_nil (gw_name (by simp)) gw_nil))) ?_
        refine we_pur (we_var rfl ⟨_, _, pur_end, ?_⟩)
        refine ⟨_, rfl, by rw [List.length_map]; exact big_lt (by omega), rowN, ?_, ?_⟩
        · intro i d acc hd
          obtain ⟨z, hz, rfl⟩ := List.mem_map.mp (List.mem_of_getElem? hd)
          walk_at "s"
          refine ⟨fun _ => ?_, fun h => (by cases h)⟩
          walk_at "s"
          exact ⟨_, _, rfl, take_snoc, rfl⟩
        rw [rowN_map]
        refine wa_nil (wc_min rfl (by simp) fun least hm hle => ?_)
        walk_at "s"
        refine we_lcL (gw_tup (gw_cons gm_name (gm_cons gm_name gm_nil) (gw_name (by simp)) (gw_cons gm_name gm_nil (gw_name (by simp)) gw_nil))) ?_
        refine we_pur (we_var rfl ⟨_, _, pur_endF, ?_⟩)
        refine ⟨_, rfl, by rw [List.length_map]; exact big_lt (by omega), rowC least, ?_, ?_⟩
        · intro i d acc hd
          obtain ⟨z, hz, rfl⟩ := List.mem_map.mp (List.mem_of_getElem? hd)
          walk_at "s"
          refine ⟨fun h => ?_, fun h => ?_⟩
          · walk_at "s"
            exact ⟨_, _, rfl, take_snoc, if_pos (of_decide_eq_true h)⟩
          · exact ⟨take_snoc, if_neg (of_decide_eq_false h)⟩
        rw [rowC_map]
        obtain ⟨y, hy, hy2⟩ := List.mem_map.mp hm
        have hle2 := fun (z : Int × Way) (hz : z ∈ x :: t) => hle z.1 (List.mem_map.mpr ⟨z, hz, rfl⟩)
        obtain ⟨t2, e2⟩ := best_min (least := least) (x :: t) x (hle2 x (List.mem_cons_self ..)) hle2 (.inr ⟨y, hy, hy2⟩)
        have e3 : ∃ t3, (x :: t).filter (fun y => decide (y.1 = least)) = bestOf x (x :: t) :: t3 := by
          by_cases hx : x.1 = least
          · rw [List.filter_cons_of_pos (by simpa using hx)] at e2
            exact ⟨_, by rw [List.filter_cons_of_pos (by simpa using hx), ← (List.cons.inj e2).1]⟩
          · rw [List.filter_cons_of_neg (by simpa using hx)] at e2
            exact ⟨t2, e2⟩
        obtain ⟨t3, e3⟩ := e3
        rw [e3]
        walk_at "s"
        refine wr_ixuL rfl (atI_nat (j := 0) rfl) ?_
        exact fin_end q
/-! ### _law_draw_like -/
abbrev s__law_draw_like : Stmt := topS 39
abbrev N__law_draw_like : List Str := ["purse", "kind", "H", "m", "r", "g", "over", "c", "w", "a"]
theorem sc__law_draw_like : FnScope N__law_draw_like ["purse"] (defScope s__law_draw_like) := ⟨rfl, rfl, rfl, by decide +kernel, rfl, by decide +kernel, by decide +kernel⟩
def pre__law_draw_like : Pre := fun xs st Φ => ∃ n : Nat, xs = [.cell n] ∧ Pur st n ∧ ∀ (a b c H m r : Int) (st' : Sto), LikeOk a b c H m r → Only st st' n → Pur st' n → Φ (.pd (.list [.int a, .int b, .int c, .int H, .int m, .int r])) st'
theorem mul_small {m g : Int} (m1 : 1 ≤ m) (m3 : m ≤ 3) (g0 : 0 ≤ g) (g2 : g ≤ 2) : 0 ≤ m * g ∧ m * g ≤ 6 := by
  obtain rfl | rfl | rfl : m = 1 ∨ m = 2 ∨ m = 3 := by omega
  all_goals omega
theorem ok__law_draw_like (c__law_draw : Cal P w K mg base 1 "_law_draw" ["purse", "many"] (spP K T 2 pre__law_draw)) (c__law_rest : Cal P w K mg base 1 "_law_rest" ["many", "part"] (spP K T 2 pre__law_rest)) (Z : Zs mg) (dd : Df K mg "_law_draw_like" s__law_draw_like) : Cal P w K mg base 2 "_law_draw_like" ["purse"] (spP K T 1 pre__law_draw_like) := by
  refine dd.cal (fun f fd F => F.ok sc__law_draw_like (fun vs H Q E h => spP_len h) fun cdv A outer s H vs Q E hr h => ?_) (fun _ _ _ _ _ _ us hl => match us, hl with | [_], _ => rfl)
  have nd := sc__law_draw_like.nd
  have hu := room_u hr
  refine ⟨_, (pss_cons (ps_asg (pe_callC c__law_draw (hr.mono (by decide)) (by rfl) (pa_cons (pv 0) (pa_cons pe_int pa_nil))) (pg_name (i := 1) nd rfl (.inl rfl))) (pss_cons (ps_asg (pe_op (op_addK (K := K) rfl) pe_int (pe_callC c__law_draw (hr.mono (by decide)) (by rfl) (pa_cons (pv 0) (pa_cons pe_int pa_nil)))) (pg_name (i := 2) nd rfl (.inl rfl))) (pss_cons (ps_asg (pe_op (op_addK (K := K) rfl) pe_int (pe_callC c__law_draw (hr.mono (by decide)) (by rfl) (pa_cons (pv 0) (pa_cons pe_int pa_nil)))) (pg_name (i := 3) nd rfl (.inl rfl))) (pss_cons (ps_asg (pe_ifExp (pt_cmpR (op_eqK (K := K) rfl hu) (pe_callC c__law_draw (hr.mono (by decide)) (by rfl) (pa_cons (pv 0) (pa_cons pe_int pa_nil))) pe_int (nomark _)) pe_int pe_int) (pg_name (i := 4) nd rfl (.inl rfl))) (pss_cons (ps_asg (pe_op (op_addK (K := K) rfl) pe_int (pe_callC c__law_draw (hr.mono (by decide)) (by rfl) (pa_cons (pv 0) (pa_cons pe_int pa_nil)))) (pg_name (i := 5) nd rfl (.inl rfl))) (pss_cons (ps_if (pt_cmpR (op_eqK (K := K) rfl hu) (pv 1) pe_int (nomark _)) (pss_one (ps_asg pe_int (pg_name (i := 5) nd rfl (.inl rfl)))) pss_nil) (pss_cons (ps_asg (pe_op op_sub (pe_op op_mul (pv 3) (pv 5)) (pe_op op_mul (pe_op op_sub (pv 4) pe_int) (pv 2))) (pg_name (i := 6) nd rfl (.inl rfl))) (pss_cons (ps_asg (pe_ifExp (pt_cmpR op_gt (pv 1) pe_int (nomark _)) (pe_op (op_addK (K := K) rfl) (pe_callB (call_max2 rfl) (by rfl) Z.max boot_max (pa_cons pe_int (pa_cons (pv 6) pa_nil))) (pe_callC c__law_draw (hr.mono (by decide)) (by rfl) (pa_cons (pv 0) (pa_cons pe_int pa_nil)))) (pe_callC c__law_draw (hr.mono (by decide)) (by rfl) (pa_cons (pv 0) (pa_cons pe_int pa_nil)))) (pg_name (i := 7) nd rfl (.inl rfl))) (pss_cons (ps_if (pt_cmpR (op_eqK (K := K) rfl hu) (pv 1) pe_int (nomark _)) (pss_one (ps_asg (pe_callC c__law_draw (hr.mono (by decide)) (by rfl) (pa_cons (pv 0) (pa_cons (pe_callB (call_max2 rfl) (by rfl) Z.max boot_max (pa_cons pe_int (pa_cons (pv 6) pa_nil))) pa_nil))) (pg_name (i := 7) nd rfl (.inl rfl)))) pss_nil) (pss_cons (ps_asg (pe_op (op_addK (K := K) rfl) (pv 7) (pv 5)) (pg_name (i := 8) nd rfl (.inl rfl))) (pss_cons (ps_asg (pe_callC c__law_draw (hr.mono (by decide)) (by rfl) (pa_cons (pv 0) (pa_cons (pv 2) pa_nil))) (pg_name (i := 9) nd rfl (.inl rfl))) (pss_cons (ps_if (pt_cmpR (op_inK (K := K) rfl) (pv 1) (pe_lst (pa_cons pe_int (pa_cons pe_int pa_nil))) (by rfl)) (pss_one (ps_asg (pe_callC c__law_rest (hr.mono (by decide)) (by rfl) (pa_cons (pe_op op_sub (pe_op (op_addK (K := K) rfl) (pe_op op_sub (pe_op op_sub (pv 2) pe_int) (pv 6)) (pe_callC c__law_draw (hr.mono (by decide)) (by rfl) (pa_cons (pv 0) (pa_cons pe_int pa_nil)))) (pv 7)) (pa_cons (pv 2) pa_nil))) (pg_name (i := 9) nd rfl (.inl rfl)))) pss_nil) (pss_cons (ps_if (pt_cmpR (op_eqK (K := K) rfl hu) (pv 1) pe_int (nomark _)) (pss_one (ps_asg (pe_callC c__law_rest (hr.mono (by decide)) (by rfl) (pa_cons (pe_op op_sub (pe_op (op_addK (K := K) rfl) (pv 6) (pe_callC c__law_draw (hr.mono (by decide)) (by rfl) (pa_cons (pv 0) (pa_cons pe_int pa_nil)))) (pv 8)) (pa_cons (pv 2) pa_nil))) (pg_name (i := 9) nd rfl (.inl rfl)))) pss_nil) (pss_cons (ps_if (pt_cmpR (op_eqK (K := K) rfl hu) (pv 1) pe_int (nomark _)) (pss_one (ps_asg (pe_callC c__law_rest (hr.mono (by decide)) (by rfl) (pa_cons (pe_op op_sub (pv 2) (pv 8)) (pa_cons (pv 2) pa_nil))) (pg_name (i := 9) nd rfl (.inl rfl)))) pss_nil) (pss_cons (ps_if (PW.pt (pw_or (pt_cmpR (op_eqK (K := K) rfl hu) (pe_callC c__law_draw (hr.mono (by decide)) (by rfl) (pa_cons (pv 0) (pa_cons pe_int pa_nil))) pe_int (nomark _)) (pw_or1 (pt_cmpR (op_eqK (K := K) rfl hu) (pe_op (op_addK (K := K) rfl) (pv 9) (pv 8)) pe_int (nomark _))))) (pss_one (ps_aug (i := 9) nd rfl (.inl rfl) (pv 2) ip_add)) pss_nil) (pss_one (ps_ret (pe_lst (pa_cons (pv 9) (pa_cons (pe_op (op_addK (K := K) rfl) (pv 9) (pv 8)) (pa_cons (pv 7) (pa_cons (pv 2) (pa_cons (pv 3) (pa_cons (pv 4) pa_nil)))))))))))))))))))))))), fn_run h ?_⟩
  intro xs st Φ hl hp
  clear hl h hu hr nd
  try dsimp only [L2.cxOf]
  obtain ⟨n, rfl, hP, q⟩ := hp
  walk_at "s"
  refine ⟨by rfl, n, 8, rfl, by omega, by omega, hP, fun kind st1 k0 k1 o1 p1 => ?_⟩
  walk_at "s"
  refine ⟨by rfl, n, 10, rfl, by omega, by omega, p1, fun v2 st2 h20 h21 o2 p2 => ?_⟩
  have o2 := o1.trans o2
  walk_at "s"
  refine ⟨by rfl, n, 3, rfl, by omega, by omega, p2, fun v3 st3 h30 h31 o3 p3 => ?_⟩
  have o3 := o2.trans o3
  refine wr_addI ?_
  refine wg_name ?_
  refine ws_mid (fun ss' st' => Only st st' n ∧ Pur st' n ∧ ∃ r : Int, (1 ≤ r ∧ r ≤ 2) ∧ ss' = [some (.cell n), some (.pd (.int kind)), some (.pd (.int (3 + v2))), some (.pd (.int (1 + v3))), some (.pd (.int r)), none, none, none, none, none]) ?_ ?_
  · walk_at "s"
    refine ⟨by rfl, n, 4, rfl, by omega, by omega, p3, fun v4 st4 h40 h41 o4 p4 => ?_⟩
    have o4 := o3.trans o4
    walk_at "s"
    refine ⟨fun h => ?_, fun h => ?_⟩
    · walk_at "s"
      exact ⟨o4, p4, _, by omega, rfl⟩
    · walk_at "s"
      exact ⟨o4, p4, _, by omega, rfl⟩
  rintro ss' st4 ⟨o4, p4, r, ⟨r1, r2⟩, rfl⟩
  walk_at "s"
  refine ⟨by rfl, n, 2, rfl, by omega, by omega, p4, fun v5 st5 h50 h51 o5 p5 => ?_⟩
  have o5 := o4.trans o5
  refine wr_addI ?_
  refine wg_name ?_
  refine ws_mid (fun ss' st' => st5 = st' ∧ ∃ g : Int, (0 ≤ g ∧ g ≤ 2) ∧ ss' = [some (.cell n), some (.pd (.int kind)), some (.pd (.int (3 + v2))), some (.pd (.int (1 + v3))), some (.pd (.int r)), some (.pd (.int g)), none, none, none, none]) ?_ ?_
  · walk_at "s"
    refine ⟨fun h => ?_, fun h => ?_⟩
    · walk_at "s"
      exact ⟨rfl, _, by omega, rfl⟩
    · walk_at "s"
      exact ⟨rfl, _, by omega, rfl⟩
  rintro ss' st' ⟨rfl, g, ⟨g0, g2⟩, rfl⟩
  have hmg := mul_small (m := 1 + v3) (g := g) (by omega) (by omega) g0 g2
  have hrH := Int.mul_nonneg (show 0 ≤ r - 1 by omega) (show 0 ≤ 3 + v2 by omega)
  refine ws_mid (fun ss' st' => st5 = st' ∧ ∃ over : Int, over ≤ 6 ∧ ss' = [some (.cell n), some (.pd (.int kind)), some (.pd (.int (3 + v2))), some (.pd (.int (1 + v3))), some (.pd (.int r)), some (.pd (.int g)), some (.pd (.int over)), none, none, none]) ?_ ?_
  · walk_at "s"
    exact ⟨rfl, _, by omega, rfl⟩
  rintro ss' st' ⟨rfl, over, ho, rfl⟩
  refine ws_mid (fun ss' st' => Only st st' n ∧ Pur st' n ∧ ∃ c : Int, (0 ≤ c ∧ c ≤ 8) ∧ ss' = [some (.cell n), some (.pd (.int kind)), some (.pd (.int (3 + v2))), some (.pd (.int (1 + v3))), some (.pd (.int r)), some (.pd (.int g)), some (.pd (.int over)), some (.pd (.int c)), none, none]) ?_ ?_
  · walk_at "s"
    refine ⟨fun h => ?_, fun h => ?_⟩
    · walk_at "s"
      refine ⟨by rfl, n, 3, rfl, by omega, by omega, p5, fun v6 st6 h60 h61 o6 p6 => ?_⟩
      walk_at "s"
      exact ⟨o5.trans o6, p6, _, by split <;> omega, rfl⟩
    · walk_at "s"
      refine ⟨by rfl, n, 4, rfl, by omega, by omega, p5, fun v6 st6 h60 h61 o6 p6 => ?_⟩
      walk_at "s"
      exact ⟨o5.trans o6, p6, _, by omega, rfl⟩
  rintro ss' st6 ⟨o6, p6, c0, ⟨c00, c08⟩, rfl⟩
  refine ws_mid (fun ss' st' => Only st st' n ∧ Pur st' n ∧ ∃ c : Int, (0 ≤ c ∧ c ≤ 8) ∧ ss' = [some (.cell n), some (.pd (.int kind)), some (.pd (.int (3 + v2))), some (.pd (.int (1 + v3))), some (.pd (.int r)), some (.pd (.int g)), some (.pd (.int over)), some (.pd (.int c)), none, none]) ?_ ?_
  · walk_at "s"
    refine ⟨fun h => ?_, fun h => ?_⟩
    · walk_at "s"
      refine ⟨by rfl, n, _, rfl, by split <;> omega, by split <;> omega, p6, fun v6 st7 h60 h61 o7 p7 => ?_⟩
      walk_at "s"
      refine ⟨o6.trans o7, p7, _, ⟨h60, ?_⟩, rfl⟩
      split at h61 <;> omega
    · walk_at "s"
      exact ⟨o6, p6, _, ⟨c00, c08⟩, rfl⟩
  rintro ss' st7 ⟨o7, p7, c, ⟨c0, c8⟩, rfl⟩
  walk_at "s"
  refine ⟨by rfl, n, _, rfl, by omega, by omega, p7, fun a0 st8 a00 a01 o8 p8 => ?_⟩
  have o8 := o7.trans o8
  refine wg_name ?_
  refine ws_mid (fun ss' st' => Only st st' n ∧ Pur st' n ∧ ∃ a : Int, (0 ≤ a ∧ a < 3 + v2) ∧ ss' = [some (.cell n), some (.pd (.int kind)), some (.pd (.int (3 + v2))), some (.pd (.int (1 + v3))), some (.pd (.int r)), some (.pd (.int g)), some (.pd (.int over)), some (.pd (.int c)), some (.pd (.int (c + g))), some (.pd (.int a))]) ?_ ?_
  · walk_at "s"
    refine wr_in rfl rfl rfl ?_
    walk_at "s"
    refine ⟨fun h => ?_, fun h => ?_⟩
    · walk_at "s"
      refine ⟨by rfl, n, 2, rfl, by omega, by omega, p8, fun v9 st9 h90 h91 o9 p9 => ?_⟩
      walk_at "s"
      refine ⟨by rfl, _, _, rfl, by omega, ?_⟩
      walk_at "s"
      exact ⟨o8.trans o9, p9, _, ⟨Int.emod_nonneg _ (by omega), Int.emod_lt_of_pos _ (by omega)⟩, rfl⟩
    · walk_at "s"
      exact ⟨o8, p8, _, ⟨a00, a01⟩, rfl⟩
  rintro ss' st9 ⟨o9, p9, a1, ⟨a10, a11⟩, rfl⟩
  refine ws_mid (fun ss' st' => Only st st' n ∧ Pur st' n ∧ ∃ a : Int, (0 ≤ a ∧ a < 3 + v2) ∧ ss' = [some (.cell n), some (.pd (.int kind)), some (.pd (.int (3 + v2))), some (.pd (.int (1 + v3))), some (.pd (.int r)), some (.pd (.int g)), some (.pd (.int over)), some (.pd (.int c)), some (.pd (.int (c + g))), some (.pd (.int a))]) ?_ ?_
  · walk_at "s"
    refine ⟨fun h => ?_, fun h => ?_⟩
    · walk_at "s"
      refine ⟨by rfl, n, 2, rfl, by omega, by omega, p9, fun v10 st10 h100 h101 o10 p10 => ?_⟩
      walk_at "s"
      refine ⟨by rfl, _, _, rfl, by omega, ?_⟩
      walk_at "s"
      exact ⟨o9.trans o10, p10, _, ⟨Int.emod_nonneg _ (by omega), Int.emod_lt_of_pos _ (by omega)⟩, rfl⟩
    · walk_at "s"
      exact ⟨o9, p9, _, ⟨a10, a11⟩, rfl⟩
  rintro ss' st10 ⟨o10, p10, a2, ⟨a20, a21⟩, rfl⟩
  refine ws_mid (fun ss' st' => Only st st' n ∧ Pur st' n ∧ ∃ a : Int, (0 ≤ a ∧ a < 3 + v2) ∧ ss' = [some (.cell n), some (.pd (.int kind)), some (.pd (.int (3 + v2))), some (.pd (.int (1 + v3))), some (.pd (.int r)), some (.pd (.int g)), some (.pd (.int over)), some (.pd (.int c)), some (.pd (.int (c + g))), some (.pd (.int a))]) ?_ ?_
  · walk_at "s"
    refine ⟨fun h => ?_, fun h => ?_⟩
    · walk_at "s"
      refine ⟨by rfl, _, _, rfl, by omega, ?_⟩
      walk_at "s"
      exact ⟨o10, p10, _, ⟨Int.emod_nonneg _ (by omega), Int.emod_lt_of_pos _ (by omega)⟩, rfl⟩
    · walk_at "s"
      exact ⟨o10, p10, _, ⟨a20, a21⟩, rfl⟩
  rintro ss' st11 ⟨o11, p11, a3, ⟨a30, a31⟩, rfl⟩
  refine ws_mid (fun ss' st' => Only st st' n ∧ Pur st' n ∧ ∃ a : Int, (0 ≤ a ∧ a < 2 * (3 + v2) ∧ a + (c + g) ≠ 0) ∧ ss' = [some (.cell n), some (.pd (.int kind)), some (.pd (.int (3 + v2))), some (.pd (.int (1 + v3))), some (.pd (.int r)), some (.pd (.int g)), some (.pd (.int over)), some (.pd (.int c)), some (.pd (.int (c + g))), some (.pd (.int a))]) ?_ ?_
  · walk_at "s"
    refine ⟨by rfl, n, 4, rfl, by omega, by omega, p11, fun v12 st12 h120 h121 o12 p12 => ?_⟩
    have o12 := o11.trans o12
    walk_at "s"
    refine ⟨fun h => ?_, fun h => ?_⟩
    · refine ⟨fun _ => ?_, fun h => (by cases h)⟩
      walk_at "s"
      exact ⟨o12, p12, _, by omega, rfl⟩
    · walk_at "s"
      refine ⟨fun h => ?_, fun h => ?_⟩
      · walk_at "s"
        exact ⟨o12, p12, _, by omega, rfl⟩
      · have h := of_decide_eq_false h
        walk_at "s"
        exact ⟨o12, p12, _, ⟨a30, by omega, h⟩, rfl⟩
  rintro ss' st12 ⟨o12, p12, a, ⟨a0, aH, aw⟩, rfl⟩
  walk_at "s"
  refine fin_same o12.len (q _ _ _ _ _ _ _ ⟨by omega, by omega, by omega, by omega, by omega, by omega, by omega, by omega, by omega, by omega, by omega, by omega, by omega⟩ o12 p12)
/-! ### _law_draw_verdict -/
abbrev s__law_draw_verdict : Stmt := topS 40
abbrev N__law_draw_verdict : List Str := ["purse", "word", "most", "like", "turn", "tried", "told"]
theorem sc__law_draw_verdict : FnScope N__law_draw_verdict ["purse", "word", "most"] (defScope s__law_draw_verdict) := ⟨rfl, rfl, rfl, by decide +kernel, rfl, by decide +kernel, by decide +kernel⟩
def pre__law_draw_verdict : Pre := fun xs st Φ => ∃ n : Nat, xs = [.cell n, .pd (.str "ever"), .pd (.int 0)] ∧ Pur st n ∧ ∀ (a b c H m r : Int) (st' : Sto), LikeOk a b c H m r → Only st st' n → Pur st' n → Φ (.pd (.list [.int a, .int b, .int c, .int H, .int m, .int r])) st'
theorem ver_word (v : Ver) : ∃ (s : Str) (rest : List PyData), eVer v = .tuple (.str s :: rest) ∧ (s = "ever" ∨ s = "caught") := by
  cases v with
  | covered => exact ⟨_, _, rfl, .inl rfl⟩
  | jumped => exact ⟨_, _, rfl, .inl rfl⟩
  | page m => exact ⟨_, _, rfl, .inr rfl⟩
  | caught n w => exact ⟨_, _, rfl, .inr rfl⟩
theorem ok__law_draw_verdict (c__law_over : Cal P w K mg base 1 "_law_over" ["like"] (spP K T 1 pre__law_over)) (c__law_forever : Cal P w K mg base 2 "_law_forever" ["like"] (spP K T 1 pre__law_forever)) (c__law_draw_like : Cal P w K mg base 2 "_law_draw_like" ["purse"] (spP K T 1 pre__law_draw_like)) (Z : Zs mg) (dd : Df K mg "_law_draw_verdict" s__law_draw_verdict) : Cal P w K mg base 3 "_law_draw_verdict" ["purse", "word", "most"] (spP K T 3 pre__law_draw_verdict) := by
  refine dd.cal (fun f fd F => F.ok sc__law_draw_verdict (fun vs H Q E h => spP_len h) fun cdv A outer s H vs Q E hr h => ?_) (fun _ _ _ _ _ _ us hl => match us, hl with | [_, _, _], _ => rfl)
  have nd := sc__law_draw_verdict.nd
  have hu := room_u hr
  refine ⟨_, (pss_cons (ps_asg (pe_ifExp (pt_cmpR (op_eqK (K := K) rfl hu) (pv 1) pe_str (nomark _)) (pe_lst (pa_cons pe_int (pa_cons pe_int (pa_cons pe_int (pa_cons pe_int (pa_cons pe_int (pa_cons pe_int pa_nil))))))) (pe_lst (pa_cons pe_int (pa_cons pe_int (pa_cons pe_int (pa_cons pe_int (pa_cons pe_int (pa_cons pe_int pa_nil)))))))) (pg_name (i := 3) nd rfl (.inl rfl))) (pss_cons (ps_for PassesOwn.never rfl (pi_range1 rfl Z.range_ (pa_cons pe_int pa_nil)) (pg_name (i := 4) nd rfl (.inl rfl)) (pss_cons (ps_asg (pe_callC c__law_draw_like (hr.mono (by decide)) (by rfl) (pa_cons (pv 0) pa_nil)) (pg_name (i := 5) nd rfl (.inl rfl))) (pss_cons (ps_asg (pe_callC c__law_forever (hr.mono (by decide)) (by rfl) (pa_cons (pv 5) pa_nil)) (pg_name (i := 6) nd rfl (.inl rfl))) (pss_one (ps_if (PW.pt (pw_and (pt_cmpR (op_eqK (K := K) rfl hu) (pe_ix (ix_seqK (K := K) rfl) (pv 6) pe_int (fun _ _ => rfl)) (pv 1) (nomark _)) (pw_and (PW.pt (pw_or (pt_cmpR (op_eqK (K := K) rfl hu) (pv 1) pe_str (nomark _)) (pw_or1 (pt_cmpR op_le (pe_ix (ix_seqK (K := K) rfl) (pv 6) pe_int (fun _ _ => rfl)) (pv 2) (nomark _))))) (pw_and1 (PW.pt (pw_or (pt_cmpR op_gt (pv 4) pe_int (nomark _)) (pw_or1 (pt_cmpR op_gt (pe_callC c__law_over (hr.mono (by decide)) (by rfl) (pa_cons (pv 5) pa_nil)) pe_int (nomark _))))))))) (pss_one (ps_ret (pv 5))) pss_nil))))) (pss_one (ps_ret (pv 3))))), fn_run h ?_⟩
  intro xs st Φ hl hp
  clear hl h hu hr nd
  try dsimp only [L2.cxOf]
  obtain ⟨n, rfl, hP, q⟩ := hp
  refine ws_mid (fun ss' st' => st = st' ∧ ss' = [some (.cell n), some (.pd (.str "ever")), some (.pd (.int 0)), some (.pd (.list [.int 2, .int 4, .int 2, .int 7, .int 1, .int 1])), none, none, none]) ?_ ?_
  · walk_at "s"
    refine ⟨fun h => ?_, fun h => ?_⟩
    · walk_at "s"
      exact ⟨rfl, rfl⟩
    · exact absurd h (by decide)
  rintro ss' st' ⟨rfl, rfl⟩
  refine ws_seq (ws_forR1 (wa_cons (we_c rfl (wa_nil ⟨_, rfl, by omega, by omega, fun i ss' st' => Only st st' n ∧ Pur st' n ∧ ∃ y4 y5 y6 : Option Val, ss' = [some (.cell n), some (.pd (.str "ever")), some (.pd (.int 0)), some (.pd (.list [.int 2, .int 4, .int 2, .int 7, .int 1, .int 1])), y4, y5, y6], ⟨Only.refl, hP, _, _, _, rfl⟩, ?_, ?_⟩))))
  · rintro i ss' st' hi ⟨o1, p1, y4, y5, y6, rfl⟩
    walk_at "s"
    refine ⟨by rfl, n, rfl, p1, fun a b c H m r st2 L o2 p2 => ?_⟩
    have o2 := o1.trans o2
    walk_at "s"
    refine ⟨by rfl, a, b, c, H, m, r, rfl, L.good, ?_⟩
    walk_at "s"
    obtain ⟨w, rest, hv, hw⟩ := ver_word (forEver a b c H m r)
    rw [hv]
    refine wr_ixuT (atI_nat (j := 0) rfl) ?_
    rcases hw with rfl | rfl
    · walk_at "s"
      refine ⟨fun _ => ?_, fun h => absurd h (by decide)⟩
      walk_at "s"
      refine ⟨fun _ => ?_, fun h => absurd h (by decide)⟩
      refine ⟨fun _ => ?_, fun h => absurd h (by decide)⟩
      walk_at "s"
      refine ⟨fun _ => ?_, fun h => ?_⟩
      · refine ⟨fun _ => ?_, fun h => absurd h (by decide)⟩
        walk_at "s"
        exact fin_same o2.len (q _ _ _ _ _ _ _ L o2 p2)
      · walk_at "s"
        refine ⟨by rfl, a, b, c, H, m, r, rfl, L.good, ?_⟩
        walk_at "s"
        refine ⟨fun h => ?_, fun h => ?_⟩
        · walk_at "s"
          exact fin_same o2.len (q _ _ _ _ _ _ _ L o2 p2)
        · walk_at "s"
          exact ⟨o2, p2, _, _, _, rfl⟩
    · walk_at "s"
      refine ⟨fun h => absurd h (by decide), fun _ => ⟨fun h => absurd h (by decide), fun _ => ?_⟩⟩
      walk_at "s"
      exact ⟨o2, p2, _, _, _, rfl⟩
  · rintro ss' st' ⟨o1, p1, y4, y5, y6, rfl⟩
    walk_at "s"
    exact fin_same o1.len (q _ _ _ _ _ _ _ ⟨by omega, by omega, by omega, by omega, by omega, by omega, by omega, by omega, by omega, by omega, by omega, by omega, by omega⟩ o1 p1)
/-! ### _law_ever_told -/
abbrev s__law_ever_told : Stmt := topS 41
abbrev N__law_ever_told : List Str := ["like"]
theorem sc__law_ever_told : FnScope N__law_ever_told ["like"] (defScope s__law_ever_told) := ⟨rfl, rfl, rfl, by decide +kernel, rfl, by decide +kernel, by decide +kernel⟩
def pre__law_ever_told : Pre := fun xs st Φ => ∃ a b c H m r : Int, xs = [.pd (.list [.int a, .int b, .int c, .int H, .int m, .int r])] ∧ Good a b c H m r ∧ Φ (.pd (eVer (forEver a b c H m r))) st
theorem ok__law_ever_told (c_for_ever : Cal P w K mg base 7 "for_ever" ["a", "b", "c", "H", "m", "r"] (spP K T 6 pre_for_ever)) (dd : Df K mg "_law_ever_told" s__law_ever_told) : Cal P w K mg base 8 "_law_ever_told" ["like"] (spP K T 1 pre__law_ever_told) := by
  refine dd.cal (fun f fd F => F.ok sc__law_ever_told (fun vs H Q E h => spP_len h) fun cdv A outer s H vs Q E hr h => ?_) (fun _ _ _ _ _ _ us hl => match us, hl with | [_], _ => rfl)
  have nd := sc__law_ever_told.nd
  have hu := room_u hr
  refine ⟨_, (pss_one (ps_ret (pe_callC c_for_ever (hr.mono (by decide)) (by rfl) (pa_cons (pe_ix (ix_seqK (K := K) rfl) (pv 0) pe_int (fun _ _ => rfl)) (pa_cons (pe_ix (ix_seqK (K := K) rfl) (pv 0) pe_int (fun _ _ => rfl)) (pa_cons (pe_ix (ix_seqK (K := K) rfl) (pv 0) pe_int (fun _ _ => rfl)) (pa_cons (pe_ix (ix_seqK (K := K) rfl) (pv 0) pe_int (fun _ _ => rfl)) (pa_cons (pe_ix (ix_seqK (K := K) rfl) (pv 0) pe_int (fun _ _ => rfl)) (pa_cons (pe_ix (ix_seqK (K := K) rfl) (pv 0) pe_int (fun _ _ => rfl)) pa_nil))))))))), fn_run h ?_⟩
  intro xs st Φ hl hp
  clear hl h hu hr nd
  try dsimp only [L2.cxOf]
  obtain ⟨a, b, c, H, m, r, rfl, G, q⟩ := hp
  walk_at "s"
  refine ⟨by rfl, a, b, c, H, m, r, rfl, G, ?_⟩
  walk_at "s"
  exact fin_pd (by simp) q
/-! ### _law_near_lengths -/
abbrev s__law_near_lengths : Stmt := topS 42
abbrev N__law_near_lengths : List Str := ["like", "k", "a", "b", "c", "H", "m", "r", "over", "w", "found", "short", "rest", "least"]
theorem sc__law_near_lengths : FnScope N__law_near_lengths ["like", "k"] (defScope s__law_near_lengths) := ⟨rfl, rfl, rfl, by decide +kernel, rfl, by decide +kernel, by decide +kernel⟩
def pre__law_near_lengths : Pre := fun xs st Φ => ∃ a b c H m r k : Int, xs = [.pd (.list [.int a, .int b, .int c, .int H, .int m, .int r]), .pd (.int k)] ∧ LikeOk a b c H m r ∧ 1 ≤ k ∧ k ≤ 3 ∧ ∀ ls : List Int, ls.length ≤ 5 → (∀ l ∈ ls, 0 ≤ l ∧ l ≤ H ∧ 0 < l + (b - a)) → Φ (.pd (.list (ls.map PyData.int))) st
theorem snoc_int (ls : List Int) (x : Int) : ls.map PyData.int ++ [.int x] = (ls ++ [x]).map PyData.int := by rw [List.map_append]; rfl
theorem ok__law_near_lengths (c__law_rest : Cal P w K mg base 1 "_law_rest" ["many", "part"] (spP K T 2 pre__law_rest)) (c__law_over : Cal P w K mg base 1 "_law_over" ["like"] (spP K T 1 pre__law_over)) (Z : Zs mg) (dd : Df K mg "_law_near_lengths" s__law_near_lengths) : Cal P w K mg base 2 "_law_near_lengths" ["like", "k"] (spP K T 2 pre__law_near_lengths) := by
  refine dd.cal (fun f fd F => F.ok sc__law_near_lengths (fun vs H Q E h => spP_len h) fun cdv A outer s H vs Q E hr h => ?_) (fun _ _ _ _ _ _ us hl => match us, hl with | [_, _], _ => rfl)
  have nd := sc__law_near_lengths.nd
  have hu := room_u hr
  refine ⟨_, (pss_cons (ps_asg (pv 0) (pg_or (pg_tup (n := 6) rfl (pgs_cons (pg_name (i := 2) nd rfl (.inl rfl)) (pgs_cons (pg_name (i := 3) nd rfl (.inl rfl)) (pgs_cons (pg_name (i := 4) nd rfl (.inl rfl)) (pgs_cons (pg_name (i := 5) nd rfl (.inl rfl)) (pgs_cons (pg_name (i := 6) nd rfl (.inl rfl)) (pgs_cons (pg_name (i := 7) nd rfl (.inl rfl)) pgs_nil))))))) (pg_unl (n := 6) rfl (pgs_cons (pg_name (i := 2) nd rfl (.inl rfl)) (pgs_cons (pg_name (i := 3) nd rfl (.inl rfl)) (pgs_cons (pg_name (i := 4) nd rfl (.inl rfl)) (pgs_cons (pg_name (i := 5) nd rfl (.inl rfl)) (pgs_cons (pg_name (i := 6) nd rfl (.inl rfl)) (pgs_cons (pg_name (i := 7) nd rfl (.inl rfl)) pgs_nil))))))))) (pss_cons (ps_asg (pe_callC c__law_over (hr.mono (by decide)) (by rfl) (pa_cons (pv 0) pa_nil)) (pg_name (i := 8) nd rfl (.inl rfl))) (pss_cons (ps_asg (pe_op op_sub (pv 3) (pv 2)) (pg_name (i := 9) nd rfl (.inl rfl))) (pss_cons (ps_asg (pe_lst pa_nil) (pg_name (i := 10) nd rfl (.inl rfl))) (pss_cons (ps_for PassesOwn.never rfl (pi_list (pe_lst (pa_cons (pe_tup (pa_cons pe_bl (pa_cons (pe_op op_sub (pe_op op_sub (pv 5) pe_int) (pv 8)) pa_nil))) (pa_cons (pe_tup (pa_cons pe_bl (pa_cons (pe_op op_sub (pv 5) (pv 8)) pa_nil))) (pa_cons (pe_tup (pa_cons pe_bl (pa_cons (pv 8) pa_nil))) (pa_cons (pe_tup (pa_cons pe_bl (pa_cons (pe_op (op_addK (K := K) rfl) (pv 8) pe_int) pa_nil))) (pa_cons (pe_tup (pa_cons pe_bl (pa_cons pe_int pa_nil))) pa_nil))))))) (pg_tup (n := 2) rfl (pgs_cons (pg_name (i := 11) nd rfl (.inl rfl)) (pgs_cons (pg_name (i := 12) nd rfl (.inl rfl)) pgs_nil))) (pss_one (ps_for PassesOwn.never rfl (pi_range1 rfl Z.range_ (pa_cons (pe_op (op_addK (K := K) rfl) (pv 5) pe_int) pa_nil)) (pg_name (i := 13) nd rfl (.inl rfl)) (pss_one (ps_if (PW.pt (pw_and (pt_cmpR op_gt (pe_op (op_addK (K := K) rfl) (pv 13) (pv 9)) pe_int (nomark _)) (pw_and1 (pt_cmpR (op_eqK (K := K) rfl hu) (pe_callC c__law_rest (hr.mono (by decide)) (by rfl) (pa_cons (pe_op op_mul (pv 1) (pe_op (op_addK (K := K) rfl) (pv 13) (pe_ifExp (pt_val (pv 11)) (pv 4) (pv 9)))) (pa_cons (pv 5) pa_nil))) (pv 12) (nomark _))))) (pss_cons (ps_expr (pe_bm PySem.F.plainAttrs_list PySem.F.slot_list_append PySem.F.type_list_append mt_append (pv 10) (pa_cons (pv 13) pa_nil))) (pss_one ps_break)) pss_nil))))) (pss_one (ps_ret (pv 10)))))))), fn_run h ?_⟩
  intro xs st Φ hl hp
  clear hl h hu hr nd
  try dsimp only [L2.cxOf]
  obtain ⟨a, b, c, H, m, r, k, rfl, L, k1, k3, q⟩ := hp
  have G := L.good
  obtain ⟨h1, h2, h3, h4, h5, h6, h7, h8, h9, h10, h11, h12, h13⟩ := L
  walk_at "s"
  refine ⟨by rfl, a, b, c, H, m, r, rfl, G, ?_⟩
  refine wg_name ?_
  refine ws_sA (we_op (we_var rfl (we_var rfl (wr_sub (wg_name ?_)))))
  generalize overOf a b c H m r = over
  refine ws_seq (ws_asg (we_lstC ?_))
  walk_at "s"
  refine ws_seq (ws_forL ?_)
  walk_at "s"
  refine ⟨fun i ss' st' => ∃ (ls : List Int) (y11 y12 y13 : Option Val), ss' = [some (.pd (.list [.int a, .int b, .int c, .int H, .int m, .int r])), some (.pd (.int k)), some (.pd (.int a)), some (.pd (.int b)), some (.pd (.int c)), some (.pd (.int H)), some (.pd (.int m)), some (.pd (.int r)), some (.pd (.int over)), some (.pd (.int (b - a))), some (.cell st.length), y11, y12, y13] ∧
    st' = st ++ [.mu (ls.map PyData.int)] ∧ ls.length ≤ i ∧ ∀ l ∈ ls, 0 ≤ l ∧ l ≤ H ∧ 0 < l + (b - a), ⟨[], none, none, none, rfl, rfl, Nat.le_refl _, fun l hl => (by cases hl)⟩, ?_, ?_⟩
  · rintro i d ss' st' hd ⟨ls, y11, y12, y13, rfl, rfl, hll, hP⟩
    have hi := (List.getElem?_eq_some_iff.mp hd).1
    obtain ⟨sh, rest, rfl⟩ : ∃ (sh : Bool) (rest : Int), d = .tuple [.bool sh, .int rest] := by
      have hm := List.mem_of_getElem? hd
      simp only [List.mem_cons, List.not_mem_nil, or_false] at hm
      rcases hm with rfl | rfl | rfl | rfl | rfl <;> exact ⟨_, _, rfl⟩
    have hi5 : i < 5 := hi
    walk_at "s"
    refine ws_forR1 (wa_cons (we_op (we_var rfl (we_c rfl (wr_addI (wa_nil ⟨_, rfl, by omega, by omega, fun j ss' st' => st' = st ++ [.mu (ls.map PyData.int)] ∧ ∃ y13 : Option Val, ss' = [some (.pd (.list [.int a, .int b, .int c, .int H, .int m, .int r])), some (.pd (.int k)), some (.pd (.int a)), some (.pd (.int b)), some (.pd (.int c)), some (.pd (.int H)), some (.pd (.int m)), some (.pd (.int r)), some (.pd (.int over)), some (.pd (.int (b - a))), some (.cell st.length), some (.pd (.bool sh)), some (.pd (.int rest)), y13], ⟨rfl, _, rfl⟩, ?_, ?_⟩))))))
    · rintro j ss' st' hj ⟨rfl, y13, rfl⟩
      walk_at "s"
      refine ⟨fun hb => ?_, fun hb => ?_⟩
      · have hb := of_decide_eq_true hb
        walk_at "s"
        refine ⟨fun _ => ?_, fun _ => ?_⟩ <;> (
          walk_at "s"
          refine ⟨by rfl, _, _, rfl, by omega, ?_⟩
          walk_at "s"
          refine ⟨fun _ => ?_, fun _ => ?_⟩
          · walk_at "s"
            refine ⟨ls ++ [0 + (j : Int)], _, _, _, rfl, ?_, by rw [List.length_append, List.length_singleton]; omega, ?_⟩
            · rw [← snoc_int]
            · intro l hl
              rcases List.mem_append.mp hl with hl | hl
              · exact hP l hl
              · rw [List.mem_singleton.mp hl]
                omega
          · walk_at "s"
            exact ⟨rfl, _, rfl⟩)
      · refine ⟨fun h => (by cases h), fun _ => ?_⟩
        walk_at "s"
        exact ⟨rfl, _, rfl⟩
    · rintro ss' st' ⟨rfl, y13, rfl⟩
      exact ⟨ls, _, _, _, rfl, rfl, by omega, hP⟩
  · rintro ss' st' ⟨ls, y11, y12, y13, rfl, rfl, hll, hP⟩
    walk_at "s"
    exact fin_end (q ls hll hP)
/-! ### _law_moved_holds -/
abbrev s__law_moved_holds : Stmt := topS 43
abbrev N__law_moved_holds : List Str := ["purse", "like", "a", "b", "c", "H", "m", "r", "due", "told", "pages", "by"]
theorem sc__law_moved_holds : FnScope N__law_moved_holds ["purse", "like"] (defScope s__law_moved_holds) := ⟨rfl, rfl, rfl, by decide +kernel, rfl, by decide +kernel, by decide +kernel⟩
def pre__law_moved_holds : Pre := fun xs st Φ => ∃ (n : Nat) (a b c H m r : Int), xs = [.cell n, .pd (.list [.int a, .int b, .int c, .int H, .int m, .int r])] ∧ Pur st n ∧ LikeOk a b c H m r ∧ ∀ st' : Sto, Only st st' n → Pur st' n → Φ (.pd (.bool true)) st'
theorem sh_ver (v : Ver) : SeqAt.shaped (eVer v) = true := by
  cases v with
  | covered => decide +kernel
  | jumped => decide +kernel
  | page m =>
    refine Sh.shaped (k := 2) (sh_tuple fun e he => ?_)
    simp only [List.mem_cons, List.not_mem_nil, or_false] at he
    rcases he with rfl | rfl | rfl
    · exact sh_str _ (by decide +kernel)
    · exact sh_int _
    · exact sh_tuple fun e he => by rw [List.mem_singleton.mp he]; exact sh_str _ (by decide +kernel)
  | caught n w =>
    refine Sh.shaped (k := 2) (sh_tuple fun e he => ?_)
    simp only [List.mem_cons, List.not_mem_nil, or_false] at he
    rcases he with rfl | rfl | rfl
    · exact sh_str _ (by decide +kernel)
    · exact sh_int _
    · exact sh_way _
theorem eqv_way (w : Way) : PyData.eqv (eWay w) (eWay w) = true := by
  cases w <;> simp [eWay, eqv_tuple, eqvAll_cons, eqvAll_nil, eqv_str, eqv_int]
theorem eqv_ver (v : Ver) : PyData.eqv (eVer v) (eVer v) = true := by
  cases v <;> simp [eVer, eqv_tuple, eqvAll_cons, eqvAll_nil, eqv_str, eqv_int, eqv_way]
theorem sh_gap (g : Option Hole) : SeqAt.shaped (eGap g) = true := by
  cases g with
  | none => exact shaped_none
  | some h =>
    refine Sh.shaped (k := 1) (sh_tuple fun e he => ?_)
    simp only [List.mem_cons, List.not_mem_nil, or_false] at he
    rcases he with rfl | rfl <;> exact sh_int _
theorem eqv_gap (g : Option Hole) : PyData.eqv (eGap g) (eGap g) = true := by
  cases g with
  | none => simp [eGap, PyData.eqv]
  | some h => simp [eGap, eqv_tuple, eqvAll_cons, eqvAll_nil, eqv_int]
theorem eqv_ranks (r : List (List Arc)) : PyData.eqv (.list (r.map eArcs)) (.list (r.map eArcs)) = true := by
  rw [eqv_list, eqvAll_map (f := eArcs) (fun x y => eqv_arcs x y)]
  exact decide_eq_true rfl
theorem sh_ranks (r : List (List Arc)) : SeqAt.shaped (.list (r.map eArcs)) = true := Sh.shaped (k := 3) (sh_list fun d hd => by
  obtain ⟨x, _, rfl⟩ := List.mem_map.mp hd
  refine sh_list fun d hd => ?_
  obtain ⟨y, _, rfl⟩ := List.mem_map.mp hd
  refine sh_tuple fun e he => ?_
  simp only [List.mem_cons, List.not_mem_nil, or_false] at he
  rcases he with rfl | rfl
  · exact sh_int _
  · cases y.2 with
    | none => exact sh_none
    | some z => exact sh_int _)
theorem kit_ver {K : PySem.W.Frag} (v : Ver) : PySem.W.kitOne K (.type (pyTy (eVer v))) (.type "tuple") = some true := by cases v <;> rfl
theorem ver_c (v : Ver) : (isC v = true ∧ ∃ rest, eVer v = .tuple (.str "caught" :: rest)) ∨ (isC v = false ∧ ∃ rest, eVer v = .tuple (.str "ever" :: rest)) := by
  cases v with
  | covered => exact .inr ⟨rfl, _, rfl⟩
  | jumped => exact .inr ⟨rfl, _, rfl⟩
  | page m => exact .inl ⟨rfl, _, rfl⟩
  | caught n w => exact .inl ⟨rfl, _, rfl⟩
theorem ok__law_moved_holds (c__law_ever_told : Cal P w K mg base 8 "_law_ever_told" ["like"] (spP K T 1 pre__law_ever_told)) (c__law_draw : Cal P w K mg base 1 "_law_draw" ["purse", "many"] (spP K T 2 pre__law_draw)) (c_line_ranks : Cal P w K mg base 6 "line_ranks" ["a", "b", "c", "H", "m", "r"] (spP K T 6 pre_line_ranks)) (c_gap_at : Cal P w K mg base 5 "gap_at" ["a", "b", "c", "H", "m", "r"] (spP K T 6 pre_gap_at)) (c__law_forever : Cal P w K mg base 2 "_law_forever" ["like"] (spP K T 1 pre__law_forever)) (Z : Zs mg) (dd : Df K mg "_law_moved_holds" s__law_moved_holds) : Cal P w K mg base 9 "_law_moved_holds" ["purse", "like"] (spP K T 2 pre__law_moved_holds) := by
  refine dd.cal (fun f fd F => F.ok sc__law_moved_holds (fun vs H Q E h => spP_len h) fun cdv A outer s H vs Q E hr h => ?_) (fun _ _ _ _ _ _ us hl => match us, hl with | [_, _], _ => rfl)
  have nd := sc__law_moved_holds.nd
  have hu := room_u hr
  refine ⟨_, (pss_cons (ps_asg (pv 1) (pg_or (pg_tup (n := 6) rfl (pgs_cons (pg_name (i := 2) nd rfl (.inl rfl)) (pgs_cons (pg_name (i := 3) nd rfl (.inl rfl)) (pgs_cons (pg_name (i := 4) nd rfl (.inl rfl)) (pgs_cons (pg_name (i := 5) nd rfl (.inl rfl)) (pgs_cons (pg_name (i := 6) nd rfl (.inl rfl)) (pgs_cons (pg_name (i := 7) nd rfl (.inl rfl)) pgs_nil))))))) (pg_unl (n := 6) rfl (pgs_cons (pg_name (i := 2) nd rfl (.inl rfl)) (pgs_cons (pg_name (i := 3) nd rfl (.inl rfl)) (pgs_cons (pg_name (i := 4) nd rfl (.inl rfl)) (pgs_cons (pg_name (i := 5) nd rfl (.inl rfl)) (pgs_cons (pg_name (i := 6) nd rfl (.inl rfl)) (pgs_cons (pg_name (i := 7) nd rfl (.inl rfl)) pgs_nil))))))))) (pss_cons (ps_asg (pe_callC c__law_forever (hr.mono (by decide)) (by rfl) (pa_cons (pv 1) pa_nil)) (pg_name (i := 8) nd rfl (.inl rfl))) (pss_cons (ps_asg (pe_callC c__law_ever_told (hr.mono (by decide)) (by rfl) (pa_cons (pv 1) pa_nil)) (pg_name (i := 9) nd rfl (.inl rfl))) (pss_cons (ps_if (PW.pt (pw_or (pt_not (pt_val (pe_callB (call_isiK (K := K) rfl) (by rfl) Z.isinstance boot_isinstance (pa_cons (pv 9) (pa_cons (pe_tyN (by rfl) Z.tuple_ boot_tuple) pa_nil))))) (pw_or1 (pt_cmpR (op_neK (K := K) rfl hu) (pv 9) (pv 8) (nomark _))))) (pss_one (ps_ret pe_bl)) pss_nil) (pss_cons (ps_asg (pe_op op_mul (pe_op (op_addK (K := K) rfl) pe_int (pe_callC c__law_draw (hr.mono (by decide)) (by rfl) (pa_cons (pv 0) (pa_cons pe_int pa_nil)))) (pv 5)) (pg_name (i := 10) nd rfl (.inl rfl))) (pss_cons (ps_if (pt_cmpR (op_neK (K := K) rfl hu) (pe_callC c__law_ever_told (hr.mono (by decide)) (by rfl) (pa_cons (pe_lst (pa_cons (pe_op (op_addK (K := K) rfl) (pv 2) (pv 10)) (pa_cons (pe_op (op_addK (K := K) rfl) (pv 3) (pv 10)) (pa_cons (pv 4) (pa_cons (pv 5) (pa_cons (pv 6) (pa_cons (pv 7) pa_nil))))))) pa_nil)) (pv 8) (nomark _)) (pss_one (ps_ret pe_bl)) pss_nil) (pss_cons (ps_if (pt_cmpR (op_neK (K := K) rfl hu) (pe_callC c_gap_at (hr.mono (by decide)) (by rfl) (pa_cons (pe_op (op_addK (K := K) rfl) (pv 2) (pv 10)) (pa_cons (pe_op (op_addK (K := K) rfl) (pv 3) (pv 10)) (pa_cons (pv 4) (pa_cons (pv 5) (pa_cons (pv 6) (pa_cons (pv 7) pa_nil))))))) (pe_callC c_gap_at (hr.mono (by decide)) (by rfl) (pa_cons (pv 2) (pa_cons (pv 3) (pa_cons (pv 4) (pa_cons (pv 5) (pa_cons (pv 6) (pa_cons (pv 7) pa_nil))))))) (nomark _)) (pss_one (ps_ret pe_bl)) pss_nil) (pss_cons (ps_if (pt_cmpR (op_neK (K := K) rfl hu) (pe_callC c_line_ranks (hr.mono (by decide)) (by rfl) (pa_cons (pe_op (op_addK (K := K) rfl) (pv 2) (pv 10)) (pa_cons (pe_op (op_addK (K := K) rfl) (pv 3) (pv 10)) (pa_cons (pv 4) (pa_cons (pv 5) (pa_cons (pv 6) (pa_cons (pv 7) pa_nil))))))) (pe_callC c_line_ranks (hr.mono (by decide)) (by rfl) (pa_cons (pv 2) (pa_cons (pv 3) (pa_cons (pv 4) (pa_cons (pv 5) (pa_cons (pv 6) (pa_cons (pv 7) pa_nil))))))) (nomark _)) (pss_one (ps_ret pe_bl)) pss_nil) (pss_cons (ps_asg (pe_op (op_addK (K := K) rfl) pe_int (pe_callC c__law_draw (hr.mono (by decide)) (by rfl) (pa_cons (pv 0) (pa_cons pe_int pa_nil)))) (pg_name (i := 11) nd rfl (.inl rfl))) (pss_cons (ps_if (pt_cmpR (op_neK (K := K) rfl hu) (pe_callC c__law_ever_told (hr.mono (by decide)) (by rfl) (pa_cons (pe_lst (pa_cons (pe_op op_mul (pv 11) (pv 2)) (pa_cons (pe_op op_mul (pv 11) (pv 3)) (pa_cons (pe_op op_mul (pv 11) (pv 4)) (pa_cons (pe_op op_mul (pv 11) (pv 5)) (pa_cons (pv 6) (pa_cons (pv 7) pa_nil))))))) pa_nil)) (pv 8) (nomark _)) (pss_one (ps_ret pe_bl)) pss_nil) (pss_cons (ps_if (PW.pt (pw_and (pt_cmpR (op_eqK (K := K) rfl hu) (pe_ix (ix_seqK (K := K) rfl) (pv 8) pe_int (fun _ _ => rfl)) pe_str (nomark _)) (pw_and1 (pt_cmpR (op_neK (K := K) rfl hu) (pe_ix (ix_seqK (K := K) rfl) (pe_callC c__law_ever_told (hr.mono (by decide)) (by rfl) (pa_cons (pe_lst (pa_cons (pv 2) (pa_cons (pv 3) (pa_cons (pv 4) (pa_cons (pv 5) (pa_cons (pe_op (op_addK (K := K) rfl) (pv 6) pe_int) (pa_cons (pv 7) pa_nil))))))) pa_nil)) pe_int (fun _ _ => rfl)) pe_str (nomark _))))) (pss_one (ps_ret pe_bl)) pss_nil) (pss_one (ps_ret (pe_or (pe_cmpR (op_eqK (K := K) rfl hu) (pv 7) pe_int (nomark _)) (pe_or (pe_cmpR (op_eqK (K := K) rfl hu) (pe_ix (ix_seqK (K := K) rfl) (pv 8) pe_int (fun _ _ => rfl)) pe_str (nomark _)) (pe_one (pe_cmpR (op_eqK (K := K) rfl hu) (pe_ix (ix_seqK (K := K) rfl) (pe_callC c__law_ever_told (hr.mono (by decide)) (by rfl) (pa_cons (pe_lst (pa_cons (pv 2) (pa_cons (pv 3) (pa_cons (pv 4) (pa_cons (pv 5) (pa_cons (pv 6) (pa_cons (pe_op op_sub (pv 7) pe_int) pa_nil))))))) pa_nil)) pe_int (fun _ _ => rfl)) pe_str (nomark _)))))))))))))))))), fn_run h ?_⟩
  intro xs st Φ hl hp
  clear hl h hu hr nd
  try dsimp only [L2.cxOf]
  obtain ⟨n, a, b, c, H, m, r, rfl, hP, L, q⟩ := hp
  have G := L.good
  walk_at "s"
  refine ⟨by rfl, a, b, c, H, m, r, rfl, G, ?_⟩
  walk_at "s"
  refine ⟨by rfl, a, b, c, H, m, r, rfl, G, ?_⟩
  refine wg_name ?_
  refine ws_mid (fun ss' st' => st = st' ∧ ss' = [some (.cell n), some (.pd (.list [.int a, .int b, .int c, .int H, .int m, .int r])), some (.pd (.int a)), some (.pd (.int b)), some (.pd (.int c)), some (.pd (.int H)), some (.pd (.int m)), some (.pd (.int r)), some (.pd (eVer (forEver a b c H m r))), some (.pd (eVer (forEver a b c H m r))), none, none]) ?_ ?_
  · walk_at "s"
    refine wc_isi rfl (kit_ver _) ?_
    walk_at "s"
    refine ⟨fun h => (by cases h), fun _ => ?_⟩
    walk_at "s"
    refine wr_neD rfl rfl (sh_ver _) (sh_ver _) ?_
    rw [eqv_ver]
    walk_at "s"
    refine ⟨fun h => (by cases h), fun _ => ?_⟩
    walk_at "s"
    exact ⟨rfl, rfl⟩
  rintro ss' st' ⟨rfl, rfl⟩
  walk_at "s"
  refine ⟨by rfl, n, 9, rfl, by omega, by omega, hP, fun v1 st1 v10 v11 o1 p1 => ?_⟩
  have L' := L
  obtain ⟨h1, h2, h3, h4, h5, h6, h7, h8, h9, h10, h11, h12, h13⟩ := L'
  have hq1 : 0 ≤ (1 + v1) * H := Int.mul_nonneg (by omega) (by omega)
  have hq2 : (1 + v1) * H ≤ 9 * 12 := Int.mul_le_mul (by omega) h2 (by omega) (by omega)
  have GP : Good (a + (1 + v1) * H) (b + (1 + v1) * H) c H m r := by
    unfold Good
    omega
  refine wr_addI ?_
  refine we_var rfl ?_
  refine wr_mul (by unfold CMul; omega) ?_
  refine wg_name ?_
  refine ws_mid (fun ss' st' => st1 = st' ∧ ss' = [some (.cell n), some (.pd (.list [.int a, .int b, .int c, .int H, .int m, .int r])), some (.pd (.int a)), some (.pd (.int b)), some (.pd (.int c)), some (.pd (.int H)), some (.pd (.int m)), some (.pd (.int r)), some (.pd (eVer (forEver a b c H m r))), some (.pd (eVer (forEver a b c H m r))), some (.pd (.int ((1 + v1) * H))), none]) ?_ ?_
  · walk_at "s"
    refine ⟨by rfl, _, _, _, _, _, _, rfl, GP, ?_⟩
    walk_at "s"
    rw [fe_pages]
    refine wr_neD rfl rfl (sh_ver _) (sh_ver _) ?_
    rw [eqv_ver]
    walk_at "s"
    refine ⟨fun h => (by cases h), fun _ => ?_⟩
    walk_at "s"
    exact ⟨rfl, rfl⟩
  rintro ss' st' ⟨rfl, rfl⟩
  refine ws_mid (fun ss' st' => st1 = st' ∧ ss' = [some (.cell n), some (.pd (.list [.int a, .int b, .int c, .int H, .int m, .int r])), some (.pd (.int a)), some (.pd (.int b)), some (.pd (.int c)), some (.pd (.int H)), some (.pd (.int m)), some (.pd (.int r)), some (.pd (eVer (forEver a b c H m r))), some (.pd (eVer (forEver a b c H m r))), some (.pd (.int ((1 + v1) * H))), none]) ?_ ?_
  · walk_at "s"
    refine ⟨by rfl, _, _, _, _, _, _, rfl, GP, ?_⟩
    walk_at "s"
    refine ⟨by rfl, _, _, _, _, _, _, rfl, G, ?_⟩
    rw [gap_pages]
    refine wr_neD rfl rfl (sh_gap _) (sh_gap _) ?_
    rw [eqv_gap]
    walk_at "s"
    refine ⟨fun h => (by cases h), fun _ => ?_⟩
    walk_at "s"
    exact ⟨rfl, rfl⟩
  rintro ss' st' ⟨rfl, rfl⟩
  obtain ⟨res, hres⟩ := ranks_some L
  refine ws_mid (fun ss' st' => st1 = st' ∧ ss' = [some (.cell n), some (.pd (.list [.int a, .int b, .int c, .int H, .int m, .int r])), some (.pd (.int a)), some (.pd (.int b)), some (.pd (.int c)), some (.pd (.int H)), some (.pd (.int m)), some (.pd (.int r)), some (.pd (eVer (forEver a b c H m r))), some (.pd (eVer (forEver a b c H m r))), some (.pd (.int ((1 + v1) * H))), none]) ?_ ?_
  · walk_at "s"
    refine ⟨by rfl, _, _, _, _, _, _, res, rfl, GP, by rw [ranks_pages]; exact hres, ?_⟩
    walk_at "s"
    refine ⟨by rfl, _, _, _, _, _, _, res, rfl, G, hres, ?_⟩
    refine wr_neD rfl rfl (sh_ranks _) (sh_ranks _) ?_
    rw [eqv_ranks]
    walk_at "s"
    refine ⟨fun h => (by cases h), fun _ => ?_⟩
    walk_at "s"
    exact ⟨rfl, rfl⟩
  rintro ss' st' ⟨rfl, rfl⟩
  walk_at "s"
  refine ⟨by rfl, n, 99, rfl, by omega, by omega, p1, fun v2 st2 v20 v21 o2 p2 => ?_⟩
  have o2 := o1.trans o2
  have ek : ∀ x lo hi : Int, 0 ≤ lo → lo ≤ x → x ≤ hi → 0 ≤ (2 + v2) * x ∧ (2 + v2) * lo ≤ (2 + v2) * x ∧ (2 + v2) * x ≤ 100 * hi := fun x lo hi e1 e2 e3 => ⟨Int.mul_nonneg (by omega) (by omega), Int.mul_le_mul_of_nonneg_left e2 (by omega), Int.mul_le_mul (by omega) e3 (by omega) (by omega)⟩
  have ea := ek a 0 23 (by omega) (by omega) (by omega)
  have eb := ek b 1 33 (by omega) (by omega) (by omega)
  have eab := ek b (a + c) 33 (by omega) (by omega) (by omega)
  have ec := ek c 0 8 (by omega) (by omega) (by omega)
  have eH := ek H 1 12 (by omega) (by omega) (by omega)
  have GB : Good ((2 + v2) * a) ((2 + v2) * b) ((2 + v2) * c) ((2 + v2) * H) m r := by
    rw [Int.mul_add] at eab
    unfold Good
    omega
  refine wr_addI ?_
  refine wg_name ?_
  refine ws_mid (fun ss' st' => st2 = st' ∧ ss' = [some (.cell n), some (.pd (.list [.int a, .int b, .int c, .int H, .int m, .int r])), some (.pd (.int a)), some (.pd (.int b)), some (.pd (.int c)), some (.pd (.int H)), some (.pd (.int m)), some (.pd (.int r)), some (.pd (eVer (forEver a b c H m r))), some (.pd (eVer (forEver a b c H m r))), some (.pd (.int ((1 + v1) * H))), some (.pd (.int (2 + v2)))]) ?_ ?_
  · walk_at "s"
    refine ⟨by rfl, _, _, _, _, _, _, rfl, GB, ?_⟩
    walk_at "s"
    rw [fe_by (by omega) (by omega) (by omega) (show 0 < 2 + v2 by omega)]
    refine wr_neD rfl rfl (sh_ver _) (sh_ver _) ?_
    rw [eqv_ver]
    walk_at "s"
    refine ⟨fun h => (by cases h), fun _ => ?_⟩
    walk_at "s"
    exact ⟨rfl, rfl⟩
  rintro ss' st' ⟨rfl, rfl⟩
  have G3 : Good a b c H (m + 1) r := by
    unfold Good
    omega
  have hmore := fun h => fe_more (a := a) (b := b) (c := c) (H := H) (m := m) (r := r) (by omega) (by omega) (by omega) h
  have hless := fun h => fe_less (a := a) (b := b) (c := c) (H := H) (m := m) (r := r) (by omega) h
  have hvc := ver_c (forEver a b c H m r)
  refine ws_mid (fun ss' st' => st2 = st' ∧ ss' = [some (.cell n), some (.pd (.list [.int a, .int b, .int c, .int H, .int m, .int r])), some (.pd (.int a)), some (.pd (.int b)), some (.pd (.int c)), some (.pd (.int H)), some (.pd (.int m)), some (.pd (.int r)), some (.pd (eVer (forEver a b c H m r))), some (.pd (eVer (forEver a b c H m r))), some (.pd (.int ((1 + v1) * H))), some (.pd (.int (2 + v2)))]) ?_ ?_
  · rcases hvc with ⟨hc, rest, hv⟩ | ⟨hc, rest, hv⟩
    · rw [hv]
      walk_at "s"
      refine wr_ixuT (atI_nat (j := 0) rfl) ?_
      walk_at "s"
      refine ⟨fun _ => ?_, fun h => absurd h (by decide)⟩
      walk_at "s"
      refine ⟨by rfl, _, _, _, _, _, _, rfl, G3, ?_⟩
      rcases ver_c (forEver a b c H (m + 1) r) with ⟨hc2, rest2, hv2⟩ | ⟨hc2, rest2, hv2⟩
      · rw [hv2]
        walk_at "s"
        refine wr_ixuT (atI_nat (j := 0) rfl) ?_
        walk_at "s"
        refine ⟨fun h => absurd h (by decide), fun _ => ?_⟩
        walk_at "s"
        exact ⟨rfl, rfl⟩
      · rw [hmore hc] at hc2
        cases hc2
    · rw [hv]
      walk_at "s"
      refine wr_ixuT (atI_nat (j := 0) rfl) ?_
      walk_at "s"
      refine ⟨fun h => absurd h (by decide), fun _ => ⟨fun h => (by cases h), fun _ => ?_⟩⟩
      walk_at "s"
      exact ⟨rfl, rfl⟩
  rintro ss' st' ⟨rfl, rfl⟩
  have fin : Ct.Fin st.length Φ (.pd (.bool true)) st2 := fin_same o2.len (q _ o2 p2)
  walk_at "s"
  refine ⟨fun _ => fin, fun hr => ?_⟩
  have hr := of_decide_eq_false hr
  have G4 : Good a b c H m (r - 1) := by
    unfold Good
    omega
  rcases hvc with ⟨hc, rest, hv⟩ | ⟨hc, rest, hv⟩
  · rw [hv]
    walk_at "s"
    refine wr_ixuT (atI_nat (j := 0) rfl) ?_
    walk_at "s"
    refine ⟨fun h => absurd h (by decide), fun _ => ?_⟩
    walk_at "s"
    refine ⟨by rfl, _, _, _, _, _, _, rfl, G4, ?_⟩
    rcases ver_c (forEver a b c H m (r - 1)) with ⟨hc2, rest2, hv2⟩ | ⟨hc2, rest2, hv2⟩
    · rw [hv2]
      walk_at "s"
      refine wr_ixuT (atI_nat (j := 0) rfl) ?_
      walk_at "s"
      exact fin
    · rw [hless hc] at hc2
      cases hc2
  · rw [hv]
    walk_at "s"
    refine wr_ixuT (atI_nat (j := 0) rfl) ?_
    walk_at "s"
    exact ⟨fun _ => fin, fun h => absurd h (by decide)⟩
/-! ### _law_near_holds -/
abbrev s__law_near_holds : Stmt := topS 44
abbrev N__law_near_holds : List Str := ["like", "w", "k", "a", "near"]
theorem sc__law_near_holds : FnScope N__law_near_holds ["like"] (defScope s__law_near_holds) := ⟨rfl, rfl, rfl, by decide +kernel, rfl, by decide +kernel, by decide +kernel⟩
def pre__law_near_holds : Pre := fun xs st Φ => ∃ a b c H m r : Int, xs = [.pd (.list [.int a, .int b, .int c, .int H, .int m, .int r])] ∧ LikeOk a b c H m r ∧ Φ (.pd (.bool true)) st
theorem ok__law_near_holds (c__law_near_lengths : Cal P w K mg base 2 "_law_near_lengths" ["like", "k"] (spP K T 2 pre__law_near_lengths)) (c__law_ever_told : Cal P w K mg base 8 "_law_ever_told" ["like"] (spP K T 1 pre__law_ever_told)) (c__law_forever : Cal P w K mg base 2 "_law_forever" ["like"] (spP K T 1 pre__law_forever)) (Z : Zs mg) (dd : Df K mg "_law_near_holds" s__law_near_holds) : Cal P w K mg base 9 "_law_near_holds" ["like"] (spP K T 1 pre__law_near_holds) := by
  refine dd.cal (fun f fd F => F.ok sc__law_near_holds (fun vs H Q E h => spP_len h) fun cdv A outer s H vs Q E hr h => ?_) (fun _ _ _ _ _ _ us hl => match us, hl with | [_], _ => rfl)
  have nd := sc__law_near_holds.nd
  have hu := room_u hr
  refine ⟨_, (pss_cons (ps_asg (pe_op op_sub (pe_ix (ix_seqK (K := K) rfl) (pv 0) pe_int (fun _ _ => rfl)) (pe_ix (ix_seqK (K := K) rfl) (pv 0) pe_int (fun _ _ => rfl))) (pg_name (i := 1) nd rfl (.inl rfl))) (pss_cons (ps_for PassesOwn.never rfl (pi_range2 rfl Z.range_ (pa_cons pe_int (pa_cons (pe_op (op_addK (K := K) rfl) (pe_ix (ix_seqK (K := K) rfl) (pv 0) pe_int (fun _ _ => rfl)) pe_int) pa_nil))) (pg_name (i := 2) nd rfl (.inl rfl)) (pss_one (ps_for PassesOwn.never rfl (pi_list (pe_callC c__law_near_lengths (hr.mono (by decide)) (by rfl) (pa_cons (pv 0) (pa_cons (pv 2) pa_nil)))) (pg_name (i := 3) nd rfl (.inl rfl)) (pss_cons (ps_asg (pe_lst (pa_cons (pv 3) (pa_cons (pe_op (op_addK (K := K) rfl) (pv 3) (pv 1)) (pa_cons (pe_ix (ix_seqK (K := K) rfl) (pv 0) pe_int (fun _ _ => rfl)) (pa_cons (pe_ix (ix_seqK (K := K) rfl) (pv 0) pe_int (fun _ _ => rfl)) (pa_cons (pe_ix (ix_seqK (K := K) rfl) (pv 0) pe_int (fun _ _ => rfl)) (pa_cons (pe_ix (ix_seqK (K := K) rfl) (pv 0) pe_int (fun _ _ => rfl)) pa_nil))))))) (pg_name (i := 4) nd rfl (.inl rfl))) (pss_one (ps_if (pt_cmpR (op_neK (K := K) rfl hu) (pe_callC c__law_ever_told (hr.mono (by decide)) (by rfl) (pa_cons (pv 4) pa_nil)) (pe_callC c__law_forever (hr.mono (by decide)) (by rfl) (pa_cons (pv 4) pa_nil)) (nomark _)) (pss_one (ps_ret pe_bl)) pss_nil)))))) (pss_one (ps_ret pe_bl)))), fn_run h ?_⟩
  intro xs st Φ hl hp
  clear hl h hu hr nd
  try dsimp only [L2.cxOf]
  obtain ⟨a, b, c, H, m, r, rfl, L, q⟩ := hp
  have L' := L
  obtain ⟨h1, h2, h3, h4, h5, h6, h7, h8, h9, h10, h11, h12, h13⟩ := L'
  refine ws_mid (fun ss' st' => st = st' ∧ ss' = [some (.pd (.list [.int a, .int b, .int c, .int H, .int m, .int r])), some (.pd (.int (b - a))), none, none, none]) ?_ ?_
  · walk_at "s"
    exact ⟨rfl, rfl⟩
  rintro ss' st' ⟨rfl, rfl⟩
  refine ws_seq (ws_forR2 (wa_cons (we_c rfl (wa_cons ?_))))
  walk_at "s"
  refine ⟨_, _, rfl, by omega, fun i ss' st' => st' = st ∧ ∃ y2 y3 y4 : Option Val, ss' = [some (.pd (.list [.int a, .int b, .int c, .int H, .int m, .int r])), some (.pd (.int (b - a))), y2, y3, y4], ⟨rfl, _, _, _, rfl⟩, ?_, ?_⟩
  · rintro i ss' st' hi ⟨rfl, y2, y3, y4, rfl⟩
    refine wg_name ?_
    refine ws_forL ?_
    walk_at "s"
    refine ⟨by rfl, a, b, c, H, m, r, _, rfl, L, by omega, by omega, fun ls hl hP => ?_⟩
    refine ⟨_, rfl, fun j ss' st'' => st'' = st' ∧ ∃ y3 y4 : Option Val, ss' = [some (.pd (.list [.int a, .int b, .int c, .int H, .int m, .int r])), some (.pd (.int (b - a))), some (.pd (.int (1 + (i : Int)))), y3, y4], ⟨rfl, _, _, rfl⟩, ?_, ?_⟩
    · rintro j d ss' st'' hd ⟨rfl, y3, y4, rfl⟩
      obtain ⟨l, hl, rfl⟩ := List.mem_map.mp (List.mem_of_getElem? hd)
      have hl := hP l hl
      have GN : Good l (l + (b - a)) c H m r := by
        unfold Good
        omega
      walk_at "s"
      refine ⟨by rfl, _, _, _, _, _, _, rfl, GN, ?_⟩
      walk_at "s"
      refine ⟨by rfl, _, _, _, _, _, _, rfl, GN, ?_⟩
      refine wr_neD rfl rfl (sh_ver _) (sh_ver _) ?_
      rw [eqv_ver]
      walk_at "s"
      refine ⟨fun h => (by cases h), fun _ => ?_⟩
      walk_at "s"
      exact ⟨rfl, _, _, rfl⟩
    · rintro ss' st'' ⟨rfl, y3, y4, rfl⟩
      exact ⟨rfl, _, _, _, rfl⟩
  · rintro ss' st' ⟨rfl, y2, y3, y4, rfl⟩
    walk_at "s"
    exact fin_pd (by simp) q
/-! ### law -/
abbrev s_law : Stmt := topS 45
abbrev N_law : List Str := ["script", "purse", "more", "turn", "like"]
theorem sc_law : FnScope N_law ["script"] (defScope s_law) := ⟨rfl, rfl, rfl, by decide +kernel, rfl, by decide +kernel, by decide +kernel⟩
def pre_law : Pre := fun xs st Φ => ∃ ns : List Int, xs = [.pd (.list (ns.map PyData.int))] ∧ ns.length ≤ 63 ∧ Φ (.pd (.bool true)) st
structure Two (st st' : Sto) : Prop where
  len : st'.length = st.length + 2
  at_ : ∀ k, k < st.length → st'[k]? = st[k]?
  p0 : Pur st' st.length
  p1 : Pur st' (st.length + 1)
theorem Two.o0 {st a b : Sto} (h : Two st a) (o : Only a b st.length) (p : Pur b st.length) : Two st b := ⟨o.len.trans h.len, fun k hk => (o.at_ k (by omega)).trans (h.at_ k hk), p, o.pur (by omega) h.p1⟩
theorem Two.o1 {st a b : Sto} (h : Two st a) (o : Only a b (st.length + 1)) (p : Pur b (st.length + 1)) : Two st b := ⟨o.len.trans h.len, fun k hk => (o.at_ k (by omega)).trans (h.at_ k hk), o.pur (by omega) h.p0, p⟩
theorem Two.take {st a : Sto} (h : Two st a) : a.take st.length = st := by
  refine List.ext_getElem? fun k => ?_
  rw [List.getElem?_take]
  split
  · exact h.at_ k (by assumption)
  · exact (List.getElem?_eq_none (by omega)).symm
theorem fn_law (c__law_near_holds : Cal P w K mg base 9 "_law_near_holds" ["like"] (spP K T 1 pre__law_near_holds)) (c__law_draw_like : Cal P w K mg base 2 "_law_draw_like" ["purse"] (spP K T 1 pre__law_draw_like)) (c__law_moved_holds : Cal P w K mg base 9 "_law_moved_holds" ["purse", "like"] (spP K T 2 pre__law_moved_holds)) (c__law_draw_verdict : Cal P w K mg base 3 "_law_draw_verdict" ["purse", "word", "most"] (spP K T 3 pre__law_draw_verdict)) (c__law_purse : Cal P w K mg base 1 "_law_purse" ["script", "at"] (spP K T 2 pre__law_purse)) (Z : Zs mg) {f : Addr} {fd : FuncData} (F : Fun K "law" "law" s_law f fd) : FnOk P w K mg base CX0 10 f fd ["script"] (spP K T 1 pre_law) := by
  refine F.ok sc_law (fun vs H Q E h => spP_len h) fun cdv A outer s H vs Q E hr h => ?_
  have nd := sc_law.nd
  have hu := room_u hr
  refine ⟨_, (pss_cons (ps_asg (pe_callC c__law_purse (hr.mono (by decide)) (by rfl) (pa_cons (pv 0) (pa_cons pe_int pa_nil))) (pg_name (i := 1) nd rfl (.inl rfl))) (pss_cons (ps_asg (pe_callC c__law_purse (hr.mono (by decide)) (by rfl) (pa_cons (pv 0) (pa_cons pe_int pa_nil))) (pg_name (i := 2) nd rfl (.inl rfl))) (pss_cons (ps_for PassesOwn.never rfl (pi_range1 rfl Z.range_ (pa_cons pe_int pa_nil)) (pg_name (i := 3) nd rfl (.inl rfl)) (pss_one (ps_if (pt_not (pt_val (pe_callC c__law_moved_holds (hr.mono (by decide)) (by rfl) (pa_cons (pv 2) (pa_cons (pe_callC c__law_draw_like (hr.mono (by decide)) (by rfl) (pa_cons (pv 1) pa_nil)) pa_nil))))) (pss_one (ps_ret pe_bl)) pss_nil))) (pss_cons (ps_asg (pe_callC c__law_draw_verdict (hr.mono (by decide)) (by rfl) (pa_cons (pv 2) (pa_cons pe_str (pa_cons pe_int pa_nil)))) (pg_name (i := 4) nd rfl (.inl rfl))) (pss_one (ps_ret (pe_and (pe_callC c__law_moved_holds (hr.mono (by decide)) (by rfl) (pa_cons (pv 1) (pa_cons (pv 4) pa_nil))) (pe_and (pe_callC c__law_near_holds (hr.mono (by decide)) (by rfl) (pa_cons (pv 4) pa_nil)) (pe_one (pe_callC c__law_near_holds (hr.mono (by decide)) (by rfl) (pa_cons (pe_callC c__law_draw_like (hr.mono (by decide)) (by rfl) (pa_cons (pv 2) pa_nil)) pa_nil))))))))))), fn_run h ?_⟩
  intro xs st Φ hl hp
  clear hl h hu hr nd
  try dsimp only [L2.cxOf]
  obtain ⟨ns, rfl, hl, q⟩ := hp
  walk_at "s"
  refine ⟨by rfl, ns, 0, rfl, hl, by omega, by omega, fun p0 p1 => ?_⟩
  walk_at "s"
  refine ⟨by rfl, ns, 1, rfl, hl, by omega, by omega, fun p2 p3 => ?_⟩
  refine wg_name ?_
  have W : Two st (st ++ [.mu [.int p0, .int p1, .int 0]] ++ [.mu [.int p2, .int p3, .int 1]]) := ⟨by simp, fun k hk => by rw [List.append_assoc, List.getElem?_append_left hk], ⟨p0, p1, 0, by rw [List.append_assoc]; exact get_end⟩, ⟨p2, p3, 1, by simp⟩⟩
  have en : (st ++ [Cell.mu [.int p0, .int p1, .int 0]]).length = st.length + 1 := by simp
  generalize (st ++ [.mu [.int p0, .int p1, .int 0]] ++ [.mu [.int p2, .int p3, .int 1]]) = st1 at W ⊢
  rw [en]
  refine ws_seq (ws_forR1 (wa_cons (we_c rfl (wa_nil ⟨_, rfl, by omega, by omega, fun i ss' st' => Two st st' ∧ ∃ y3 : Option Val, ss' = [some (.pd (.list (ns.map PyData.int))), some (.cell st.length), some (.cell (st.length + 1)), y3, none], ⟨W, _, rfl⟩, ?_, ?_⟩))))
  · rintro i ss' st' hi ⟨W, y3, rfl⟩
    walk_at "s"
    refine ⟨by rfl, _, rfl, W.p0, fun a b c H m r st2 L o2 p2 => ?_⟩
    have W := W.o0 o2 p2
    walk_at "s"
    refine ⟨by rfl, _, _, _, _, _, _, _, rfl, W.p1, L, fun st3 o3 p3 => ?_⟩
    have W := W.o1 o3 p3
    walk_at "s"
    refine ⟨fun h => (by cases h), fun _ => ?_⟩
    walk_at "s"
    exact ⟨W, _, rfl⟩
  · rintro ss' st' ⟨W, y3, rfl⟩
    walk_at "s"
    refine ⟨by rfl, _, rfl, W.p1, fun a b c H m r st2 L o2 p2 => ?_⟩
    have W := W.o1 o2 p2
    walk_at "s"
    refine ⟨by rfl, _, _, _, _, _, _, _, rfl, W.p0, L, fun st3 o3 p3 => ?_⟩
    have W := W.o0 o3 p3
    refine ⟨_, rfl, fun _ => ?_, fun h => (by cases h)⟩
    walk_at "s"
    refine ⟨by rfl, _, _, _, _, _, _, rfl, L, ?_⟩
    refine ⟨_, rfl, fun _ => ?_, fun h => (by cases h)⟩
    walk_at "s"
    refine ⟨by rfl, _, rfl, W.p1, fun a b c H m r st4 L o4 p4 => ?_⟩
    have W := W.o1 o4 p4
    walk_at "s"
    refine ⟨by rfl, _, _, _, _, _, _, rfl, L, ?_⟩
    exact fin_pd W.take q
end
end K80

namespace K80
open PySem L2 Ct PyProof.Rows
theorem law_at {l : PySem.W.OpenLaw} {w : World} {K : PySem.W.Frag} {mg : Str → Option Value} {h : Heap} {fa c P : Addr} (hfa : mg "law" = some (.ref fa)) (d_is_whole : Df K mg "is_whole" s_is_whole) (d_whole_from : Df K mg "whole_from" s_whole_from) (d_check_most : Df K mg "check_most" s_check_most) (d_check_numbers : Df K mg "check_numbers" s_check_numbers) (d_arcs_union : Df K mg "arcs_union" s_arcs_union) (d_lesser_end : Df K mg "lesser_end" s_lesser_end) (d_arcs_meet : Df K mg "arcs_meet" s_arcs_meet) (d_arcs_other : Df K mg "arcs_other" s_arcs_other) (d_arcs_minus : Df K mg "arcs_minus" s_arcs_minus) (d_check_like : Df K mg "check_like" s_check_like) (d_over_of : Df K mg "over_of" s_over_of) (d_remainders_of : Df K mg "remainders_of" s_remainders_of) (d_gap_at : Df K mg "gap_at" s_gap_at) (d_parts_up : Df K mg "parts_up" s_parts_up) (d_caught_ways : Df K mg "caught_ways" s_caught_ways) (d_for_ever : Df K mg "for_ever" s_for_ever) (d_round_arcs : Df K mg "round_arcs" s_round_arcs) (d_round_holes : Df K mg "round_holes" s_round_holes) (d_line_ranks : Df K mg "line_ranks" s_line_ranks) (d__law_purse : Df K mg "_law_purse" s__law_purse) (d__law_draw : Df K mg "_law_draw" s__law_draw) (d__law_over : Df K mg "_law_over" s__law_over) (d__law_rest : Df K mg "_law_rest" s__law_rest) (d__law_up : Df K mg "_law_up" s__law_up) (d__law_forever : Df K mg "_law_forever" s__law_forever) (d__law_draw_like : Df K mg "_law_draw_like" s__law_draw_like) (d__law_draw_verdict : Df K mg "_law_draw_verdict" s__law_draw_verdict) (d__law_ever_told : Df K mg "_law_ever_told" s__law_ever_told) (d__law_near_lengths : Df K mg "_law_near_lengths" s__law_near_lengths) (d__law_moved_holds : Df K mg "_law_moved_holds" s__law_moved_holds) (d__law_near_holds : Df K mg "_law_near_holds" s__law_near_holds) (g_arcs_gathered : Gl1 K h mg "arcs_gathered" s_arcs_gathered c P) (x_LEAD : ∃ t, mg "LEAD" = some (.int c_LEAD t)) (x_LENGTHS : ∃ t, mg "LENGTHS" = some (.int c_LENGTHS t)) (x_PAGE : ∃ t, mg "PAGE" = some (.int c_PAGE t)) (x_RANGE : ∃ t, mg "RANGE" = some (.int c_RANGE t)) (Z : Zs mg) (d_law : Df K mg "law" s_law) : LamX.LawAtS l w K CX0 10 63 "script" mg fa h := by
  obtain ⟨f, fd, FL, mL⟩ := d_law
  cases hfa.symm.trans mL
  have nT : ∀ p ∈ [(c, P)], K.lookup p.2 = none := fun p hp => by rw [List.mem_singleton.mp hp]; exact g_arcs_gathered.no
  have gT : ∀ p ∈ [(c, P)], h.get? p.2 = some { cls := .none, data := .fields #[] } := fun p hp => by rw [List.mem_singleton.mp hp]; exact g_arcs_gathered.tb
  have cT : ∀ p ∈ [(c, P)], PySem.W.CodeHd h p.1 p.2 := fun p hp => by rw [List.mem_singleton.mp hp]; exact g_arcs_gathered.hd
  have hb : ∀ (s : Shared) (u : Value), BindsTo s fd ⟨[u], []⟩ [("script", u)] := by
    obtain ⟨oc, od, kV, doc, pm, an, cdv, ct, osl, rfl, lk, hcd⟩ := FL.ex
    exact fun s u => .of_eq rfl
  refine ⟨fd, [(c, P)], spP K [(P, lamQ "arcs_gathered")] 1 pre_law, gT, nT, cT, hb, fun H a ns hl _ hH hS => ?_, fun base kb gb tb => ?_⟩
  · exact start_sp (hH (c, P) (List.mem_singleton.mpr rfl)) hS ⟨ns, rfl, hl, rfl⟩
  · have hG := g_arcs_gathered.gath (tb (c, P) (List.mem_singleton.mpr rfl))
    have c__law_rest := ok__law_rest (P := l.prog) (w := w) (K := K) (mg := mg) (base := base) (T := [(P, lamQ "arcs_gathered")]) Z d__law_rest
    have c__law_over := ok__law_over (P := l.prog) (w := w) (K := K) (mg := mg) (base := base) (T := [(P, lamQ "arcs_gathered")]) d__law_over
    have c__law_near_lengths := ok__law_near_lengths (P := l.prog) (w := w) (K := K) (mg := mg) (base := base) (T := [(P, lamQ "arcs_gathered")]) c__law_rest c__law_over Z d__law_near_lengths
    have c_parts_up := ok_parts_up (P := l.prog) (w := w) (K := K) (mg := mg) (base := base) (T := [(P, lamQ "arcs_gathered")]) d_parts_up
    have c_is_whole := ok_is_whole (P := l.prog) (w := w) (K := K) (mg := mg) (base := base) (T := [(P, lamQ "arcs_gathered")]) Z d_is_whole
    have c_whole_from := ok_whole_from (P := l.prog) (w := w) (K := K) (mg := mg) (base := base) (T := [(P, lamQ "arcs_gathered")]) c_is_whole d_whole_from
    have c_check_most := ok_check_most (P := l.prog) (w := w) (K := K) (mg := mg) (base := base) (T := [(P, lamQ "arcs_gathered")]) c_is_whole d_check_most
    have c_check_numbers := ok_check_numbers (P := l.prog) (w := w) (K := K) (mg := mg) (base := base) (T := [(P, lamQ "arcs_gathered")]) c_check_most d_check_numbers
    have c_check_like := ok_check_like (P := l.prog) (w := w) (K := K) (mg := mg) (base := base) (T := [(P, lamQ "arcs_gathered")]) c_whole_from c_is_whole c_check_most c_check_numbers x_RANGE x_LEAD x_PAGE x_LENGTHS d_check_like
    have c_remainders_of := ok_remainders_of (P := l.prog) (w := w) (K := K) (mg := mg) (base := base) (T := [(P, lamQ "arcs_gathered")]) c_check_like Z d_remainders_of
    have c_caught_ways := ok_caught_ways (P := l.prog) (w := w) (K := K) (mg := mg) (base := base) (T := [(P, lamQ "arcs_gathered")]) c_parts_up c_remainders_of Z d_caught_ways
    have c_over_of := ok_over_of (P := l.prog) (w := w) (K := K) (mg := mg) (base := base) (T := [(P, lamQ "arcs_gathered")]) d_over_of
    have c_for_ever := ok_for_ever (P := l.prog) (w := w) (K := K) (mg := mg) (base := base) (T := [(P, lamQ "arcs_gathered")]) c_caught_ways c_over_of c_check_like d_for_ever
    have c__law_ever_told := ok__law_ever_told (P := l.prog) (w := w) (K := K) (mg := mg) (base := base) (T := [(P, lamQ "arcs_gathered")]) c_for_ever d__law_ever_told
    have c__law_up := ok__law_up (P := l.prog) (w := w) (K := K) (mg := mg) (base := base) (T := [(P, lamQ "arcs_gathered")]) d__law_up
    have c__law_forever := ok__law_forever (P := l.prog) (w := w) (K := K) (mg := mg) (base := base) (T := [(P, lamQ "arcs_gathered")]) c__law_up c__law_rest c__law_over Z d__law_forever
    have c__law_near_holds := ok__law_near_holds (P := l.prog) (w := w) (K := K) (mg := mg) (base := base) (T := [(P, lamQ "arcs_gathered")]) c__law_near_lengths c__law_ever_told c__law_forever Z d__law_near_holds
    have c__law_draw := ok__law_draw (P := l.prog) (w := w) (K := K) (mg := mg) (base := base) (T := [(P, lamQ "arcs_gathered")]) Z d__law_draw
    have c__law_draw_like := ok__law_draw_like (P := l.prog) (w := w) (K := K) (mg := mg) (base := base) (T := [(P, lamQ "arcs_gathered")]) c__law_draw c__law_rest Z d__law_draw_like
    have c_lesser_end := ok_lesser_end (P := l.prog) (w := w) (K := K) (mg := mg) (base := base) (T := [(P, lamQ "arcs_gathered")]) d_lesser_end
    have c_arcs_meet := ok_arcs_meet (P := l.prog) (w := w) (K := K) (mg := mg) (base := base) (T := [(P, lamQ "arcs_gathered")]) c_lesser_end Z d_arcs_meet
    have c_arcs_other := ok_arcs_other (P := l.prog) (w := w) (K := K) (mg := mg) (base := base) (T := [(P, lamQ "arcs_gathered")]) d_arcs_other
    have c_arcs_minus := ok_arcs_minus (P := l.prog) (w := w) (K := K) (mg := mg) (base := base) (T := [(P, lamQ "arcs_gathered")]) c_arcs_meet c_arcs_other d_arcs_minus
    have c_arcs_gathered := ok_arcs_gathered (P := l.prog) (w := w) (K := K) (mg := mg) (base := base) (T := [(P, lamQ "arcs_gathered")]) Z hG
    have c_arcs_union := ok_arcs_union (P := l.prog) (w := w) (K := K) (mg := mg) (base := base) (T := [(P, lamQ "arcs_gathered")]) c_arcs_gathered Z d_arcs_union
    have c_round_arcs := ok_round_arcs (P := l.prog) (w := w) (K := K) (mg := mg) (base := base) (T := [(P, lamQ "arcs_gathered")]) c_arcs_union d_round_arcs
    have c_round_holes := ok_round_holes (P := l.prog) (w := w) (K := K) (mg := mg) (base := base) (T := [(P, lamQ "arcs_gathered")]) Z d_round_holes
    have c_gap_at := ok_gap_at (P := l.prog) (w := w) (K := K) (mg := mg) (base := base) (T := [(P, lamQ "arcs_gathered")]) c_over_of c_check_like d_gap_at
    have c_line_ranks := ok_line_ranks (P := l.prog) (w := w) (K := K) (mg := mg) (base := base) (T := [(P, lamQ "arcs_gathered")]) c_arcs_minus c_round_arcs c_round_holes c_gap_at d_line_ranks
    have c__law_moved_holds := ok__law_moved_holds (P := l.prog) (w := w) (K := K) (mg := mg) (base := base) (T := [(P, lamQ "arcs_gathered")]) c__law_ever_told c__law_draw c_line_ranks c_gap_at c__law_forever Z d__law_moved_holds
    have c__law_draw_verdict := ok__law_draw_verdict (P := l.prog) (w := w) (K := K) (mg := mg) (base := base) (T := [(P, lamQ "arcs_gathered")]) c__law_over c__law_forever c__law_draw_like Z d__law_draw_verdict
    have c__law_purse := ok__law_purse (P := l.prog) (w := w) (K := K) (mg := mg) (base := base) (T := [(P, lamQ "arcs_gathered")]) Z d__law_purse
    exact fn_law (P := l.prog) (w := w) (base := base) c__law_near_holds c__law_draw_like c__law_moved_holds c__law_draw_verdict c__law_purse Z FL
end K80
open PySem PySem.W PyProof.Rows
set_option maxHeartbeats 0 in
theorem PySem.Challenge.cw_comestrue_k80_whole_like_sections_moved_holds : PySem.Challenge.rw_comestrue_k80_whole_like_sections_moved.Holds := by
  w_on; o_law; k_head; (case hw => w_witness2)
  k_fill
  refine LamX.walk_ofTs (l := PySem.Challenge.rw_comestrue_k80_whole_like_sections_moved) (n := 63) (k := 10) (x := "script") (CX := fun _ => L2.CX0) rfl (by decide) rfl ⟨rfl, by decide, by decide⟩ (fun w h Y => PySem.W.km_in_of Y) ?F (fun _ _ _ _ _ h => h)
  case F =>
    intro w mg fa h Y KX G hmg
    have hT := PySem.W.km_tabs_of Y
    refine' K80.law_at hmg ?d0 ?d1 ?d2 ?d3 ?d4 ?d5 ?d6 ?d7 ?d8 ?d9 ?d10 ?d11 ?d12 ?d13 ?d14 ?d15 ?d16 ?d17 ?d18 ?d19 ?d20 ?d21 ?d22 ?d23 ?d24 ?d25 ?d26 ?d27 ?d28 ?d29 ?d30 ?g ?x0 ?x1 ?x2 ?x3 ?z ?dl
    case g =>
      refine' Ct.gl1_mk KX G ?a ?l ?c ?k ?hd (hT 95 (by k_mem)) ?no
      (case a => k_is); (case l => k_is); (case c => k_is); (case k => k_is); (case hd => kernel_rfl); (case no => kernel_rfl)
    case d0 => refine' Ct.df_mk KX G ?a ?l ?c ?k; (case a => k_is); (case l => k_is); (case c => k_is); (case k => k_is)
    case d1 => refine' Ct.df_mk KX G ?a ?l ?c ?k; (case a => k_is); (case l => k_is); (case c => k_is); (case k => k_is)
    case d2 => refine' Ct.df_mk KX G ?a ?l ?c ?k; (case a => k_is); (case l => k_is); (case c => k_is); (case k => k_is)
    case d3 => refine' Ct.df_mk KX G ?a ?l ?c ?k; (case a => k_is); (case l => k_is); (case c => k_is); (case k => k_is)
    case d4 => refine' Ct.df_mk KX G ?a ?l ?c ?k; (case a => k_is); (case l => k_is); (case c => k_is); (case k => k_is)
    case d5 => refine' Ct.df_mk KX G ?a ?l ?c ?k; (case a => k_is); (case l => k_is); (case c => k_is); (case k => k_is)
    case d6 => refine' Ct.df_mk KX G ?a ?l ?c ?k; (case a => k_is); (case l => k_is); (case c => k_is); (case k => k_is)
    case d7 => refine' Ct.df_mk KX G ?a ?l ?c ?k; (case a => k_is); (case l => k_is); (case c => k_is); (case k => k_is)
    case d8 => refine' Ct.df_mk KX G ?a ?l ?c ?k; (case a => k_is); (case l => k_is); (case c => k_is); (case k => k_is)
    case d9 => refine' Ct.df_mk KX G ?a ?l ?c ?k; (case a => k_is); (case l => k_is); (case c => k_is); (case k => k_is)
    case d10 => refine' Ct.df_mk KX G ?a ?l ?c ?k; (case a => k_is); (case l => k_is); (case c => k_is); (case k => k_is)
    case d11 => refine' Ct.df_mk KX G ?a ?l ?c ?k; (case a => k_is); (case l => k_is); (case c => k_is); (case k => k_is)
    case d12 => refine' Ct.df_mk KX G ?a ?l ?c ?k; (case a => k_is); (case l => k_is); (case c => k_is); (case k => k_is)
    case d13 => refine' Ct.df_mk KX G ?a ?l ?c ?k; (case a => k_is); (case l => k_is); (case c => k_is); (case k => k_is)
    case d14 => refine' Ct.df_mk KX G ?a ?l ?c ?k; (case a => k_is); (case l => k_is); (case c => k_is); (case k => k_is)
    case d15 => refine' Ct.df_mk KX G ?a ?l ?c ?k; (case a => k_is); (case l => k_is); (case c => k_is); (case k => k_is)
    case d16 => refine' Ct.df_mk KX G ?a ?l ?c ?k; (case a => k_is); (case l => k_is); (case c => k_is); (case k => k_is)
    case d17 => refine' Ct.df_mk KX G ?a ?l ?c ?k; (case a => k_is); (case l => k_is); (case c => k_is); (case k => k_is)
    case d18 => refine' Ct.df_mk KX G ?a ?l ?c ?k; (case a => k_is); (case l => k_is); (case c => k_is); (case k => k_is)
    case d19 => refine' Ct.df_mk KX G ?a ?l ?c ?k; (case a => k_is); (case l => k_is); (case c => k_is); (case k => k_is)
    case d20 => refine' Ct.df_mk KX G ?a ?l ?c ?k; (case a => k_is); (case l => k_is); (case c => k_is); (case k => k_is)
    case d21 => refine' Ct.df_mk KX G ?a ?l ?c ?k; (case a => k_is); (case l => k_is); (case c => k_is); (case k => k_is)
    case d22 => refine' Ct.df_mk KX G ?a ?l ?c ?k; (case a => k_is); (case l => k_is); (case c => k_is); (case k => k_is)
    case d23 => refine' Ct.df_mk KX G ?a ?l ?c ?k; (case a => k_is); (case l => k_is); (case c => k_is); (case k => k_is)
    case d24 => refine' Ct.df_mk KX G ?a ?l ?c ?k; (case a => k_is); (case l => k_is); (case c => k_is); (case k => k_is)
    case d25 => refine' Ct.df_mk KX G ?a ?l ?c ?k; (case a => k_is); (case l => k_is); (case c => k_is); (case k => k_is)
    case d26 => refine' Ct.df_mk KX G ?a ?l ?c ?k; (case a => k_is); (case l => k_is); (case c => k_is); (case k => k_is)
    case d27 => refine' Ct.df_mk KX G ?a ?l ?c ?k; (case a => k_is); (case l => k_is); (case c => k_is); (case k => k_is)
    case d28 => refine' Ct.df_mk KX G ?a ?l ?c ?k; (case a => k_is); (case l => k_is); (case c => k_is); (case k => k_is)
    case d29 => refine' Ct.df_mk KX G ?a ?l ?c ?k; (case a => k_is); (case l => k_is); (case c => k_is); (case k => k_is)
    case d30 => refine' Ct.df_mk KX G ?a ?l ?c ?k; (case a => k_is); (case l => k_is); (case c => k_is); (case k => k_is)
    case x0 => refine' Ct.cst_mk KX G ?a; (case a => k_is)
    case x1 => refine' Ct.cst_mk KX G ?a; (case a => k_is)
    case x2 => refine' Ct.cst_mk KX G ?a; (case a => k_is)
    case x3 => refine' Ct.cst_mk KX G ?a; (case a => k_is)
    case z =>
      refine' ⟨?z0, ?z1, ?z2, ?z3, ?z4, ?z5, ?z6, ?z7, ?z8, ?z9, ?z10, ?z11, ?z12⟩
      (case z0 => refine' PySem.W.mg_none_of KX G ?a; (case a => k_is))
      (case z1 => refine' PySem.W.mg_none_of KX G ?a; (case a => k_is))
      (case z2 => refine' PySem.W.mg_none_of KX G ?a; (case a => k_is))
      (case z3 => refine' PySem.W.mg_none_of KX G ?a; (case a => k_is))
      (case z4 => refine' PySem.W.mg_none_of KX G ?a; (case a => k_is))
      (case z5 => refine' PySem.W.mg_none_of KX G ?a; (case a => k_is))
      (case z6 => refine' PySem.W.mg_none_of KX G ?a; (case a => k_is))
      (case z7 => refine' PySem.W.mg_none_of KX G ?a; (case a => k_is))
      (case z8 => refine' PySem.W.mg_none_of KX G ?a; (case a => k_is))
      (case z9 => refine' PySem.W.mg_none_of KX G ?a; (case a => k_is))
      (case z10 => refine' PySem.W.mg_none_of KX G ?a; (case a => k_is))
      (case z11 => refine' PySem.W.mg_none_of KX G ?a; (case a => k_is))
      (case z12 => refine' PySem.W.mg_none_of KX G ?a; (case a => k_is))
    case dl => refine' Ct.df_mk KX G ?a ?l ?c ?k; (case a => k_is); (case l => k_is); (case c => k_is); (case k => k_is)
