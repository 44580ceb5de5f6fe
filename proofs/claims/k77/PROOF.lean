import PyProof.Rows.All
import Wide.All
import OpenK.AllK
import Wide.FinOn
import HandS.ForExc
import HandS.Comp
import HandS.Iter
import HandS.Lambda
import HandS.EndTab
import HandS.IsInst
import HandS.NoneIn
import HandS.Flow
import KE.SortKeyHeap
import HandS.Nested
import HandS.SortRule
import HandS.Deep
import PySem.Challenge.RW_comestrue_k77_whole_kept_for_ever
set_option Elab.async false
set_option linter.all false
set_option autoImplicit false
set_option maxRecDepth 100000
set_option maxHeartbeats 4000000
/-! Ct: value-level judgements over the hand layer. A value is plain data or a list cell of a store. -/
namespace Ct
open PySem L2

/-- a thing that never changes, by what is true of it -/
structure Ob where
  φ : Hp → V → Prop
  mono : ∀ {F F' : Hp} {v : V}, Same F F' → φ F v → φ F' v
inductive Val where
  | pd (d : PyData)
  | cell (n : Nat)
  | ty (n : String)
  | ob (o : Ob)
/-- mu: a list of plain data; fr: such a one that is no more written; ml: a list of values; ins: an instance of the class at C -/
inductive Cell where
  | mu (xs : List PyData)
  | fr (xs : List PyData)
  | ml (xs : List Val)
  | ins (C : Addr) (fs : List (Str × Val))
  | gone
  | pin (vs : List V) (xs : List PyData)
def Cell.live : Cell → Prop
  | .fr _ => False
  | .gone => False
  | _ => True
abbrev Sto := List Cell
abbrev SS := List (Option Val)

section
variable {K : PySem.W.Frag} {F F' F'' H H' : Hp} {a : Addr} {xs : List V}
theorem seqT (s : Same F F') (h : SqT K F a xs) : SqT K F' a xs := by
  rcases h with (h | ⟨o, h⟩) | h
  · exact .inl (.inl (s _ _ h))
  · exact .inl (.inr ⟨o, s _ _ h⟩)
  · exact .inr h
mutual
theorem dpm (s : Same F F') : ∀ {v : V} {d : PyData}, Dp K F v d → Dp K F' v d
  | _, _, .non => .non
  | _, _, .bl b => .bl b
  | _, _, .int i => .int i
  | _, _, .str x => .str x
  | _, _, .lst h t => .lst (s.seq h) (dpsm s t)
  | _, _, .tup h t => .tup (seqT s h) (dpsm s t)
theorem dpsm (s : Same F F') : ∀ {vs : List V} {ds : List PyData}, DpAll K F vs ds → DpAll K F' vs ds
  | _, _, .nil => .nil
  | _, _, .cons h t => .cons (dpm s h) (dpsm s t)
end
theorem dps_len : ∀ {vs : List V} {ds : List PyData}, DpAll K F vs ds → vs.length = ds.length
  | _, _, .nil => rfl
  | _, _, .cons _ t => congrArg (· + 1) (dps_len t)
theorem dps_get : ∀ {vs : List V} {ds : List PyData} {i : Nat} {d : PyData}, DpAll K F vs ds → ds[i]? = some d → ∃ v, vs[i]? = some v ∧ Dp K F v d
  | _, _, _, _, .nil, e => by simp at e
  | _, _, 0, _, .cons h _, e => by
    simp at e
    subst e
    exact ⟨_, rfl, h⟩
  | _, _, i + 1, _, .cons _ t, e => by
    simp at e
    obtain ⟨v, h1, h2⟩ := dps_get t e
    exact ⟨v, by simpa using h1, h2⟩
theorem dps_getV : ∀ {vs : List V} {ds : List PyData} {i : Nat} {v : V}, DpAll K F vs ds → vs[i]? = some v → ∃ d, ds[i]? = some d ∧ Dp K F v d
  | _, _, _, _, .nil, e => by simp at e
  | _, _, 0, _, .cons h _, e => by
    simp at e
    subst e
    exact ⟨_, rfl, h⟩
  | _, _, i + 1, _, .cons _ t, e => by
    simp at e
    obtain ⟨v, h1, h2⟩ := dps_getV t e
    exact ⟨v, by simpa using h1, h2⟩
theorem dps_app : ∀ {vs ws : List V} {ds es : List PyData}, DpAll K F vs ds → DpAll K F ws es → DpAll K F (vs ++ ws) (ds ++ es)
  | _, _, _, _, .nil, t => t
  | _, _, _, _, .cons h r, t => .cons h (dps_app r t)
theorem dps_set : ∀ {vs : List V} {ds : List PyData} {v : V} {d : PyData} (i : Nat), DpAll K F vs ds → Dp K F v d → DpAll K F (vs.set i v) (ds.set i d)
  | _, _, _, _, _, .nil, _ => .nil
  | _, _, _, _, 0, .cons _ r, h => .cons h r
  | _, _, _, _, i + 1, .cons g r, h => .cons g (dps_set i r h)
theorem dps_take : ∀ {vs : List V} {ds : List PyData} (n : Nat), DpAll K F vs ds → DpAll K F (vs.take n) (ds.take n)
  | _, _, 0, _ => .nil
  | _, _, _ + 1, .nil => .nil
  | _, _, n + 1, .cons h t => .cons h (dps_take n t)
theorem dps_drop : ∀ {vs : List V} {ds : List PyData} (n : Nat), DpAll K F vs ds → DpAll K F (vs.drop n) (ds.drop n)
  | _, _, 0, r => r
  | _, _, _ + 1, .nil => .nil
  | _, _, n + 1, .cons _ t => dps_drop n t
theorem dps_ints : ∀ {vs : List V} {ns : List Int}, DpAll K F vs (ns.map PyData.int) → vs = ns.map V.int
  | _, [], .nil => rfl
  | _, n :: ns, .cons (.int _) t => by rw [dps_ints t]; rfl
theorem dps_ints' : ∀ (ns : List Int), DpAll K F (ns.map V.int) (ns.map PyData.int)
  | [] => .nil
  | n :: ns => .cons (.int n) (dps_ints' ns)
theorem dp_int {v : V} {i : Int} (h : Dp K F v (.int i)) : v = .int i := by cases h; rfl
theorem dp_bl {v : V} {b : Bool} (h : Dp K F v (.bool b)) : v = .bl b := by cases h; rfl
theorem dp_str {v : V} {x : Str} (h : Dp K F v (.str x)) : v = .str x := by cases h; rfl
theorem dp_non {v : V} (h : Dp K F v .none) : v = .non := by cases h; rfl
theorem dp_lst {v : V} {ds : List PyData} (h : Dp K F v (.list ds)) : ∃ a vs, v = .ref a ∧ SqL K F a vs ∧ DpAll K F vs ds := by
  cases h with
  | lst h t => exact ⟨_, _, rfl, h, t⟩
theorem dp_tup {v : V} {ds : List PyData} (h : Dp K F v (.tuple ds)) : ∃ a vs, v = .ref a ∧ SqT K F a vs ∧ DpAll K F vs ds := by
  cases h with
  | tup h t => exact ⟨_, _, rfl, h, t⟩
end

/-- what is known of code objects' tables -/
structure TabI where
  P : Hp → Prop
  ext : ∀ {H H' : Hp}, Same H H' → P H → P H'
  write : ∀ {H : Hp} {p : Addr} {u o : HO}, H p = some u → (∀ ps, u ≠ .tbl ps) → (∀ φ, u ≠ .ext φ) → P H → P (upd H p o)
  less : ∀ {H H' : Hp}, (∀ b o, H b = some o → (∃ ps, o = .tbl ps) ∨ (∃ φ, o = .ext φ) → H' b = some o) → P H → P H'
def tab0 : TabI := ⟨fun _ => True, fun _ _ => trivial, fun _ _ _ _ => trivial, fun _ _ => trivial⟩
def tabL (T : List (Addr × Str)) : TabI := ⟨LamX.Tabs T, fun s t => t.ext s, fun {H p u o} h nt nx t q hq => by
  obtain ⟨ps, h1, h2, h3⟩ := t q hq
  refine ⟨ps, ?_, h2, fun pos cv hc => ?_⟩
  · rw [upd_ne (ne_of h1 h (fun z => nt ps z.symm))]
    exact h1
  · obtain ⟨c, e1, e2⟩ := h3 pos cv hc
    refine ⟨c, e1, ?_⟩
    rw [upd_ne (ne_of e2 h (fun z => by unfold LamX.CodeO at z; exact nx _ z.symm))]
    exact e2, fun k t q hq => by
  obtain ⟨ps, h1, h2, h3⟩ := t q hq
  exact ⟨ps, k _ _ h1 (.inl ⟨_, rfl⟩), h2, fun pos cv hc => let ⟨c, e1, e2⟩ := h3 pos cv hc; ⟨c, e1, k _ _ e2 (.inr ⟨_, rfl⟩)⟩⟩⟩
/-- T tells the table at P, whose one name is q -/
structure TabI.Has (T : TabI) (P : Addr) (q : Str) : Prop where
  to : ∀ H, T.P H → LamX.Tabs [(P, q)] H
  of : ∀ H H2, T.P H → LamX.ExtN H H2 → LamX.Tabs [(P, q)] H2 → T.P H2
theorem tabL_has {P : Addr} {q : Str} : (tabL [(P, q)]).Has P q := ⟨fun _ h => h, fun _ _ _ _ h => h⟩
/-! ### the relation -/
section
variable (K : PySem.W.Frag) (T : TabI) (α : Nat → Addr) (F H : Hp)
def VR (L : Nat) : Val → V → Prop
  | .pd d, v => Dp K F v d
  | .cell n, v => n < L ∧ v = .ref (α n)
  | .ty n, v => v = .ty n
  | .ob o, v => o.φ F v
structure SR (L : Nat) (ss : SS) (σ : L2.St) : Prop where
  len : ss.length = σ.length
  at_ : ∀ (i : Nat) (x : Val), ss[i]? = some (some x) → ∃ v, σ[i]? = some (some v) ∧ VR K α F L x v
inductive VRs (L : Nat) : List Val → List V → Prop
  | nil : VRs L [] []
  | cons {x v xs vs} : VR K α F L x v → VRs L xs vs → VRs L (x :: xs) (v :: vs)
inductive FRs (L : Nat) : List (Str × Val) → List (Str × V) → Prop
  | nil : FRs L [] []
  | cons {f x v xs vs} : VR K α F L x v → FRs L xs vs → FRs L ((f, x) :: xs) ((f, v) :: vs)
/-- what lies at a for a cell -/
def CR (L : Nat) (a : Addr) : Cell → Prop
  | .mu xs => F a = none ∧ ∃ vs, H a = some (.lst vs) ∧ DpAll K F vs xs
  | .fr xs => ∃ vs, F a = some (.lst vs) ∧ DpAll K F vs xs
  | .ml xs => F a = none ∧ ∃ vs, H a = some (.lst vs) ∧ VRs K α F L xs vs
  | .ins C fs => F a = none ∧ ∃ dx vs, H a = some (.ins C dx vs) ∧ FRs K α F L fs vs
  | .gone => ∃ o, F a = some o
  | .pin vs xs => F a = none ∧ H a = some (.lst vs) ∧ DpAll K F vs xs
structure Rel (st : Sto) : Prop where
  sub : Same F H
  nt : ∀ a ps, F a ≠ some (.tbl ps)
  tab : T.P H
  at_ : ∀ (n : Nat) (c : Cell), st[n]? = some c → CR K α F H st.length (α n) c
  inj : ∀ (n m : Nat) (c d : Cell), st[n]? = some c → st[m]? = some d → c.live → d.live → α n = α m → n = m
end
structure Nx (α : Nat → Addr) (F : Hp) (L : Nat) (α' : Nat → Addr) (F' : Hp) (L' : Nat) : Prop where
  sub : Same F F'
  le : L ≤ L'
  ag : ∀ n, n < L → α' n = α n
theorem Nx.refl {α : Nat → Addr} {F : Hp} {L : Nat} : Nx α F L α F L := ⟨Same.refl F, Nat.le_refl _, fun _ _ => rfl⟩
theorem Nx.trans {α α1 α2 : Nat → Addr} {F F1 F2 : Hp} {L L1 L2 : Nat} (a : Nx α F L α1 F1 L1) (b : Nx α1 F1 L1 α2 F2 L2) : Nx α F L α2 F2 L2 :=
  ⟨a.sub.trans b.sub, Nat.le_trans a.le b.le, fun n h => (b.ag n (Nat.lt_of_lt_of_le h a.le)).trans (a.ag n h)⟩

section
variable {K : PySem.W.Frag} {T : TabI} {α α' : Nat → Addr} {F F' H H' : Hp} {L L' : Nat} {st : Sto} {ss : SS} {σ : L2.St}
theorem VR.mono (n : Nx α F L α' F' L') : ∀ {x : Val} {v : V}, VR K α F L x v → VR K α' F' L' x v
  | .pd _, _, h => dpm n.sub h
  | .cell m, _, ⟨h, e⟩ => ⟨Nat.lt_of_lt_of_le h n.le, by rw [n.ag m h]; exact e⟩
  | .ty _, _, h => h
  | .ob o, _, h => o.mono n.sub h
theorem FRs.mono (n : Nx α F L α' F' L') : ∀ {fs : List (Str × Val)} {vs : List (Str × V)}, FRs K α F L fs vs → FRs K α' F' L' fs vs
  | _, _, .nil => .nil
  | _, _, .cons h t => .cons (h.mono n) (FRs.mono n t)
theorem Rel.mu (r : Rel K T α F H st) (n : Nat) (xs : List PyData) (e : st[n]? = some (.mu xs)) : F (α n) = none ∧ ∃ vs, H (α n) = some (.lst vs) ∧ DpAll K F vs xs := r.at_ n _ e
theorem Rel.fr (r : Rel K T α F H st) (n : Nat) (xs : List PyData) (e : st[n]? = some (.fr xs)) : ∃ vs, F (α n) = some (.lst vs) ∧ DpAll K F vs xs := r.at_ n _ e
theorem Rel.ml (r : Rel K T α F H st) (n : Nat) (xs : List Val) (e : st[n]? = some (.ml xs)) : F (α n) = none ∧ ∃ vs, H (α n) = some (.lst vs) ∧ VRs K α F st.length xs vs := r.at_ n _ e
theorem Rel.ins (r : Rel K T α F H st) (n : Nat) (C : Addr) (fs : List (Str × Val)) (e : st[n]? = some (.ins C fs)) : F (α n) = none ∧ ∃ dx vs, H (α n) = some (.ins C dx vs) ∧ FRs K α F st.length fs vs := r.at_ n _ e
/-- a live cell stands apart from what never changes -/
theorem CR.off {a : Addr} {c : Cell} (l : c.live) (h : CR K α F H L a c) : F a = none := by
  cases c with
  | mu xs => exact h.1
  | fr xs => cases l
  | ml xs => exact h.1
  | ins C fs => exact h.1
  | gone => cases l
  | pin vs xs => exact h.1
theorem CR.on {a : Addr} {c : Cell} (h : CR K α F H L a c) (s : Same F H) : ∃ o, H a = some o := by
  cases c with
  | mu xs => exact ⟨_, h.2.choose_spec.1⟩
  | fr xs => exact ⟨_, s _ _ h.choose_spec.1⟩
  | ml xs => exact ⟨_, h.2.choose_spec.1⟩
  | ins C fs => exact ⟨_, h.2.choose_spec.choose_spec.1⟩
  | gone => exact ⟨_, s _ _ h.choose_spec⟩
  | pin vs xs => exact ⟨_, h.2.1⟩
theorem SR.mono (n : Nx α F L α' F' L') (h : SR K α F L ss σ) : SR K α' F' L' ss σ :=
  ⟨h.len, fun i x e => let ⟨v, e1, e2⟩ := h.at_ i x e; ⟨v, e1, e2.mono n⟩⟩
theorem VRs.len : ∀ {xs : List Val} {vs : List V}, VRs K α F L xs vs → xs.length = vs.length
  | _, _, .nil => rfl
  | _, _, .cons _ t => congrArg (· + 1) t.len
theorem VRs.app : ∀ {xs ys : List Val} {vs ws : List V}, VRs K α F L xs vs → VRs K α F L ys ws → VRs K α F L (xs ++ ys) (vs ++ ws)
  | _, _, _, _, .nil, t => t
  | _, _, _, _, .cons h r, t => .cons h (r.app t)
theorem SR.set (h : SR K α F L ss σ) {x : Val} {v : V} (i : Nat) (r : VR K α F L x v) : SR K α F L (ss.set i (some x)) (σ.set i (some v)) := by
  refine ⟨by rw [List.length_set, List.length_set]; exact h.len, fun j y e => ?_⟩
  by_cases hj : i = j
  · subst hj
    by_cases hi : i < ss.length
    · rw [List.getElem?_set_self hi] at e
      cases e
      exact ⟨v, List.getElem?_set_self (by rw [← h.len]; exact hi), r⟩
    · rw [List.getElem?_eq_none (by rw [List.length_set]; omega)] at e
      cases e
  · rw [List.getElem?_set_ne hj] at e ⊢
    exact h.at_ j y e
theorem SR.setNone (h : SR K α F L ss σ) (i : Nat) : SR K α F L (ss.set i none) (σ.set i none) := by
  refine ⟨by rw [List.length_set, List.length_set]; exact h.len, fun j y e => ?_⟩
  by_cases hj : i = j
  · subst hj
    by_cases hi : i < ss.length
    · rw [List.getElem?_set_self hi] at e
      cases e
    · rw [List.getElem?_eq_none (by rw [List.length_set]; omega)] at e
      cases e
  · rw [List.getElem?_set_ne hj] at e ⊢
    exact h.at_ j y e
theorem VRs.mono (n : Nx α F L α' F' L') : ∀ {xs : List Val} {vs : List V}, VRs K α F L xs vs → VRs K α' F' L' xs vs
  | _, _, .nil => .nil
  | _, _, .cons h t => .cons (h.mono n) (VRs.mono n t)
/-- a cell's thing is the same, the rest has grown -/
theorem CR.move {a : Addr} {c : Cell} (h : CR K α F H L a c) (n : Nx α F L α' F' L') (eF : c.live → F a = none → F' a = none) (eH : c.live → ∀ o, (∀ ps, o ≠ .tbl ps) → H a = some o → H' a = some o) : CR K α' F' H' L' a c := by
  cases c with
  | mu xs => exact let ⟨h1, vs, h2, h3⟩ := h; ⟨eF trivial h1, vs, eH trivial _ (fun ps z => by cases z) h2, dpsm n.sub h3⟩
  | fr xs => exact let ⟨vs, h2, h3⟩ := h; ⟨vs, n.sub _ _ h2, dpsm n.sub h3⟩
  | ml xs => exact let ⟨h1, vs, h2, h3⟩ := h; ⟨eF trivial h1, vs, eH trivial _ (fun ps z => by cases z) h2, h3.mono n⟩
  | ins C fs => exact let ⟨h1, dx, vs, h2, h3⟩ := h; ⟨eF trivial h1, dx, vs, eH trivial _ (fun ps z => by cases z) h2, h3.mono n⟩
  | gone => exact let ⟨o, e⟩ := h; ⟨o, n.sub _ _ e⟩
  | pin vs xs => exact let ⟨h1, h2, h3⟩ := h; ⟨eF trivial h1, eH trivial _ (fun ps z => by cases z) h2, dpsm n.sub h3⟩
theorem Rel.grow (r : Rel K T α F H st) (s : Same H H') (t : T.P H') : Rel K T α F H' st :=
  ⟨r.sub.trans s, r.nt, t, fun n c e => (r.at_ n c e).move Nx.refl (fun _ h => h) fun _ o _ h => s _ _ h, r.inj⟩
theorem same_upd {p : Addr} {o : HO} (h : H p = none) : Same H (upd H p o) := fun b x e => by
  rw [upd_ne (ne_of_none e h)]
  exact e
theorem none_of (r : Rel K T α F H st) {p : Addr} (h : H p = none) : F p = none := r.sub.free h
/-- a new immutable thing -/
theorem Rel.new {p : Addr} {o : HO} (r : Rel K T α F H st) (h : H p = none) (no : ∀ ps, o ≠ .tbl ps) : Rel K T α (upd F p o) (upd H p o) st := by
  have hF := none_of r h
  have sF : Same F (upd F p o) := same_upd hF
  refine ⟨fun b x e => ?_, fun b ps e => ?_, T.ext (same_upd h) r.tab, fun n c e => ?_, r.inj⟩
  · by_cases hb : b = p
    · subst hb
      rw [upd_same] at e ⊢
      exact e
    · rw [upd_ne hb] at e ⊢
      exact r.sub _ _ e
  · by_cases hb : b = p
    · subst hb
      rw [upd_same] at e
      exact no ps (Option.some.inj e)
    · rw [upd_ne hb] at e
      exact r.nt b ps e
  · have hc := r.at_ n c e
    have ne : α n ≠ p := fun z => by
      obtain ⟨o', h'⟩ := hc.on r.sub
      rw [z, h] at h'
      cases h'
    exact hc.move ⟨sF, Nat.le_refl _, fun _ _ => rfl⟩ (fun _ h1 => by rw [upd_ne ne]; exact h1) fun _ o _ h1 => by rw [upd_ne ne]; exact h1
theorem Nx.new {p : Addr} {o : HO} (h : F p = none) : Nx α F L α (upd F p o) L := ⟨same_upd h, Nat.le_refl _, fun _ _ => rfl⟩
/-- a new cell -/
def ext (α : Nat → Addr) (n : Nat) (p : Addr) : Nat → Addr := fun m => if m = n then p else α m
theorem ext_same {n : Nat} {p : Addr} : ext α n p n = p := by unfold ext; rw [if_pos rfl]
theorem ext_ne {n m : Nat} {p : Addr} (h : m ≠ n) : ext α n p m = α m := by unfold ext; rw [if_neg h]
theorem Nx.ext {p : Addr} : Nx α F L (ext α L p) F (L + 1) := ⟨Same.refl F, Nat.le_succ _, fun n h => ext_ne (Nat.ne_of_lt h)⟩
theorem get_app {c : Cell} {n : Nat} {x : Cell} (e : (st ++ [c])[n]? = some x) : (n = st.length ∧ x = c) ∨ (n < st.length ∧ st[n]? = some x) := by
  by_cases h : n < st.length
  · rw [List.getElem?_append_left h] at e
    exact .inr ⟨h, e⟩
  · rw [List.getElem?_append_right (by omega)] at e
    by_cases h2 : n - st.length = 0
    · rw [h2] at e
      simp at e
      exact .inl ⟨by omega, e.symm⟩
    · obtain ⟨k, hk⟩ : ∃ k, n - st.length = k + 1 := ⟨n - st.length - 1, by omega⟩
      rw [hk] at e
      simp at e
/-- a new cell of any kind -/
theorem Rel.cellG {p : Addr} {o : HO} {c : Cell} (r : Rel K T α F H st) (h : H p = none) (d : CR K (ext α st.length p) F (upd H p o) (st.length + 1) p c) (no : ∀ ps, o ≠ .tbl ps) : Rel K T (ext α st.length p) F (upd H p o) (st ++ [c]) := by
  have sH : Same H (upd H p o) := same_upd h
  have len : (st ++ [c]).length = st.length + 1 := by simp
  have ne : ∀ n x, st[n]? = some x → α n ≠ p := fun n x e z => by
    obtain ⟨o', h'⟩ := (r.at_ n x e).on r.sub
    rw [z, h] at h'
    cases h'
  refine ⟨r.sub.trans sH, r.nt, T.ext sH r.tab, fun n x e => ?_, fun n m x y e1 e2 l1 l2 e => ?_⟩
  · rw [len]
    rcases get_app e with ⟨rfl, q⟩ | ⟨hl, q⟩
    · rw [q, ext_same]
      exact d
    · rw [ext_ne (Nat.ne_of_lt hl)]
      exact (r.at_ n x q).move Nx.ext (fun _ h => h) fun _ o _ h1 => sH _ _ h1
  · rcases get_app e1 with ⟨h1, q1⟩ | ⟨h1, q1⟩ <;> rcases get_app e2 with ⟨h2, q2⟩ | ⟨h2, q2⟩
    · omega
    · subst h1
      rw [ext_same, ext_ne (Nat.ne_of_lt h2)] at e
      exact absurd e.symm (ne m _ q2)
    · subst h2
      rw [ext_same, ext_ne (Nat.ne_of_lt h1)] at e
      exact absurd e (ne n _ q1)
    · rw [ext_ne (Nat.ne_of_lt h1), ext_ne (Nat.ne_of_lt h2)] at e
      exact r.inj n m x y q1 q2 l1 l2 e
theorem Rel.cell {p : Addr} {vs : List V} {xs : List PyData} (r : Rel K T α F H st) (h : H p = none) (d : DpAll K F vs xs) : Rel K T (ext α st.length p) F (upd H p (.lst vs)) (st ++ [.mu xs]) :=
  r.cellG h ⟨none_of r h, vs, upd_same, d⟩ fun ps z => by cases z
theorem get_set {n m : Nat} {c x : Cell} (e : (st.set n c)[m]? = some x) : (m = n ∧ x = c) ∨ (m ≠ n ∧ st[m]? = some x) := by
  by_cases h : n = m
  · subst h
    by_cases hl : n < st.length
    · rw [List.getElem?_set_self hl] at e
      exact .inl ⟨rfl, (Option.some.inj e).symm⟩
    · rw [List.getElem?_eq_none (by rw [List.length_set]; omega)] at e
      cases e
  · rw [List.getElem?_set_ne h] at e
    exact .inr ⟨fun z => h z.symm, e⟩
/-- a cell is written -/
theorem Rel.writeG {n : Nat} {c0 c : Cell} {u o : HO} (r : Rel K T α F H st) (h : st[n]? = some c0) (l0 : c0.live) (hu : H (α n) = some u) (nt : ∀ ps, u ≠ .tbl ps) (nx : ∀ φ, u ≠ .ext φ) (d : CR K α F (upd H (α n) o) st.length (α n) c) : Rel K T α F (upd H (α n) o) (st.set n c) := by
  have h1 := (r.at_ n _ h).off l0
  refine ⟨fun b x e => ?_, r.nt, T.write hu nt nx r.tab, fun m x e => ?_, fun m k x y e1 e2 l1 l2 e => ?_⟩
  · rw [upd_ne (ne_of_none e h1)]
    exact r.sub _ _ e
  · rw [List.length_set]
    rcases get_set e with ⟨rfl, q⟩ | ⟨hn, q⟩
    · rw [q]
      exact d
    · have ne : x.live → α m ≠ α n := fun l z => hn (r.inj m n _ _ q h l l0 z)
      exact (r.at_ m x q).move Nx.refl (fun _ h => h) fun l o _ h1 => by rw [upd_ne (ne l)]; exact h1
  · have f : ∀ {m : Nat} {x : Cell}, (st.set n c)[m]? = some x → x.live → ∃ y, st[m]? = some y ∧ y.live := fun {m x} e l => by
      rcases get_set e with ⟨rfl, _⟩ | ⟨_, q⟩
      · exact ⟨c0, h, l0⟩
      · exact ⟨x, q, l⟩
    obtain ⟨a1, b1, d1⟩ := f e1 l1
    obtain ⟨a2, b2, d2⟩ := f e2 l2
    exact r.inj m k _ _ b1 b2 d1 d2 e
theorem Rel.write {n : Nat} {xs ys : List PyData} {ws : List V} (r : Rel K T α F H st) (h : st[n]? = some (.mu xs)) (d : DpAll K F ws ys) : Rel K T α F (upd H (α n) (.lst ws)) (st.set n (.mu ys)) := by
  obtain ⟨h1, vs, h2, h3⟩ := r.mu n xs h
  exact r.writeG h trivial h2 (fun ps z => by cases z) (fun ps z => by cases z) ⟨h1, ws, upd_same, d⟩
/-- a cell is frozen: its thing goes over to what never changes -/
theorem Rel.freezeG {n : Nat} {c0 c : Cell} {o : HO} (r : Rel K T α F H st) (h : st[n]? = some c0) (l0 : c0.live) (h2 : H (α n) = some o) (no : ∀ ps, o ≠ .tbl ps) (lc : ¬ c.live) (hc : ∀ F', Same F F' → F' (α n) = some o → CR K α F' H st.length (α n) c) :
    Rel K T α (upd F (α n) o) H (st.set n c) := by
  have h1 := (r.at_ n _ h).off l0
  have sF : Same F (upd F (α n) o) := same_upd h1
  refine ⟨fun b x e => ?_, fun b ps e => ?_, r.tab, fun m x e => ?_, fun m k x y e1 e2 l1 l2 e => ?_⟩
  · by_cases hb : b = α n
    · subst hb
      rw [upd_same] at e
      rw [h2]
      exact e
    · rw [upd_ne hb] at e
      exact r.sub _ _ e
  · by_cases hb : b = α n
    · subst hb
      rw [upd_same] at e
      exact no ps (Option.some.inj e)
    · rw [upd_ne hb] at e
      exact r.nt b ps e
  · rw [List.length_set]
    rcases get_set e with ⟨rfl, q⟩ | ⟨hn, q⟩
    · rw [q]
      exact hc _ sF upd_same
    · exact (r.at_ m x q).move ⟨sF, Nat.le_refl _, fun _ _ => rfl⟩ (fun l h => by rw [upd_ne (fun z => hn (r.inj m n _ _ q ‹_› l l0 z))]; exact h) fun _ o _ h1 => h1
  · rcases get_set e1 with ⟨_, q⟩ | ⟨_, q1⟩
    · rw [q] at l1
      exact absurd l1 lc
    · rcases get_set e2 with ⟨_, q⟩ | ⟨_, q2⟩
      · rw [q] at l2
        exact absurd l2 lc
      · exact r.inj m k _ _ q1 q2 l1 l2 e
theorem Rel.freeze {n : Nat} {xs : List PyData} (r : Rel K T α F H st) (h : st[n]? = some (.mu xs)) :
    ∃ F', Rel K T α F' H (st.set n (.fr xs)) ∧ Nx α F st.length α F' st.length ∧ Dp K F' (.ref (α n)) (.list xs) := by
  obtain ⟨h1, vs, h2, h3⟩ := r.mu n xs h
  have sF : Same F (upd F (α n) (.lst vs)) := same_upd h1
  have at_ : upd F (α n) (HO.lst vs) (α n) = some (.lst vs) := upd_same
  exact ⟨upd F (α n) (.lst vs), r.freezeG h trivial h2 (fun ps z => by cases z) (fun z => z) fun F' s e => ⟨vs, e, dpsm s h3⟩, ⟨sF, Nat.le_refl _, fun _ _ => rfl⟩, .lst (.inl (.inl at_)) (dpsm sF h3)⟩
/-- back to the store of the start: what it holds does not know the later cells -/
theorem VR.back : ∀ {x : Val} {v w : V}, VR K α F L x v → VR K α' F' L' x w → VR K α' F' L x w
  | .pd _, _, _, _, h => h
  | .cell _, _, _, ⟨h, _⟩, ⟨_, e⟩ => ⟨h, e⟩
  | .ty _, _, _, _, h => h
  | .ob _, _, _, _, h => h
theorem VRs.back : ∀ {xs : List Val} {vs ws : List V}, VRs K α F L xs vs → VRs K α' F' L' xs ws → VRs K α' F' L xs ws
  | _, _, _, .nil, .nil => .nil
  | _, _, _, .cons h t, .cons h' t' => .cons (h.back h') (t.back t')
theorem FRs.back : ∀ {fs : List (Str × Val)} {vs ws : List (Str × V)}, FRs K α F L fs vs → FRs K α' F' L' fs ws → FRs K α' F' L fs ws
  | _, _, _, .nil, .nil => .nil
  | _, _, _, .cons h t, .cons h' t' => .cons (h.back h') (t.back t')
theorem CR.back {a b : Addr} {c : Cell} (h0 : CR K α F H L a c) (h : CR K α' F' H' L' b c) : CR K α' F' H' L b c := by
  cases c with
  | mu xs => exact h
  | fr xs => exact h
  | ml xs => exact let ⟨h1, vs, h2, h3⟩ := h; ⟨h1, vs, h2, h0.2.choose_spec.2.back h3⟩
  | ins C fs => exact let ⟨h1, dx, vs, h2, h3⟩ := h; ⟨h1, dx, vs, h2, h0.2.choose_spec.choose_spec.2.back h3⟩
  | gone => exact h
  | pin vs xs => exact h
theorem Rel.back {st0 : Sto} (r : Rel K T α' F' H' st) (r0 : Rel K T α F H st0) (e : st.take st0.length = st0) : Rel K T α' F' H' st0 := by
  have f : ∀ {n : Nat} {c : Cell}, st0[n]? = some c → st[n]? = some c := fun {n c} q => by
    rw [← e, List.getElem?_take] at q
    split at q
    · exact q
    · cases q
  exact ⟨r.sub, r.nt, r.tab, fun n c q => (r0.at_ n c q).back (r.at_ n c (f q)), fun n k x y e1 e2 l1 l2 z => r.inj n k x y (f e1) (f e2) l1 l2 z⟩
end
end Ct

/-! CtB: the judgements and their rules. -/
namespace Ct
open PySem L2

section
variable (K : PySem.W.Frag) (T : TabI)
def WE (te : TE) (ss : SS) (st : Sto) (Φ : Val → Sto → Prop) : Prop :=
  ∀ (α : Nat → Addr) (F H : Hp) (σ : L2.St), Rel K T α F H st → SR K α F st.length ss σ → ∀ Q : VK, (∀ (α' : Nat → Addr) (F' H' : Hp) (v : V) (x : Val) (st' : Sto), Nx α F st.length α' F' st'.length → Rel K T α' F' H' st' → VR K α' F' st'.length x v → Φ x st' → Q v H') → te σ H Q
def WT (tt : TT) (ss : SS) (st : Sto) (Φ : Bool → Sto → Prop) : Prop :=
  ∀ (α : Nat → Addr) (F H : Hp) (σ : L2.St), Rel K T α F H st → SR K α F st.length ss σ → ∀ Q : Bool → Hp → Prop, (∀ (α' : Nat → Addr) (F' H' : Hp) (b : Bool) (st' : Sto), Nx α F st.length α' F' st'.length → Rel K T α' F' H' st' → Φ b st' → Q b H') → tt σ H Q
def WA (ta : TA) (ss : SS) (st : Sto) (Φ : List Val → Sto → Prop) : Prop :=
  ∀ (α : Nat → Addr) (F H : Hp) (σ : L2.St), Rel K T α F H st → SR K α F st.length ss σ → ∀ Q : List V → Hp → Prop, (∀ (α' : Nat → Addr) (F' H' : Hp) (vs : List V) (xs : List Val) (st' : Sto), Nx α F st.length α' F' st'.length → Rel K T α' F' H' st' → VRs K α' F' st'.length xs vs → Φ xs st' → Q vs H') → ta σ H Q
def WO (to : TO) (ss : SS) (st : Sto) (Φ : Option Int → Sto → Prop) : Prop :=
  ∀ (α : Nat → Addr) (F H : Hp) (σ : L2.St), Rel K T α F H st → SR K α F st.length ss σ → ∀ Q : Option Int → Hp → Prop, (∀ (α' : Nat → Addr) (F' H' : Hp) (o : Option Int) (st' : Sto), Nx α F st.length α' F' st'.length → Rel K T α' F' H' st' → Φ o st' → Q o H') → to σ H Q
def WR (r : R2) (x y : Val) (st : Sto) (Φ : Val → Sto → Prop) : Prop :=
  ∀ (α : Nat → Addr) (F H : Hp) (vx vy : V), Rel K T α F H st → VR K α F st.length x vx → VR K α F st.length y vy → ∀ Q : VK, (∀ (α' : Nat → Addr) (F' H' : Hp) (v : V) (z : Val) (st' : Sto), Nx α F st.length α' F' st'.length → Rel K T α' F' H' st' → VR K α' F' st'.length z v → Φ z st' → Q v H') → r vx vy H Q
def WU (r : V → Hp → VK → Prop) (x : Val) (st : Sto) (Φ : Val → Sto → Prop) : Prop :=
  ∀ (α : Nat → Addr) (F H : Hp) (vx : V), Rel K T α F H st → VR K α F st.length x vx → ∀ Q : VK, (∀ (α' : Nat → Addr) (F' H' : Hp) (v : V) (z : Val) (st' : Sto), Nx α F st.length α' F' st'.length → Rel K T α' F' H' st' → VR K α' F' st'.length z v → Φ z st' → Q v H') → r vx H Q
def WC (r : List V → Hp → VK → Prop) (xs : List Val) (st : Sto) (Φ : Val → Sto → Prop) : Prop :=
  ∀ (α : Nat → Addr) (F H : Hp) (vs : List V), Rel K T α F H st → VRs K α F st.length xs vs → ∀ Q : VK, (∀ (α' : Nat → Addr) (F' H' : Hp) (v : V) (z : Val) (st' : Sto), Nx α F st.length α' F' st'.length → Rel K T α' F' H' st' → VR K α' F' st'.length z v → Φ z st' → Q v H') → r vs H Q
def WM (r : V → List V → Hp → VK → Prop) (x : Val) (xs : List Val) (st : Sto) (Φ : Val → Sto → Prop) : Prop :=
  ∀ (α : Nat → Addr) (F H : Hp) (vx : V) (vs : List V), Rel K T α F H st → VR K α F st.length x vx → VRs K α F st.length xs vs → ∀ Q : VK, (∀ (α' : Nat → Addr) (F' H' : Hp) (v : V) (z : Val) (st' : Sto), Nx α F st.length α' F' st'.length → Rel K T α' F' H' st' → VR K α' F' st'.length z v → Φ z st' → Q v H') → r vx vs H Q
def WX (t : TSet) (o i x : Val) (st : Sto) (Φ : Sto → Prop) : Prop :=
  ∀ (α : Nat → Addr) (F H : Hp) (vo vi vx : V), Rel K T α F H st → VR K α F st.length o vo → VR K α F st.length i vi → VR K α F st.length x vx → ∀ Q : Hp → Prop, (∀ (α' : Nat → Addr) (F' H' : Hp) (st' : Sto), Nx α F st.length α' F' st'.length → Rel K T α' F' H' st' → Φ st' → Q H') → t vo vi vx H Q
def WG (g : TG) (x : Val) (ss : SS) (st : Sto) (Φ : SS → Sto → Prop) : Prop :=
  ∀ (α : Nat → Addr) (F H : Hp) (σ : L2.St) (v : V), Rel K T α F H st → SR K α F st.length ss σ → VR K α F st.length x v → ∀ Q : L2.St → Hp → Prop, (∀ (α' : Nat → Addr) (F' H' : Hp) (σ' : L2.St) (ss' : SS) (st' : Sto), Nx α F st.length α' F' st'.length → Rel K T α' F' H' st' → SR K α' F' st'.length ss' σ' → Φ ss' st' → Q σ' H') → g v σ H Q
def WGs (g : TGs) (xs : List Val) (ss : SS) (st : Sto) (Φ : SS → Sto → Prop) : Prop :=
  ∀ (α : Nat → Addr) (F H : Hp) (σ : L2.St) (vs : List V), Rel K T α F H st → SR K α F st.length ss σ → VRs K α F st.length xs vs → ∀ Q : L2.St → Hp → Prop, (∀ (α' : Nat → Addr) (F' H' : Hp) (σ' : L2.St) (ss' : SS) (st' : Sto), Nx α F st.length α' F' st'.length → Rel K T α' F' H' st' → SR K α' F' st'.length ss' σ' → Φ ss' st' → Q σ' H') → g vs σ H Q
end
structure Po where
  nx : SS → Sto → Prop
  rt : Val → Sto → Prop
  bk : SS → Sto → Prop
  ct : SS → Sto → Prop
section
variable (K : PySem.W.Frag) (T : TabI)
structure Ok (α : Nat → Addr) (F : Hp) (L : Nat) (P : Po) (D : Ends) : Prop where
  nx : ∀ (α' : Nat → Addr) (F' H' : Hp) (σ' : L2.St) (ss' : SS) (st' : Sto), Nx α F L α' F' st'.length → Rel K T α' F' H' st' → SR K α' F' st'.length ss' σ' → P.nx ss' st' → D.nx σ' H'
  rt : ∀ (α' : Nat → Addr) (F' H' : Hp) (v : V) (x : Val) (st' : Sto), Nx α F L α' F' st'.length → Rel K T α' F' H' st' → VR K α' F' st'.length x v → P.rt x st' → D.rt v H'
  bk : ∀ (α' : Nat → Addr) (F' H' : Hp) (σ' : L2.St) (ss' : SS) (st' : Sto), Nx α F L α' F' st'.length → Rel K T α' F' H' st' → SR K α' F' st'.length ss' σ' → P.bk ss' st' → D.bk σ' H'
  ct : ∀ (α' : Nat → Addr) (F' H' : Hp) (σ' : L2.St) (ss' : SS) (st' : Sto), Nx α F L α' F' st'.length → Rel K T α' F' H' st' → SR K α' F' st'.length ss' σ' → P.ct ss' st' → D.ct σ' H'
def WS (ts : TS) (ss : SS) (st : Sto) (P : Po) : Prop :=
  ∀ (α : Nat → Addr) (F H : Hp) (σ : L2.St), Rel K T α F H st → SR K α F st.length ss σ → ∀ D : Ends, Ok K T α F st.length P D → ts D σ H
end
section
variable {K : PySem.W.Frag} {T : TabI}
theorem Ok.mono {α α1 : Nat → Addr} {F F1 : Hp} {L L1 : Nat} {P : Po} {D : Ends} (n : Nx α F L α1 F1 L1) (o : Ok K T α F L P D) : Ok K T α1 F1 L1 P D :=
  ⟨fun _ _ _ _ _ _ m => o.nx _ _ _ _ _ _ (n.trans m), fun _ _ _ _ _ _ m => o.rt _ _ _ _ _ _ (n.trans m), fun _ _ _ _ _ _ m => o.bk _ _ _ _ _ _ (n.trans m), fun _ _ _ _ _ _ m => o.ct _ _ _ _ _ _ (n.trans m)⟩

variable {ss : SS} {st : Sto} {Φ : Val → Sto → Prop} {te ta tb tc : TE} {tt tu : TT} {P : Po}

/-! ### data and cells -/
/-- make plain data of a value: a cell is frozen -/
def pur : Val → Sto → Option (PyData × Sto)
  | .pd d, st => some (d, st)
  | .cell n, st => match st[n]? with
    | some (.mu xs) => some (.list xs, st.set n (.fr xs))
    | some (.fr xs) => some (.list xs, st)
    | _ => none
  | _, _ => none
def purs : List Val → Sto → Option (List PyData × Sto)
  | [], st => some ([], st)
  | x :: xs, st => (pur x st).bind fun p => (purs xs p.2).bind fun q => some (p.1 :: q.1, q.2)
/-- what a value shows -/
def look : Val → Sto → Option PyData
  | .pd d, _ => some d
  | .cell n, st => match st[n]? with
    | some (.mu xs) => some (.list xs)
    | some (.fr xs) => some (.list xs)
    | some (.pin _ xs) => some (.list xs)
    | _ => none
  | _, _ => none
theorem pur_ok {α : Nat → Addr} {F H : Hp} {x : Val} {v : V} {d : PyData} {st' : Sto} (r : Rel K T α F H st) (hv : VR K α F st.length x v) (e : pur x st = some (d, st')) :
    ∃ F', Rel K T α F' H st' ∧ Nx α F st.length α F' st'.length ∧ Dp K F' v d := by
  cases x with
  | pd d0 =>
    cases e
    exact ⟨F, r, Nx.refl, hv⟩
  | cell n =>
    obtain ⟨hn, rfl⟩ := hv
    dsimp only [pur] at e
    split at e
    · rename_i xs h
      cases e
      obtain ⟨F', r', n', d'⟩ := r.freeze h
      exact ⟨F', r', by rw [List.length_set]; exact n', d'⟩
    · rename_i xs h
      cases e
      obtain ⟨vs, h1, h2⟩ := r.fr n _ h
      exact ⟨F, r, Nx.refl, .lst (.inl (.inl h1)) h2⟩
    · cases e
  | ty n => cases e
  | ob o => cases e
theorem purs_ok {α : Nat → Addr} {H : Hp} : ∀ {xs : List Val} {vs : List V} {F : Hp} {ds : List PyData} {st st' : Sto}, Rel K T α F H st → VRs K α F st.length xs vs → purs xs st = some (ds, st') →
    ∃ F', Rel K T α F' H st' ∧ Nx α F st.length α F' st'.length ∧ DpAll K F' vs ds
  | [], _, F, _, st, _, r, .nil, e => by
    cases e
    exact ⟨F, r, Nx.refl, .nil⟩
  | x :: xs, _, F, ds, st, st', r, .cons h t, e => by
    unfold purs at e
    rw [Option.bind_eq_some_iff] at e
    obtain ⟨⟨d, st1⟩, e1, e⟩ := e
    rw [Option.bind_eq_some_iff] at e
    obtain ⟨⟨es, st2⟩, e2, e⟩ := e
    cases e
    obtain ⟨F1, r1, n1, d1⟩ := pur_ok r h e1
    obtain ⟨F2, r2, n2, d2⟩ := purs_ok r1 (t.mono n1) e2
    exact ⟨F2, r2, n1.trans n2, .cons (dpm n2.sub d1) d2⟩
/-- a value's data, read in the whole heap -/
theorem look_ok {α : Nat → Addr} {F H : Hp} {x : Val} {v : V} {d : PyData} (r : Rel K T α F H st) (hv : VR K α F st.length x v) (e : look x st = some d) : Dp K H v d := by
  cases x with
  | pd d0 =>
    cases e
    exact dpm r.sub hv
  | cell n =>
    obtain ⟨hn, rfl⟩ := hv
    dsimp only [look] at e
    split at e
    · rename_i xs h
      cases e
      obtain ⟨h1, vs, h2, h3⟩ := r.mu n _ h
      exact .lst (.inl (.inl h2)) (dpsm r.sub h3)
    · rename_i xs h
      cases e
      obtain ⟨vs, h1, h2⟩ := r.fr n _ h
      exact .lst (.inl (.inl (r.sub _ _ h1))) (dpsm r.sub h2)
    · rename_i vs xs h
      cases e
      obtain ⟨_, h2, h3⟩ := r.at_ n _ h
      exact .lst (.inl (.inl h2)) (dpsm r.sub h3)
    · cases e
  | ty n => cases e
  | ob o => cases e
/-- a list's items: the list in the whole heap, its items plain data -/
theorem look_lst {α : Nat → Addr} {F H : Hp} {x : Val} {v : V} {ds : List PyData} (r : Rel K T α F H st) (hv : VR K α F st.length x v) (e : look x st = some (.list ds)) : ∃ a vs, v = .ref a ∧ SqL K H a vs ∧ DpAll K F vs ds := by
  cases x with
  | pd d0 =>
    cases e
    obtain ⟨a, vs, rfl, h1, h2⟩ := dp_lst hv
    exact ⟨a, vs, rfl, r.sub.seq h1, h2⟩
  | cell n =>
    obtain ⟨hn, rfl⟩ := hv
    dsimp only [look] at e
    split at e
    · rename_i xs h
      cases e
      obtain ⟨h1, vs, h2, h3⟩ := r.mu n _ h
      exact ⟨_, vs, rfl, .inl (.inl h2), h3⟩
    · rename_i xs h
      cases e
      obtain ⟨vs, h1, h2⟩ := r.fr n _ h
      exact ⟨_, vs, rfl, .inl (.inl (r.sub _ _ h1)), h2⟩
    · rename_i vs xs h
      cases e
      obtain ⟨_, h2, h3⟩ := r.at_ n _ h
      exact ⟨_, vs, rfl, .inl (.inl h2), h3⟩
    · cases e
  | ty n => cases e
  | ob o => cases e

/-! ### expressions -/
theorem we_var {i : Nat} {x : Val} (h : ss[i]? = some (some x)) (q : Φ x st) : WE K T (tVar i) ss st Φ := fun α F H σ r s Q k =>
  let ⟨v, e, hv⟩ := s.at_ i x h
  ⟨v, e, k α F H v x st Nx.refl r hv q⟩
def vd : V → Option PyData
  | .non => some .none
  | .bl b => some (.bool b)
  | .int i => some (.int i)
  | .str x => some (.str x)
  | _ => none
theorem vd_ok {F : Hp} : ∀ {v : V} {d : PyData}, vd v = some d → Dp K F v d
  | .non, _, e => by cases e; exact .non
  | .bl b, _, e => by cases e; exact .bl b
  | .int i, _, e => by cases e; exact .int i
  | .str x, _, e => by cases e; exact .str x
theorem we_c {v : V} {d : PyData} (h : vd v = some d) (q : Φ (.pd d) st) : WE K T (tC v) ss st Φ := fun α F H σ r s Q k => k α F H v (.pd d) st Nx.refl r (vd_ok h) q
theorem we_ty {n : String} (q : Φ (.ty n) st) : WE K T (tC (.ty n)) ss st Φ := fun α F H σ r s Q k => k α F H (.ty n) (.ty n) st Nx.refl r rfl q
/-- make it plain -/
theorem we_pur (h : WE K T te ss st fun x st1 => ∃ d st2, pur x st1 = some (d, st2) ∧ Φ (.pd d) st2) : WE K T te ss st Φ := fun α F H σ r s Q k =>
  h α F H σ r s Q fun α1 F1 H1 v x st1 n1 r1 v1 ⟨d, st2, e, q⟩ => by
    obtain ⟨F2, r2, n2, d2⟩ := pur_ok r1 v1 e
    exact k α1 F2 H1 v (.pd d) st2 (n1.trans n2) r2 d2 q
theorem we_mono {Ψ : Val → Sto → Prop} (h : WE K T te ss st Ψ) (q : ∀ x st', Ψ x st' → Φ x st') : WE K T te ss st Φ := fun α F H σ r s Q k => h α F H σ r s Q fun α1 F1 H1 v x st1 n1 r1 v1 p => k α1 F1 H1 v x st1 n1 r1 v1 (q x st1 p)
theorem we_op {r : R2} (h : WE K T ta ss st fun x st1 => WE K T tb ss st1 fun y st2 => WR K T r x y st2 Φ) : WE K T (tOp r ta tb) ss st Φ := fun α F H σ rl s Q k =>
  h α F H σ rl s _ fun α1 F1 H1 vx x st1 n1 r1 v1 h1 => h1 α1 F1 H1 σ r1 (s.mono n1) _ fun α2 F2 H2 vy y st2 n2 r2 v2 h2 => h2 α2 F2 H2 vx vy r2 (v1.mono n2) v2 Q fun α3 F3 H3 v z st3 n3 => k α3 F3 H3 v z st3 (n1.trans (n2.trans n3))
theorem we_un {r : V → Hp → VK → Prop} (h : WE K T ta ss st fun x st1 => WU K T r x st1 Φ) : WE K T (tUn r ta) ss st Φ := fun α F H σ rl s Q k =>
  h α F H σ rl s _ fun α1 F1 H1 vx x st1 n1 r1 v1 h1 => h1 α1 F1 H1 vx r1 v1 Q fun α3 F3 H3 v z st3 n3 => k α3 F3 H3 v z st3 (n1.trans n3)
theorem wr_I0 {g : Int → Int → V} {i j : Int} {d : PyData} (h : vd (g i j) = some d) (q : Φ (.pd d) st) : WR K T (rI0 g) (.pd (.int i)) (.pd (.int j)) st Φ := fun α F H vx vy r hx hy Q k => by
  obtain rfl := dp_int hx
  obtain rfl := dp_int hy
  exact ⟨i, j, rfl, rfl, k α F H _ (.pd d) st Nx.refl r (vd_ok h) q⟩
theorem wr_I {C : Int → Int → Prop} {g : Int → Int → V} {i j : Int} {d : PyData} (hc : C i j) (h : vd (g i j) = some d) (q : Φ (.pd d) st) : WR K T (rI C g) (.pd (.int i)) (.pd (.int j)) st Φ := fun α F H vx vy r hx hy Q k => by
  obtain rfl := dp_int hx
  obtain rfl := dp_int hy
  exact ⟨i, j, rfl, rfl, hc, k α F H _ (.pd d) st Nx.refl r (vd_ok h) q⟩
theorem wu_neg {i : Int} (q : Φ (.pd (.int (-i))) st) : WU K T (rU fun i => .int (-i)) (.pd (.int i)) st Φ := fun α F H vx r hx Q k => by
  obtain rfl := dp_int hx
  exact ⟨i, rfl, k α F H _ (.pd _) st Nx.refl r (Dp.int _) q⟩
theorem wr_eqI {i j : Int} (q : Φ (.pd (.bool (decide (i = j)))) st) : WR K T rEq (.pd (.int i)) (.pd (.int j)) st Φ := fun α F H vx vy r hx hy Q k => by
  obtain rfl := dp_int hx
  obtain rfl := dp_int hy
  refine ⟨rfl, k α F H _ (.pd _) st Nx.refl r ?_ q⟩
  have e : decide (V.int i = V.int j) = decide (i = j) := by simp
  rw [e]
  exact Dp.bl _
theorem wr_neI {i j : Int} (q : Φ (.pd (.bool (!decide (i = j)))) st) : WR K T rNe (.pd (.int i)) (.pd (.int j)) st Φ := fun α F H vx vy r hx hy Q k => by
  obtain rfl := dp_int hx
  obtain rfl := dp_int hy
  refine ⟨rfl, k α F H _ (.pd _) st Nx.refl r ?_ q⟩
  have e : decide (V.int i = V.int j) = decide (i = j) := by simp
  rw [e]
  exact Dp.bl _
theorem wr_eqS {i j : Str} (q : Φ (.pd (.bool (decide (i = j)))) st) : WR K T rEq (.pd (.str i)) (.pd (.str j)) st Φ := fun α F H vx vy r hx hy Q k => by
  obtain rfl := dp_str hx
  obtain rfl := dp_str hy
  refine ⟨rfl, k α F H _ (.pd _) st Nx.refl r ?_ q⟩
  have e : decide (V.str i = V.str j) = decide (i = j) := by simp
  rw [e]
  exact Dp.bl _
theorem wr_neS {i j : Str} (q : Φ (.pd (.bool (!decide (i = j)))) st) : WR K T rNe (.pd (.str i)) (.pd (.str j)) st Φ := fun α F H vx vy r hx hy Q k => by
  obtain rfl := dp_str hx
  obtain rfl := dp_str hy
  refine ⟨rfl, k α F H _ (.pd _) st Nx.refl r ?_ q⟩
  have e : decide (V.str i = V.str j) = decide (i = j) := by simp
  rw [e]
  exact Dp.bl _
/-- an optional last line equal to a number -/
theorem wr_eqN {j : Int} (q : Φ (.pd (.bool false)) st) : WR K T rEq (.pd .none) (.pd (.int j)) st Φ := fun α F H vx vy r hx hy Q k => by
  obtain rfl := dp_non hx
  obtain rfl := dp_int hy
  exact ⟨rfl, k α F H _ (.pd _) st Nx.refl r (Dp.bl _) q⟩
theorem wr_eqD {x y : Val} {d e : PyData} (h1 : look x st = some d) (h2 : look y st = some e) (s1 : SeqAt.shaped d = true) (s2 : SeqAt.shaped e = true) (q : Φ (.pd (.bool (PyData.eqv d e))) st) : WR K T (rEqD K) x y st Φ := fun α F H vx vy r hx hy Q k =>
  ⟨d, e, look_ok r hx h1, look_ok r hy h2, s1, s2, k α F H _ (.pd _) st Nx.refl r (Dp.bl _) q⟩
theorem wr_neD {x y : Val} {d e : PyData} (h1 : look x st = some d) (h2 : look y st = some e) (s1 : SeqAt.shaped d = true) (s2 : SeqAt.shaped e = true) (q : Φ (.pd (.bool (!PyData.eqv d e))) st) : WR K T (rNeD K) x y st Φ := fun α F H vx vy r hx hy Q k =>
  ⟨d, e, look_ok r hx h1, look_ok r hy h2, s1, s2, k α F H _ (.pd _) st Nx.refl r (Dp.bl _) q⟩
def isNone : PyData → Bool
  | .none => true
  | _ => false
theorem dp_isNone {F : Hp} {v : V} {d : PyData} (h : Dp K F v d) : decide (v = .non) = isNone d := by
  cases h <;> rfl
theorem wr_isN {d : PyData} (q : Φ (.pd (.bool (isNone d))) st) : WR K T (fun x y H Q => y = .non ∧ Q (.bl (decide (x = .non))) H) (.pd d) (.pd .none) st Φ := fun α F H vx vy r hx hy Q k => by
  obtain rfl := dp_non hy
  refine ⟨rfl, k α F H _ (.pd _) st Nx.refl r ?_ q⟩
  rw [dp_isNone hx]
  exact Dp.bl _
theorem wr_notN {d : PyData} (q : Φ (.pd (.bool (!isNone d))) st) : WR K T (fun x y H Q => y = .non ∧ Q (.bl (!decide (x = .non))) H) (.pd d) (.pd .none) st Φ := fun α F H vx vy r hx hy Q k => by
  obtain rfl := dp_non hy
  refine ⟨rfl, k α F H _ (.pd _) st Nx.refl r ?_ q⟩
  rw [dp_isNone hx]
  exact Dp.bl _
theorem atI_dps {F : Hp} {vs : List V} {ds : List PyData} {i : Int} {d : PyData} (t : DpAll K F vs ds) (e : atI ds i = some d) : ∃ v, atI vs i = some v ∧ Dp K F v d := by
  unfold atI at e ⊢
  rw [dps_len t]
  rw [Option.bind_eq_some_iff] at e
  obtain ⟨j, e1, e2⟩ := e
  obtain ⟨v, h1, h2⟩ := dps_get t e2
  exact ⟨v, by rw [e1]; exact h1, h2⟩
theorem wr_ixL {x : Val} {ds : List PyData} {i : Int} {d : PyData} (h : look x st = some (.list ds)) (e : atI ds i = some d) (q : Φ (.pd d) st) : WR K T (rIxL K) x (.pd (.int i)) st Φ := fun α F H vx vy r hx hy Q k => by
  obtain rfl := dp_int hy
  obtain ⟨a, vs, rfl, h1, h2⟩ := look_lst r hx h
  obtain ⟨v, e1, dv⟩ := atI_dps h2 e
  exact ⟨a, vs, i, v, rfl, rfl, h1, e1, k α F H _ (.pd _) st Nx.refl r dv q⟩
theorem wr_ixT {ds : List PyData} {i : Int} {d : PyData} (e : atI ds i = some d) (q : Φ (.pd d) st) : WR K T (rIxT K) (.pd (.tuple ds)) (.pd (.int i)) st Φ := fun α F H vx vy r hx hy Q k => by
  obtain rfl := dp_int hy
  obtain ⟨a, vs, rfl, h1, h2⟩ := dp_tup hx
  obtain ⟨v, e1, dv⟩ := atI_dps h2 e
  exact ⟨a, vs, i, v, rfl, rfl, seqT r.sub h1, e1, k α F H _ (.pd _) st Nx.refl r dv q⟩
theorem we_chain {r r' : R2} (h : WE K T ta ss st fun x st1 => WE K T tb ss st1 fun y st2 => WR K T r x y st2 fun z st3 => ∃ k, z = .pd (.bool k) ∧ (k = true → WE K T tc ss st3 fun w st4 => WR K T r' y w st4 Φ) ∧ (k = false → Φ (.pd (.bool false)) st3)) :
    WE K T (tChain r r' ta tb tc) ss st Φ := fun α F H σ rl s Q k =>
  h α F H σ rl s _ fun α1 F1 H1 vx x st1 n1 r1 v1 h1 => h1 α1 F1 H1 σ r1 (s.mono n1) _ fun α2 F2 H2 vy y st2 n2 r2 v2 h2 => h2 α2 F2 H2 vx vy r2 (v1.mono n2) v2 _ fun α3 F3 H3 v z st3 n3 r3 v3 ⟨b, e, ht, hf⟩ => by
    subst e
    obtain rfl := dp_bl v3
    refine ⟨b, rfl, ?_⟩
    cases b with
    | true =>
      rw [if_pos rfl]
      exact ht rfl α3 F3 H3 σ r3 (s.mono (n1.trans (n2.trans n3))) _ fun α4 F4 H4 vw w st4 n4 r4 v4 h4 => h4 α4 F4 H4 vy vw r4 (v2.mono (n3.trans n4)) v4 Q fun α5 F5 H5 v5 z5 st5 n5 => k α5 F5 H5 v5 z5 st5 (n1.trans (n2.trans (n3.trans (n4.trans n5))))
    | false =>
      rw [if_neg Bool.false_ne_true]
      exact k α3 F3 H3 _ (.pd _) st3 (n1.trans (n2.trans n3)) r3 (Dp.bl _) (hf rfl)
theorem we_andV (h : WE K T ta ss st fun x st1 => ∃ c, x = .pd (.bool c) ∧ (c = true → WE K T tb ss st1 Φ) ∧ (c = false → Φ (.pd (.bool false)) st1)) : WE K T (tAndV ta tb) ss st Φ := fun α F H σ rl s Q k =>
  h α F H σ rl s _ fun α1 F1 H1 vx x st1 n1 r1 v1 ⟨c, e, ht, hf⟩ => by
    subst e
    obtain rfl := dp_bl v1
    refine ⟨c, rfl, ?_⟩
    cases c with
    | true =>
      rw [if_pos rfl]
      exact ht rfl α1 F1 H1 σ r1 (s.mono n1) Q fun α2 F2 H2 v z st2 n2 => k α2 F2 H2 v z st2 (n1.trans n2)
    | false =>
      rw [if_neg Bool.false_ne_true]
      exact k α1 F1 H1 _ (.pd _) st1 n1 r1 (Dp.bl _) (hf rfl)
theorem we_orV (h : WE K T ta ss st fun x st1 => ∃ c, x = .pd (.bool c) ∧ (c = true → Φ (.pd (.bool true)) st1) ∧ (c = false → WE K T tb ss st1 Φ)) : WE K T (tOrV ta tb) ss st Φ := fun α F H σ rl s Q k =>
  h α F H σ rl s _ fun α1 F1 H1 vx x st1 n1 r1 v1 ⟨c, e, ht, hf⟩ => by
    subst e
    obtain rfl := dp_bl v1
    refine ⟨c, rfl, ?_⟩
    cases c with
    | true =>
      rw [if_pos rfl]
      exact k α1 F1 H1 _ (.pd _) st1 n1 r1 (Dp.bl _) (ht rfl)
    | false =>
      rw [if_neg Bool.false_ne_true]
      exact hf rfl α1 F1 H1 σ r1 (s.mono n1) Q fun α2 F2 H2 v z st2 n2 => k α2 F2 H2 v z st2 (n1.trans n2)
theorem we_notV (h : WE K T ta ss st fun x st1 => ∃ c, x = .pd (.bool c) ∧ Φ (.pd (.bool (!c))) st1) : WE K T (tNotV ta) ss st Φ := fun α F H σ rl s Q k =>
  h α F H σ rl s _ fun α1 F1 H1 vx x st1 n1 r1 v1 ⟨c, e, hc⟩ => by
    subst e
    obtain rfl := dp_bl v1
    exact ⟨c, rfl, k α1 F1 H1 _ (.pd _) st1 n1 r1 (Dp.bl _) hc⟩
theorem we_if (h : WT K T tt ss st fun b st1 => (b = true → WE K T ta ss st1 Φ) ∧ (b = false → WE K T tb ss st1 Φ)) : WE K T (tIf tt ta tb) ss st Φ := fun α F H σ rl s Q k =>
  h α F H σ rl s _ fun α1 F1 H1 b st1 n1 r1 ⟨ht, hf⟩ => by
    cases b with
    | true =>
      rw [if_pos rfl]
      exact ht rfl α1 F1 H1 σ r1 (s.mono n1) Q fun α2 F2 H2 v z st2 n2 => k α2 F2 H2 v z st2 (n1.trans n2)
    | false =>
      rw [if_neg Bool.false_ne_true]
      exact hf rfl α1 F1 H1 σ r1 (s.mono n1) Q fun α2 F2 H2 v z st2 n2 => k α2 F2 H2 v z st2 (n1.trans n2)
theorem wa_nil {Ψ : List Val → Sto → Prop} (q : Ψ [] st) : WA K T tNil ss st Ψ := fun α F H σ r s Q k => k α F H [] [] st Nx.refl r .nil q
theorem wa_cons {Ψ : List Val → Sto → Prop} {tr : TA} (h : WE K T ta ss st fun x st1 => WA K T tr ss st1 fun xs st2 => Ψ (x :: xs) st2) : WA K T (tCons ta tr) ss st Ψ := fun α F H σ r s Q k =>
  h α F H σ r s _ fun α1 F1 H1 v x st1 n1 r1 v1 h1 => h1 α1 F1 H1 σ r1 (s.mono n1) _ fun α2 F2 H2 vs xs st2 n2 r2 v2 h2 => k α2 F2 H2 (v :: vs) (x :: xs) st2 (n1.trans n2) r2 (.cons (v1.mono n2) v2) h2
theorem we_tup {t : TA} (h : WA K T t ss st fun xs st1 => ∃ ds st2, purs xs st1 = some (ds, st2) ∧ ds.length ≤ sizeLine ∧ Φ (.pd (.tuple ds)) st2) : WE K T (tTup t) ss st Φ := fun α F H σ r s Q k =>
  h α F H σ r s _ fun α1 F1 H1 vs xs st1 n1 r1 v1 ⟨ds, st2, e, hl, q⟩ => by
    obtain ⟨F2, r2, n2, d2⟩ := purs_ok r1 v1 e
    refine ⟨by rw [dps_len d2]; exact hl, fun p hp => ?_⟩
    have hF := none_of r2 hp
    exact k α1 (upd F2 p (.tup vs)) _ (.ref p) (.pd (.tuple ds)) st2 (n1.trans (n2.trans (Nx.new hF))) (r2.new hp fun ps z => by cases z) (.tup (.inl (.inl upd_same)) (dpsm (same_upd hF) d2)) q
/-- a list display that will not be written -/
theorem we_lst {t : TA} (h : WA K T t ss st fun xs st1 => ∃ ds st2, purs xs st1 = some (ds, st2) ∧ ds.length ≤ sizeLine ∧ Φ (.pd (.list ds)) st2) : WE K T (tLst t) ss st Φ := fun α F H σ r s Q k =>
  h α F H σ r s _ fun α1 F1 H1 vs xs st1 n1 r1 v1 ⟨ds, st2, e, hl, q⟩ => by
    obtain ⟨F2, r2, n2, d2⟩ := purs_ok r1 v1 e
    refine ⟨by rw [dps_len d2]; exact hl, fun p hp => ?_⟩
    have hF := none_of r2 hp
    exact k α1 (upd F2 p (.lst vs)) _ (.ref p) (.pd (.list ds)) st2 (n1.trans (n2.trans (Nx.new hF))) (r2.new hp fun ps z => by cases z) (.lst (.inl (.inl upd_same)) (dpsm (same_upd hF) d2)) q
/-- one that will be written -/
theorem we_lstC {t : TA} (h : WA K T t ss st fun xs st1 => ∃ ds st2, purs xs st1 = some (ds, st2) ∧ ds.length ≤ sizeLine ∧ Φ (.cell st2.length) (st2 ++ [.mu ds])) : WE K T (tLst t) ss st Φ := fun α F H σ r s Q k =>
  h α F H σ r s _ fun α1 F1 H1 vs xs st1 n1 r1 v1 ⟨ds, st2, e, hl, q⟩ => by
    obtain ⟨F2, r2, n2, d2⟩ := purs_ok r1 v1 e
    refine ⟨by rw [dps_len d2]; exact hl, fun p hp => ?_⟩
    have hlen : (st2 ++ [Cell.mu ds]).length = st2.length + 1 := by simp
    refine k (ext α1 st2.length p) F2 _ (.ref p) (.cell st2.length) (st2 ++ [.mu ds]) (by rw [hlen]; exact n1.trans (n2.trans Nx.ext)) (r2.cell hp d2) ?_ q
    exact ⟨by rw [hlen]; exact Nat.lt_succ_self _, by rw [ext_same]⟩
def cutD (xs : List PyData) (lo hi : Option Int) : List PyData := (xs.drop (HT.sIx xs.length 0 lo)).take (HT.sIx xs.length xs.length hi - HT.sIx xs.length 0 lo)
theorem dps_cut {F : Hp} {vs : List V} {ds : List PyData} (t : DpAll K F vs ds) (lo hi : Option Int) : DpAll K F (cutV vs lo hi) (cutD ds lo hi) := by
  unfold cutV cutD
  rw [dps_len t]
  exact dps_take _ (dps_drop _ t)
theorem wo_none {Ψ : Option Int → Sto → Prop} (q : Ψ none st) : WO K T tNoPart ss st Ψ := fun α F H σ r s Q k => k α F H none st Nx.refl r q
theorem wo_part {Ψ : Option Int → Sto → Prop} (h : WE K T te ss st fun x st1 => ∃ i, x = .pd (.int i) ∧ Ψ (some i) st1) : WO K T (tPart te) ss st Ψ := fun α F H σ r s Q k =>
  h α F H σ r s _ fun α1 F1 H1 v x st1 n1 r1 v1 ⟨i, e, q⟩ => by
    subst e
    obtain rfl := dp_int v1
    exact ⟨i, rfl, k α1 F1 H1 (some i) st1 n1 r1 q⟩
theorem we_slL {tl th : TO} (h : WE K T te ss st fun x st1 => WO K T tl ss st1 fun lo st2 => WO K T th ss st2 fun hi st3 => ∃ ds, look x st3 = some (.list ds) ∧ Φ (.pd (.list (cutD ds lo hi))) st3) : WE K T (tSl (rSlL K) te tl th) ss st Φ := fun α F H σ r s Q k =>
  h α F H σ r s _ fun α1 F1 H1 v x st1 n1 r1 v1 h1 => h1 α1 F1 H1 σ r1 (s.mono n1) _ fun α2 F2 H2 lo st2 n2 r2 h2 => h2 α2 F2 H2 σ r2 (s.mono (n1.trans n2)) _ fun α3 F3 H3 hi st3 n3 r3 ⟨ds, e, q⟩ => by
    obtain ⟨a, vs, rfl, h4, h5⟩ := look_lst r3 (v1.mono (n2.trans n3)) e
    refine ⟨a, vs, rfl, h4, fun p hp => ?_⟩
    have hF := none_of r3 hp
    exact k α3 (upd F3 p (.lst (cutV vs lo hi))) _ (.ref p) (.pd _) st3 (n1.trans (n2.trans (n3.trans (Nx.new hF)))) (r3.new hp fun ps z => by cases z) (Dp.lst (.inl (.inl upd_same)) (dpsm (same_upd hF) (dps_cut h5 lo hi))) q
/-- list + list -/
theorem wr_cat {n m : Nat} {xs ys : List PyData} (hn : st[n]? = some (.mu xs)) (hm : st[m]? = some (.mu ys)) (hl : xs.length + ys.length ≤ sizeLine) (q : Φ (.pd (.list (xs ++ ys))) st) : WR K T rCat (.cell n) (.cell m) st Φ := fun α F H vx vy r hx hy Q k => by
  obtain ⟨_, rfl⟩ := hx
  obtain ⟨_, rfl⟩ := hy
  obtain ⟨_, vs, e1, d1⟩ := r.mu n xs hn
  obtain ⟨_, ws, e2, d2⟩ := r.mu m ys hm
  refine ⟨_, _, vs, ws, rfl, rfl, e1, e2, by rw [dps_len d1, dps_len d2]; exact hl, fun p hp => ?_⟩
  have hF := none_of r hp
  exact k α (upd F p (.lst (vs ++ ws))) _ (.ref p) (.pd _) st (Nx.new hF) (r.new hp fun ps z => by cases z) (Dp.lst (.inl (.inl upd_same)) (dpsm (same_upd hF) (dps_app d1 d2))) q
/-- .. of any two lists that the heap tracks: given as tracked -/
def Trk (x : Val) (st : Sto) (xs : List PyData) : Prop := ∃ n, x = .cell n ∧ (st[n]? = some (.mu xs) ∨ st[n]? = some (.fr xs))
theorem trk_ok {α : Nat → Addr} {F H : Hp} {x : Val} {v : V} {xs : List PyData} (r : Rel K T α F H st) (hv : VR K α F st.length x v) (t : Trk x st xs) : ∃ a vs, v = .ref a ∧ H a = some (.lst vs) ∧ DpAll K F vs xs := by
  obtain ⟨n, rfl, t⟩ := t
  obtain ⟨_, rfl⟩ := hv
  rcases t with t | t
  · obtain ⟨_, vs, e1, d1⟩ := r.mu n xs t
    exact ⟨_, vs, rfl, e1, d1⟩
  · obtain ⟨vs, e1, d1⟩ := r.fr n xs t
    exact ⟨_, vs, rfl, r.sub _ _ e1, d1⟩
theorem wr_catT {x y : Val} {xs ys : List PyData} (hn : Trk x st xs) (hm : Trk y st ys) (hl : xs.length + ys.length ≤ sizeLine) (q : Φ (.pd (.list (xs ++ ys))) st) : WR K T rCat x y st Φ := fun α F H vx vy r hx hy Q k => by
  obtain ⟨a, vs, rfl, e1, d1⟩ := trk_ok r hx hn
  obtain ⟨b, ws, rfl, e2, d2⟩ := trk_ok r hy hm
  refine ⟨_, _, vs, ws, rfl, rfl, e1, e2, by rw [dps_len d1, dps_len d2]; exact hl, fun p hp => ?_⟩
  have hF := none_of r hp
  exact k α (upd F p (.lst (vs ++ ws))) _ (.ref p) (.pd _) st (Nx.new hF) (r.new hp fun ps z => by cases z) (Dp.lst (.inl (.inl upd_same)) (dpsm (same_upd hF) (dps_app d1 d2))) q

/-! ### tests -/
variable {Ψ : Bool → Sto → Prop}
theorem wt_test (h : WE K T te ss st fun x st1 => ∃ b, x = .pd (.bool b) ∧ Ψ b st1) : WT K T (tTest te) ss st Ψ := fun α F H σ r s Q k =>
  h α F H σ r s _ fun α1 F1 H1 v x st1 n1 r1 v1 ⟨b, e, q⟩ => by
    subst e
    obtain rfl := dp_bl v1
    exact ⟨b, rfl, k α1 F1 H1 b st1 n1 r1 q⟩
theorem wt_B (h : WE K T te ss st fun x st1 => ∃ b, x = .pd (.bool b) ∧ Ψ b st1) : WT K T (tB te) ss st Ψ := fun α F H σ r s Q k =>
  h α F H σ r s _ fun α1 F1 H1 v x st1 n1 r1 v1 ⟨b, e, q⟩ => by
    subst e
    obtain rfl := dp_bl v1
    exact ⟨b, rfl, k α1 F1 H1 b st1 n1 r1 q⟩
theorem wt_and (h : WT K T tt ss st fun b st1 => (b = true → WT K T tu ss st1 Ψ) ∧ (b = false → Ψ false st1)) : WT K T (tAnd tt tu) ss st Ψ := fun α F H σ r s Q k =>
  h α F H σ r s _ fun α1 F1 H1 b st1 n1 r1 ⟨ht, hf⟩ => by
    cases b with
    | true =>
      rw [if_pos rfl]
      exact ht rfl α1 F1 H1 σ r1 (s.mono n1) Q fun α2 F2 H2 c st2 n2 => k α2 F2 H2 c st2 (n1.trans n2)
    | false =>
      rw [if_neg Bool.false_ne_true]
      exact k α1 F1 H1 false st1 n1 r1 (hf rfl)
theorem wt_or (h : WT K T tt ss st fun b st1 => (b = true → Ψ true st1) ∧ (b = false → WT K T tu ss st1 Ψ)) : WT K T (tOr tt tu) ss st Ψ := fun α F H σ r s Q k =>
  h α F H σ r s _ fun α1 F1 H1 b st1 n1 r1 ⟨ht, hf⟩ => by
    cases b with
    | true =>
      rw [if_pos rfl]
      exact k α1 F1 H1 true st1 n1 r1 (ht rfl)
    | false =>
      rw [if_neg Bool.false_ne_true]
      exact hf rfl α1 F1 H1 σ r1 (s.mono n1) Q fun α2 F2 H2 c st2 n2 => k α2 F2 H2 c st2 (n1.trans n2)
theorem wt_not (h : WT K T tt ss st fun b st1 => Ψ (!b) st1) : WT K T (tNot tt) ss st Ψ := fun α F H σ r s Q k =>
  h α F H σ r s _ fun α1 F1 H1 b st1 n1 r1 q => k α1 F1 H1 (!b) st1 n1 r1 q
theorem wt_yes (q : Ψ true st) : WT K T tYes ss st Ψ := fun α F H σ r s Q k => k α F H true st Nx.refl r q

/-! ### targets -/
variable {X : SS → Sto → Prop}
theorem wg_name {i : Nat} {x : Val} (q : X (ss.set i (some x)) st) : WG K T (gName i) x ss st X := fun α F H σ v r s hv Q k => k α F H (σ.set i (some v)) (ss.set i (some x)) st Nx.refl r (s.set i hv) q
theorem wgs_nil (q : X ss st) : WGs K T gNil [] ss st X := fun α F H σ vs r s hv Q k => by
  cases hv
  exact ⟨rfl, k α F H σ ss st Nx.refl r s q⟩
theorem wgs_cons {g : TG} {gs : TGs} {x : Val} {xs : List Val} (h : WG K T g x ss st fun ss1 st1 => WGs K T gs xs ss1 st1 X) : WGs K T (gCons g gs) (x :: xs) ss st X := fun α F H σ vs r s hv Q k => by
  cases hv with
  | cons h1 h2 =>
    exact ⟨_, _, rfl, h α F H σ _ r s h1 _ fun α1 F1 H1 σ1 ss1 st1 n1 r1 s1 q1 => q1 α1 F1 H1 σ1 _ r1 s1 (h2.mono n1) Q fun α2 F2 H2 σ2 ss2 st2 n2 => k α2 F2 H2 σ2 ss2 st2 (n1.trans n2)⟩
theorem vrs_of {α : Nat → Addr} {F : Hp} {L : Nat} : ∀ {vs : List V} {ds : List PyData}, DpAll K F vs ds → VRs K α F L (ds.map Val.pd) vs
  | _, _, .nil => .nil
  | _, _, .cons h t => .cons h (vrs_of t)
theorem wg_tup {n : Nat} {gs : TGs} {ds : List PyData} (hn : ds.length = n) (h : WGs K T gs (ds.map Val.pd) ss st X) : WG K T (gTup K n gs) (.pd (.tuple ds)) ss st X := fun α F H σ v r s hv Q k => by
  obtain ⟨a, vs, rfl, h1, h2⟩ := dp_tup hv
  exact ⟨a, vs, rfl, seqT r.sub h1, (dps_len h2).trans hn, h α F H σ vs r s (vrs_of h2) Q k⟩
theorem wg_unl {n : Nat} {gs : TGs} {ds : List PyData} (hn : ds.length = n) (h : WGs K T gs (ds.map Val.pd) ss st X) : WG K T (gUnl K n gs) (.pd (.list ds)) ss st X := fun α F H σ v r s hv Q k => by
  obtain ⟨a, vs, rfl, h1, h2⟩ := dp_lst hv
  exact ⟨a, vs, rfl, r.sub.seq h1, (dps_len h2).trans hn, h α F H σ vs r s (vrs_of h2) Q k⟩
theorem wg_sub {to ti : TE} {t : TSet} {x : Val} (h : WE K T to ss st fun o st1 => WE K T ti ss st1 fun i st2 => WX K T t o i x st2 fun st3 => X ss st3) : WG K T (gSub to ti t) x ss st X := fun α F H σ v r s hv Q k =>
  h α F H σ r s _ fun α1 F1 H1 vo o st1 n1 r1 v1 h1 => h1 α1 F1 H1 σ r1 (s.mono n1) _ fun α2 F2 H2 vi i st2 n2 r2 v2 h2 => h2 α2 F2 H2 vo vi v r2 (v1.mono n2) v2 (hv.mono (n1.trans n2)) _ fun α3 F3 H3 st3 n3 r3 q => k α3 F3 H3 σ ss st3 (n1.trans (n2.trans n3)) r3 (s.mono (n1.trans (n2.trans n3))) q
theorem ixN_len {n : Nat} {k : Int} {j : Nat} (h : ixN n k = some j) : j < n := by
  unfold ixN at h
  split at h
  · split at h
    · cases h
      omega
    · cases h
  · split at h
    · cases h
      omega
    · cases h
theorem wx_list {n : Nat} {xs : List PyData} {i : Int} {j : Nat} {d : PyData} {Y : Sto → Prop} (h : st[n]? = some (.mu xs)) (hj : ixN xs.length i = some j) (q : Y (st.set n (.mu (xs.set j d)))) : WX K T rSetL (.cell n) (.pd (.int i)) (.pd d) st Y := fun α F H vo vi vx r ho hi hx Q k => by
  obtain ⟨_, rfl⟩ := ho
  obtain rfl := dp_int hi
  obtain ⟨_, vs, e1, d1⟩ := r.mu n xs h
  exact ⟨_, vs, i, j, rfl, rfl, e1, by rw [dps_len d1]; exact hj, k α F _ _ (by rw [List.length_set]; exact Nx.refl) (r.write h (dps_set j d1 hx)) q⟩

/-! ### calls -/
theorem we_cb {r : List V → Hp → VK → Prop} {t : TA} (h : WA K T t ss st fun xs st1 => WC K T r xs st1 Φ) : WE K T (tCB r t) ss st Φ := fun α F H σ rl s Q k =>
  h α F H σ rl s _ fun α1 F1 H1 vs xs st1 n1 r1 v1 h1 => h1 α1 F1 H1 vs r1 v1 Q fun α2 F2 H2 v z st2 n2 => k α2 F2 H2 v z st2 (n1.trans n2)
theorem vrs1 {α : Nat → Addr} {F : Hp} {L : Nat} {x : Val} {vs : List V} (h : VRs K α F L [x] vs) : ∃ v, vs = [v] ∧ VR K α F L x v := by
  cases h with
  | cons h t =>
    cases t
    exact ⟨_, rfl, h⟩
theorem vrs2 {α : Nat → Addr} {F : Hp} {L : Nat} {x y : Val} {vs : List V} (h : VRs K α F L [x, y] vs) : ∃ v w, vs = [v, w] ∧ VR K α F L x v ∧ VR K α F L y w := by
  cases h with
  | cons h t =>
    obtain ⟨w, rfl, h2⟩ := vrs1 t
    exact ⟨_, w, rfl, h, h2⟩
theorem wc_abs {i : Int} (q : Φ (.pd (.int (if i < 0 then -i else i))) st) : WC K T (fun xs H Q => ∃ i, xs = [.int i] ∧ Q (.int (if i < 0 then -i else i)) H) [.pd (.int i)] st Φ := fun α F H vs r hv Q k => by
  obtain ⟨v, rfl, h⟩ := vrs1 hv
  obtain rfl := dp_int h
  exact ⟨i, rfl, k α F H _ (.pd _) st Nx.refl r (Dp.int _) q⟩
theorem wc_int {i : Int} (q : Φ (.pd (.int i)) st) : WC K T (fun xs H Q => (∃ i, xs = [.int i] ∧ Q (.int i) H) ∨ ∃ k, xs = [.bl k] ∧ Q (.int (if k then 1 else 0)) H) [.pd (.int i)] st Φ := fun α F H vs r hv Q k => by
  obtain ⟨v, rfl, h⟩ := vrs1 hv
  obtain rfl := dp_int h
  exact .inl ⟨i, rfl, k α F H _ (.pd _) st Nx.refl r (Dp.int _) q⟩
theorem wc_max2 {i j : Int} (q : Φ (.pd (.int (if j > i then j else i))) st) : WC K T (fun xs H Q => ∃ i j, xs = [.int i, .int j] ∧ Q (.int (if j > i then j else i)) H) [.pd (.int i), .pd (.int j)] st Φ := fun α F H vs r hv Q k => by
  obtain ⟨v, w, rfl, h1, h2⟩ := vrs2 hv
  obtain rfl := dp_int h1
  obtain rfl := dp_int h2
  exact ⟨i, j, rfl, k α F H _ (.pd _) st Nx.refl r (Dp.int _) q⟩
theorem wc_min2 {i j : Int} (q : Φ (.pd (.int (if j < i then j else i))) st) : WC K T (fun xs H Q => ∃ i j, xs = [.int i, .int j] ∧ Q (.int (if j < i then j else i)) H) [.pd (.int i), .pd (.int j)] st Φ := fun α F H vs r hv Q k => by
  obtain ⟨v, w, rfl, h1, h2⟩ := vrs2 hv
  obtain rfl := dp_int h1
  obtain rfl := dp_int h2
  exact ⟨i, j, rfl, k α F H _ (.pd _) st Nx.refl r (Dp.int _) q⟩
theorem wc_len {x : Val} {ds : List PyData} (h : look x st = some (.list ds)) (q : Φ (.pd (.int (ds.length : Int))) st) : WC K T (fun xs H Q => ∃ p ys, xs = [.ref p] ∧ (SqL K H p ys ∨ SqT K H p ys) ∧ Q (.int ys.length) H) [x] st Φ := fun α F H vs r hv Q k => by
  obtain ⟨v, rfl, h1⟩ := vrs1 hv
  obtain ⟨a, ys, rfl, h2, h3⟩ := look_lst r h1 h
  refine ⟨a, ys, rfl, .inl h2, ?_⟩
  rw [dps_len h3]
  exact k α F H _ (.pd _) st Nx.refl r (Dp.int _) q
/-- list(x), to be written or added -/
theorem wc_listC {x : Val} {ds : List PyData} (h : look x st = some (.list ds)) (q : Φ (.cell st.length) (st ++ [.mu ds])) : WC K T (fun xs H Q => ∃ p ys, xs = [.ref p] ∧ (SqL K H p ys ∨ SqT K H p ys) ∧ ∀ l, H l = none → Q (.ref l) (upd H l (.lst ys))) [x] st Φ := fun α F H vs r hv Q k => by
  obtain ⟨v, rfl, h1⟩ := vrs1 hv
  obtain ⟨a, ys, rfl, h2, h3⟩ := look_lst r h1 h
  refine ⟨a, ys, rfl, .inl h2, fun p hp => ?_⟩
  have hlen : (st ++ [Cell.mu ds]).length = st.length + 1 := by simp
  refine k (ext α st.length p) F _ (.ref p) (.cell st.length) (st ++ [.mu ds]) (by rw [hlen]; exact Nx.ext) (r.cell hp h3) ?_ q
  exact ⟨by rw [hlen]; exact Nat.lt_succ_self _, by rw [ext_same]⟩
theorem wc_sum {x : Val} {ns : List Int} (h : look x st = some (.list (ns.map PyData.int))) (q : Φ (.pd (.int ns.sum)) st) : WC K T (rSum K) [x] st Φ := fun α F H vs r hv Q k => by
  obtain ⟨v, rfl, h1⟩ := vrs1 hv
  obtain ⟨a, ys, rfl, h2, h3⟩ := look_lst r h1 h
  obtain rfl := dps_ints h3
  exact ⟨a, ns, rfl, h2, k α F H _ (.pd _) st Nx.refl r (Dp.int _) q⟩
theorem wc_min {x : Val} {ns : List Int} (h : look x st = some (.list (ns.map PyData.int))) (h0 : 0 < ns.length) (q : ∀ m, m ∈ ns → (∀ y, y ∈ ns → m ≤ y) → Φ (.pd (.int m)) st) : WC K T (rMin K) [x] st Φ := fun α F H vs r hv Q k => by
  obtain ⟨v, rfl, h1⟩ := vrs1 hv
  obtain ⟨a, ys, rfl, h2, h3⟩ := look_lst r h1 h
  obtain rfl := dps_ints h3
  exact ⟨a, ns, rfl, h2, h0, fun m hm hle => k α F H _ (.pd _) st Nx.refl r (Dp.int _) (q m hm hle)⟩

/-! ### statements -/
theorem ws_next (q : P.nx ss st) : WS K T tNext ss st P := fun α F H σ r s D o => o.nx α F H σ ss st Nx.refl r s q
theorem ws_seq {t u : TS} (h : WS K T t ss st { P with nx := fun ss1 st1 => WS K T u ss1 st1 P }) : WS K T (tSeq t u) ss st P := fun α F H σ r s D o =>
  h α F H σ r s { D with nx := u D } ⟨fun α1 F1 H1 σ1 ss1 st1 n1 r1 s1 q1 => q1 α1 F1 H1 σ1 r1 s1 D (o.mono n1), o.rt, o.bk, o.ct⟩
theorem ws_brk (q : P.bk ss st) : WS K T tBreak ss st P := fun α F H σ r s D o => o.bk α F H σ ss st Nx.refl r s q
theorem ws_cont (q : P.ct ss st) : WS K T tCont ss st P := fun α F H σ r s D o => o.ct α F H σ ss st Nx.refl r s q
theorem ws_ret (h : WE K T te ss st P.rt) : WS K T (tRet te) ss st P := fun α F H σ r s D o => h α F H σ r s _ fun α1 F1 H1 v x st1 n1 r1 v1 q => o.rt α1 F1 H1 v x st1 n1 r1 v1 q
theorem ws_retN (q : P.rt (.pd .none) st) : WS K T tRetN ss st P := fun α F H σ r s D o => o.rt α F H .non (.pd _) st Nx.refl r Dp.non q
theorem ws_asg {g : TG} (h : WE K T te ss st fun x st1 => WG K T g x ss st1 P.nx) : WS K T (tAsg te g) ss st P := fun α F H σ r s D o =>
  h α F H σ r s _ fun α1 F1 H1 v x st1 n1 r1 v1 q => q α1 F1 H1 σ v r1 (s.mono n1) v1 _ fun α2 F2 H2 σ2 ss2 st2 n2 => o.nx α2 F2 H2 σ2 ss2 st2 (n1.trans n2)
theorem ws_drop (h : WE K T te ss st fun _ st1 => P.nx ss st1) : WS K T (tDrop te) ss st P := fun α F H σ r s D o =>
  h α F H σ r s _ fun α1 F1 H1 v x st1 n1 r1 v1 q => o.nx α1 F1 H1 σ ss st1 n1 r1 (s.mono n1) q
theorem ws_if {t u : TS} (h : WT K T tt ss st fun b st1 => (b = true → WS K T t ss st1 P) ∧ (b = false → WS K T u ss st1 P)) : WS K T (tIfS tt t u) ss st P := fun α F H σ r s D o =>
  h α F H σ r s _ fun α1 F1 H1 b st1 n1 r1 ⟨ht, hf⟩ => by
    cases b with
    | true =>
      rw [if_pos rfl]
      exact ht rfl α1 F1 H1 σ r1 (s.mono n1) D (o.mono n1)
    | false =>
      rw [if_neg Bool.false_ne_true]
      exact hf rfl α1 F1 H1 σ r1 (s.mono n1) D (o.mono n1)
theorem ws_aug {i : Nat} {f : Int → Int → Int} {a : Int} (hx : ss[i]? = some (some (.pd (.int a)))) (h : WE K T te ss st fun y st1 => ∃ b, y = .pd (.int b) ∧ P.nx (ss.set i (some (.pd (.int (f a b))))) st1) : WS K T (tAug i te (ipI f)) ss st P := fun α F H σ r s D o => by
  obtain ⟨v, e, hv⟩ := s.at_ i _ hx
  obtain rfl := dp_int hv
  refine ⟨.int a, e, h α F H σ r s _ fun α1 F1 H1 v x st1 n1 r1 v1 ⟨b, eb, q⟩ => ?_⟩
  subst eb
  obtain rfl := dp_int v1
  exact ⟨a, b, rfl, rfl, o.nx α1 F1 H1 _ _ st1 n1 r1 ((s.mono n1).set i (x := .pd (.int (f a b))) (Dp.int _)) q⟩
theorem ws_augS {to ti : TE} {tg : V → V → Hp → VK → Prop} {tip : TIp} {ts : TSet} (h : WE K T to ss st fun o st1 => WE K T ti ss st1 fun i st2 => WR K T tg o i st2 fun x st3 => WE K T te ss st3 fun y st4 => WR K T tip x y st4 fun z st5 => WX K T ts o i z st5 fun st6 => P.nx ss st6) :
    WS K T (tAugS to ti te tg tip ts) ss st P := fun α F H σ r s D o =>
  h α F H σ r s _ fun α1 F1 H1 vo xo st1 n1 r1 v1 h1 => h1 α1 F1 H1 σ r1 (s.mono n1) _ fun α2 F2 H2 vi xi st2 n2 r2 v2 h2 => h2 α2 F2 H2 vo vi r2 (v1.mono n2) v2 _ fun α3 F3 H3 vx x st3 n3 r3 v3 h3 =>
    h3 α3 F3 H3 σ r3 (s.mono (n1.trans (n2.trans n3))) _ fun α4 F4 H4 vy y st4 n4 r4 v4 h4 => h4 α4 F4 H4 vx vy r4 (v3.mono n4) v4 _ fun α5 F5 H5 vz z st5 n5 r5 v5 h5 =>
      h5 α5 F5 H5 vo vi vz r5 (v1.mono (n2.trans (n3.trans (n4.trans n5)))) (v2.mono (n3.trans (n4.trans n5))) v5 _ fun α6 F6 H6 st6 n6 r6 q =>
        let n := n1.trans (n2.trans (n3.trans (n4.trans (n5.trans n6))))
        o.nx α6 F6 H6 σ ss st6 n r6 (s.mono n) q
/-- xs.append(e) -/
theorem ws_app (h : WE K T ta ss st fun o st1 => ∃ n ys, o = .cell n ∧ st1[n]? = some (.mu ys) ∧ WE K T te ss st1 fun x st2 => ∃ d st3 xs, pur x st2 = some (d, st3) ∧ st3[n]? = some (.mu xs) ∧ xs.length < sizeLine ∧ P.nx ss (st3.set n (.mu (xs ++ [d])))) :
    WS K T (tDrop (tBM K "list" rAppend ta (tCons te tNil))) ss st P := fun α F H σ r s D o =>
  h α F H σ r s _ fun α1 F1 H1 vo xo st1 n1 r1 v1 ⟨n, ys, eo, ey, h1⟩ => by
    subst eo
    obtain ⟨hn, rfl⟩ := v1
    obtain ⟨_, us, eu, du⟩ := r1.mu n ys ey
    refine ⟨.inl ⟨rfl, us, .inl (.inl eu)⟩, h1 α1 F1 H1 σ r1 (s.mono n1) _ fun α2 F2 H2 v x st2 n2 r2 v2 ⟨d, st3, xs, ep, en, hl, q⟩ => ?_⟩
    obtain ⟨F3, r3, n3, d3⟩ := pur_ok r2 v2 ep
    obtain ⟨_, vs, e1, d1⟩ := r3.mu n xs en
    rw [n2.ag n hn] at e1
    have hr := r3.write en (dps_app d1 (.cons d3 .nil))
    rw [n2.ag n hn] at hr
    have nn := n1.trans (n2.trans n3)
    exact ⟨_, vs, v, rfl, rfl, e1, by rw [dps_len d1]; exact hl, o.nx α2 F3 _ σ ss _ (by rw [List.length_set]; exact nn) hr (by rw [List.length_set]; exact s.mono nn) q⟩
end
end Ct

/-! CtC: loops, comprehensions, calls of defs, a def's body; list + list of any lists; xs[i] op= e. -/
namespace Ct
open PySem L2

/-! ### two rules of the layer's kind -/
def rCatS (K : PySem.W.Frag) : R2 := fun x y H Q => ∃ l b xs zs, x = .ref l ∧ y = .ref b ∧ SqL K H l xs ∧ SqL K H b zs ∧ xs.length + zs.length ≤ sizeLine ∧ ∀ p, H p = none → Q (.ref p) (upd H p (.lst (xs ++ zs)))
section
open PyProof.Rows
variable {X : Cx}
theorem op_catS : OpR X (binaryOp .Add) (rCatS X.K) := by
  intro pins s σ H x y v u Q I rx ry h
  obtain ⟨l, b, xs, zs, rfl, rfl, hH, hB, hz, q⟩ := h
  cases rx
  cases ry
  obtain ⟨its, r, pl, _⟩ := I.list hH
  obtain ⟨its2, r2, pl2, _⟩ := I.list hB
  have hl := r.length
  have hl2 := r2.length
  obtain ⟨⟨cls, dd, data, sl⟩, ho, hc, n, hd⟩ := pl.isList
  obtain ⟨⟨cls2, dd2, data2, sl2⟩, ho2, hc2, n2, hd2⟩ := pl2.isList
  simp only at hc hd hc2 hd2
  subst hc hd hc2 hd2
  have e : its.toArray ++ its2.toArray = (its ++ its2).toArray := by simp
  refine concat_meets ⟨_, ho, rfl⟩ ⟨_, ho2, rfl⟩ noFill_list_add seq_list_add PySem.F.slot_list_add PySem.F.entry_list_add (PySem.F.args_list_add_2 _ _) (list_addW l b its.toArray its2.toArray n n2 dd dd2 sl sl2 (by simp; omega)) ⟨ho, ho2, ?_⟩
  rw [e]
  exact ⟨.ref _, _, I.lnew (t' := s.toks) (r.append r2) (by rw [List.length_append]; omega), rfl, q _ I.fresh⟩
theorem get_list : PGet X (rIxL X.K) := by
  intro pins s σ H x y v u Q I rx ry h
  obtain ⟨p, xs, i, z, rfl, rfl, hq, he, q⟩ := h
  cases rx
  obtain ⟨t, rfl⟩ := ry
  obtain ⟨its, r, pl, hz⟩ := I.list hq
  obtain ⟨j, h1, h2, h3, h4, h5⟩ := atI_get he
  obtain ⟨w, ew, rw'⟩ := r.get h2
  have hl := r.length
  have hn := line63
  have fin : EP X pins σ Q w s := ⟨z, H, I, rw', q⟩
  by_cases h0 : 0 ≤ i
  · have hj : i.toNat = j := by
      rw [seqIndex_of h0 h5] at h1
      exact Option.some.inj h1
    exact wpAny_getItem_list pl.isList h0 (by omega) (by rw [hj]; simpa using ew) fin
  · have hj : (i + (its.toArray.size : Int)).toNat = j := by
      rw [seqIndex_neg (by omega) h4] at h1
      rw [List.size_toArray, ← hl]
      exact Option.some.inj h1
    exact wpAny_getItem_list_neg pl.isList (by omega) (by rw [List.size_toArray]; omega) (by omega) (by rw [hj]; simpa using ew) fin
end

section
variable {K : PySem.W.Frag} {T : TabI} {ss : SS} {st : Sto} {Φ : Val → Sto → Prop} {te ta tb tc tl : TE} {tt tu : TT} {P : Po} {g : TG} {bd : TS}

theorem wr_catS {x y : Val} {xs ys : List PyData} (hn : look x st = some (.list xs)) (hm : look y st = some (.list ys)) (hl : xs.length + ys.length ≤ sizeLine) (q : Φ (.pd (.list (xs ++ ys))) st) : WR K T (rCatS K) x y st Φ := fun α F H vx vy r hx hy Q k => by
  obtain ⟨a, vs, rfl, e1, d1⟩ := look_lst r hx hn
  obtain ⟨b, ws, rfl, e2, d2⟩ := look_lst r hy hm
  refine ⟨_, _, vs, ws, rfl, rfl, e1, e2, by rw [dps_len d1, dps_len d2]; exact hl, fun p hp => ?_⟩
  have hF := none_of r hp
  exact k α (upd F p (.lst (vs ++ ws))) _ (.ref p) (.pd _) st (Nx.new hF) (r.new hp fun ps z => by cases z) (Dp.lst (.inl (.inl upd_same)) (dpsm (same_upd hF) (dps_app d1 d2))) q
theorem wr_ip {f : Int → Int → Int} {i j : Int} (q : Φ (.pd (.int (f i j))) st) : WR K T (ipI f) (.pd (.int i)) (.pd (.int j)) st Φ := fun α F H vx vy r hx hy Q k => by
  obtain rfl := dp_int hx
  obtain rfl := dp_int hy
  exact ⟨i, j, rfl, rfl, k α F H _ (.pd _) st Nx.refl r (Dp.int _) q⟩

/-! ### for -/
abbrev inTurn (P : Po) (N : SS → Sto → Prop) : Po := { nx := N, rt := P.rt, bk := P.nx, ct := N }
theorem ws_forL (h : WE K T tl ss st fun x st1 => ∃ xs, x = .pd (.list xs) ∧ ∃ I : Nat → SS → Sto → Prop, I 0 ss st1 ∧
      (∀ (i : Nat) (d : PyData) (ss' : SS) (st' : Sto), xs[i]? = some d → I i ss' st' → WG K T g (.pd d) ss' st' fun ss2 st2 => WS K T bd ss2 st2 (inTurn P (I (i + 1)))) ∧ ∀ (ss' : SS) (st' : Sto), I xs.length ss' st' → P.nx ss' st') :
    WS K T (tFor (iList K tl) g bd) ss st P := fun α F H σ r s D o => h α F H σ r s _ fun α1 F1 H1 v x st1 n1 r1 v1 ⟨xs, e, I, i0, hs, hd⟩ => by
  subst e
  obtain ⟨a, vs, rfl, h1, h2⟩ := dp_lst v1
  have o1 := o.mono n1
  refine ⟨a, rfl, ⟨vs, r1.sub.seq h1⟩, for_list (xs := vs) (fun i σ' H' => ∃ α' F' ss' st', Nx α1 F1 st1.length α' F' (List.length st') ∧ Rel K T α' F' H' st' ∧ SR K α' F' st'.length ss' σ' ∧ I i ss' st')
    ⟨α1, F1, ss, st1, Nx.refl, r1, s.mono n1, i0⟩ (fun i σ' H' _ ⟨α', F', ss', st', n', r', _, _⟩ => r'.sub.seq (n'.sub.seq h1)) (fun i y σ' H' hy ⟨α', F', ss', st', n', r', s', hi⟩ => ?_)
    (fun σ' H' ⟨α', F', ss', st', n', r', s', hi⟩ => o1.nx α' F' H' σ' ss' st' n' r' s' (hd ss' st' (by rw [← dps_len h2]; exact hi)))⟩
  obtain ⟨d, hd1, dd⟩ := dps_getV h2 hy
  exact hs i d ss' st' hd1 hi α' F' H' σ' y r' s' (dpm n'.sub dd) _ fun α2 F2 H2 σ2 ss2 st2 n2 r2 s2 q => q α2 F2 H2 σ2 r2 s2 _
    ⟨fun α3 F3 H3 σ3 ss3 st3 n3 r3 s3 q3 => ⟨α3, F3, ss3, st3, n'.trans (n2.trans n3), r3, s3, q3⟩, fun α3 F3 H3 v3 x3 st3 n3 => o1.rt α3 F3 H3 v3 x3 st3 (n'.trans (n2.trans n3)),
      fun α3 F3 H3 σ3 ss3 st3 n3 => o1.nx α3 F3 H3 σ3 ss3 st3 (n'.trans (n2.trans n3)), fun α3 F3 H3 σ3 ss3 st3 n3 r3 s3 q3 => ⟨α3, F3, ss3, st3, n'.trans (n2.trans n3), r3, s3, q3⟩⟩
theorem ws_forT (h : WE K T tl ss st fun x st1 => ∃ xs, x = .pd (.tuple xs) ∧ ∃ I : Nat → SS → Sto → Prop, I 0 ss st1 ∧
      (∀ (i : Nat) (d : PyData) (ss' : SS) (st' : Sto), xs[i]? = some d → I i ss' st' → WG K T g (.pd d) ss' st' fun ss2 st2 => WS K T bd ss2 st2 (inTurn P (I (i + 1)))) ∧ ∀ (ss' : SS) (st' : Sto), I xs.length ss' st' → P.nx ss' st') :
    WS K T (tFor (iTup K tl) g bd) ss st P := fun α F H σ r s D o => h α F H σ r s _ fun α1 F1 H1 v x st1 n1 r1 v1 ⟨xs, e, I, i0, hs, hd⟩ => by
  subst e
  obtain ⟨a, vs, rfl, h1, h2⟩ := dp_tup v1
  have o1 := o.mono n1
  refine ⟨a, rfl, ⟨vs, seqT r1.sub h1⟩, for_tup (xs := vs) (fun i σ' H' => ∃ α' F' ss' st', Nx α1 F1 st1.length α' F' (List.length st') ∧ Rel K T α' F' H' st' ∧ SR K α' F' st'.length ss' σ' ∧ I i ss' st')
    ⟨α1, F1, ss, st1, Nx.refl, r1, s.mono n1, i0⟩ (fun i σ' H' _ ⟨α', F', ss', st', n', r', _, _⟩ => seqT r'.sub (seqT n'.sub h1)) (fun i y σ' H' hy ⟨α', F', ss', st', n', r', s', hi⟩ => ?_)
    (fun σ' H' ⟨α', F', ss', st', n', r', s', hi⟩ => o1.nx α' F' H' σ' ss' st' n' r' s' (hd ss' st' (by rw [← dps_len h2]; exact hi)))⟩
  obtain ⟨d, hd1, dd⟩ := dps_getV h2 hy
  exact hs i d ss' st' hd1 hi α' F' H' σ' y r' s' (dpm n'.sub dd) _ fun α2 F2 H2 σ2 ss2 st2 n2 r2 s2 q => q α2 F2 H2 σ2 r2 s2 _
    ⟨fun α3 F3 H3 σ3 ss3 st3 n3 r3 s3 q3 => ⟨α3, F3, ss3, st3, n'.trans (n2.trans n3), r3, s3, q3⟩, fun α3 F3 H3 v3 x3 st3 n3 => o1.rt α3 F3 H3 v3 x3 st3 (n'.trans (n2.trans n3)),
      fun α3 F3 H3 σ3 ss3 st3 n3 => o1.nx α3 F3 H3 σ3 ss3 st3 (n'.trans (n2.trans n3)), fun α3 F3 H3 σ3 ss3 st3 n3 r3 s3 q3 => ⟨α3, F3, ss3, st3, n'.trans (n2.trans n3), r3, s3, q3⟩⟩
/-- over lo, lo + 1, .. -/
theorem for_rng {lo : Int} {n : Nat} {α1 : Nat → Addr} {F1 H1 : Hp} {st1 : Sto} {σ1 : L2.St} {D : Ends} (r1 : Rel K T α1 F1 H1 st1) (s1 : SR K α1 F1 st1.length ss σ1) (o1 : Ok K T α1 F1 st1.length P D) (I : Nat → SS → Sto → Prop) (i0 : I 0 ss st1)
    (hs : ∀ (i : Nat) (ss' : SS) (st' : Sto), i < n → I i ss' st' → WG K T g (.pd (.int (lo + i))) ss' st' fun ss2 st2 => WS K T bd ss2 st2 (inTurn P (I (i + 1)))) (hd : ∀ (ss' : SS) (st' : Sto), I n ss' st' → P.nx ss' st') :
    ∃ W : Nat → Nat → L2.St → Hp → Prop, (∃ m, W 0 m σ1 H1) ∧ ∀ i m σ H, W i m σ H →
      ((Itr lo n).stop i H ∧ D.nx σ H) ∨ ((Itr lo n).go i H ∧ ∃ N : L2.St → Hp → Prop, (∀ σ' H', N σ' H' → ∃ m', m' < m ∧ W (i + 1) m' σ' H') ∧ ∀ x H', (Itr lo n).yld i H x H' → g x σ H' fun σ2 H2 => bd { D with nx := N, ct := N, bk := D.nx } σ2 H2) :=
  for_range (lo := lo) (n := n) (fun i σ' H' => ∃ α' F' ss' st', Nx α1 F1 st1.length α' F' (List.length st') ∧ Rel K T α' F' H' st' ∧ SR K α' F' st'.length ss' σ' ∧ I i ss' st')
    ⟨α1, F1, ss, st1, Nx.refl, r1, s1, i0⟩ (fun i σ' H' hi ⟨α', F', ss', st', n', r', s', hI⟩ =>
      hs i ss' st' hi hI α' F' H' σ' (.int (lo + i)) r' s' (Dp.int _) _ fun α2 F2 H2 σ2 ss2 st2 n2 r2 s2 q => q α2 F2 H2 σ2 r2 s2 _
        ⟨fun α3 F3 H3 σ3 ss3 st3 n3 r3 s3 q3 => ⟨α3, F3, ss3, st3, n'.trans (n2.trans n3), r3, s3, q3⟩, fun α3 F3 H3 v3 x3 st3 n3 => o1.rt α3 F3 H3 v3 x3 st3 (n'.trans (n2.trans n3)),
          fun α3 F3 H3 σ3 ss3 st3 n3 => o1.nx α3 F3 H3 σ3 ss3 st3 (n'.trans (n2.trans n3)), fun α3 F3 H3 σ3 ss3 st3 n3 r3 s3 q3 => ⟨α3, F3, ss3, st3, n'.trans (n2.trans n3), r3, s3, q3⟩⟩)
    (fun σ' H' ⟨α', F', ss', st', n', r', s', hi⟩ => o1.nx α' F' H' σ' ss' st' n' r' s' (hd ss' st' hi))
theorem ws_forR1 {t : TA} (h : WA K T t ss st fun xs st1 => ∃ n, xs = [.pd (.int n)] ∧ -(2 ^ 62) ≤ n ∧ n < 2 ^ 62 ∧ ∃ I : Nat → SS → Sto → Prop, I 0 ss st1 ∧
      (∀ (i : Nat) (ss' : SS) (st' : Sto), i < n.toNat → I i ss' st' → WG K T g (.pd (.int (0 + (i : Int)))) ss' st' fun ss2 st2 => WS K T bd ss2 st2 (inTurn P (I (i + 1)))) ∧ ∀ (ss' : SS) (st' : Sto), I n.toNat ss' st' → P.nx ss' st') :
    WS K T (tFor (iRng1 t) g bd) ss st P := fun α F H σ r s D o => h α F H σ r s _ fun α1 F1 H1 vs xs st1 n1 r1 v1 ⟨n, e, b1, b2, I, i0, hs, hd⟩ => by
  subst e
  obtain ⟨v, rfl, hv⟩ := vrs1 v1
  obtain rfl := dp_int hv
  exact ⟨n, rfl, b1, b2, for_rng r1 (s.mono n1) (o.mono n1) I i0 hs hd⟩
theorem ws_forR2 {t : TA} (h : WA K T t ss st fun xs st1 => ∃ lo n, xs = [.pd (.int lo), .pd (.int n)] ∧ (-(2 ^ 62) ≤ lo ∧ lo < 2 ^ 62 ∧ -(2 ^ 62) ≤ n ∧ n < 2 ^ 62) ∧ ∃ I : Nat → SS → Sto → Prop, I 0 ss st1 ∧
      (∀ (i : Nat) (ss' : SS) (st' : Sto), i < (n - lo).toNat → I i ss' st' → WG K T g (.pd (.int (lo + (i : Int)))) ss' st' fun ss2 st2 => WS K T bd ss2 st2 (inTurn P (I (i + 1)))) ∧ ∀ (ss' : SS) (st' : Sto), I (n - lo).toNat ss' st' → P.nx ss' st') :
    WS K T (tFor (iRng2 t) g bd) ss st P := fun α F H σ r s D o => h α F H σ r s _ fun α1 F1 H1 vs xs st1 n1 r1 v1 ⟨lo, n, e, b, I, i0, hs, hd⟩ => by
  subst e
  obtain ⟨v, w, rfl, hv, hw⟩ := vrs2 v1
  obtain rfl := dp_int hv
  obtain rfl := dp_int hw
  exact ⟨lo, n, rfl, b, for_rng r1 (s.mono n1) (o.mono n1) I i0 hs hd⟩
/-- enumerate -/
theorem ws_forE {t : TA} (h : WA K T t ss st fun ys st1 => ∃ xs, ys = [.pd (.list xs)] ∧ ∃ I : Nat → SS → Sto → Prop, I 0 ss st1 ∧
      (∀ (i : Nat) (d : PyData) (ss' : SS) (st' : Sto), xs[i]? = some d → I i ss' st' → WG K T g (.pd (.tuple [.int (i : Int), d])) ss' st' fun ss2 st2 => WS K T bd ss2 st2 (inTurn P (I (i + 1)))) ∧ ∀ (ss' : SS) (st' : Sto), I xs.length ss' st' → P.nx ss' st') :
    WS K T (tFor (iEnum K t) g bd) ss st P := fun α F H σ r s D o => h α F H σ r s _ fun α1 F1 H1 vs ys st1 n1 r1 v1 ⟨xs, e, I, i0, hs, hd⟩ => by
  subst e
  obtain ⟨v, rfl, hv⟩ := vrs1 v1
  obtain ⟨a, ws, rfl, h1, h2⟩ := dp_lst hv
  have o1 := o.mono n1
  refine ⟨a, ws, rfl, r1.sub.seq h1, fun i m σ' H' => m = ws.length - i ∧ i ≤ ws.length ∧ ∃ α' F' ss' st', Nx α1 F1 st1.length α' F' (List.length st') ∧ Rel K T α' F' H' st' ∧ SR K α' F' st'.length ss' σ' ∧ I i ss' st',
    ⟨ws.length, by simp, Nat.zero_le _, α1, F1, ss, st1, Nx.refl, r1, s.mono n1, i0⟩, ?_⟩
  rintro i m σ' H' ⟨rfl, hi, α', F', ss', st', n', r', s', hI⟩
  have q := r'.sub.seq (n'.sub.seq h1)
  by_cases hlt : i < ws.length
  · refine .inr ⟨⟨ws, ws[i], q, by simp [hlt]⟩, fun σ2 H2 => ∃ α2 F2 ss2 st2, Nx α1 F1 st1.length α2 F2 (List.length st2) ∧ Rel K T α2 F2 H2 st2 ∧ SR K α2 F2 st2.length ss2 σ2 ∧ I (i + 1) ss2 st2, fun σ2 H2 p2 => ⟨ws.length - (i + 1), by omega, rfl, hlt, p2⟩, fun x H2 y => ?_⟩
    obtain ⟨T', x1, rfl, nT, rfl, y⟩ := y
    have ey := y ws q
    obtain ⟨d, hd1, dd⟩ := dps_getV h2 ey
    have hF := none_of r' nT
    have nn : Nx α' F' st'.length α' (upd F' T' (.tup [.int (i : Nat), x1])) st'.length := Nx.new hF
    have rr := r'.new (o := .tup [.int (i : Nat), x1]) nT fun ps z => by cases z
    exact hs i d ss' st' hd1 hI α' _ _ σ' (.ref T') rr (s'.mono nn) (Dp.tup (.inl (.inl upd_same)) (.cons (.int _) (.cons (dpm (same_upd hF) (dpm n'.sub dd)) .nil))) _ fun α2 F2 H2 σ2 ss2 st2 n2 r2 s2 q => q α2 F2 H2 σ2 r2 s2 _
      ⟨fun α3 F3 H3 σ3 ss3 st3 n3 r3 s3 q3 => ⟨α3, F3, ss3, st3, n'.trans (nn.trans (n2.trans n3)), r3, s3, q3⟩, fun α3 F3 H3 v3 x3 st3 n3 => o1.rt α3 F3 H3 v3 x3 st3 (n'.trans (nn.trans (n2.trans n3))),
        fun α3 F3 H3 σ3 ss3 st3 n3 => o1.nx α3 F3 H3 σ3 ss3 st3 (n'.trans (nn.trans (n2.trans n3))), fun α3 F3 H3 σ3 ss3 st3 n3 r3 s3 q3 => ⟨α3, F3, ss3, st3, n'.trans (nn.trans (n2.trans n3)), r3, s3, q3⟩⟩
  · have e : i = ws.length := by omega
    subst e
    exact .inl ⟨⟨ws, q, Nat.le_refl _⟩, o1.nx α' F' H' σ' ss' st' n' r' s' (hd ss' st' (by rw [← dps_len h2]; exact hI))⟩
theorem ws_while (I : Nat → SS → Sto → Prop) (h0 : ∃ m, I m ss st)
    (hs : ∀ (m : Nat) (ss' : SS) (st' : Sto), I m ss' st' → WT K T tt ss' st' fun b st1 => (b = true → WS K T bd ss' st1 (inTurn P fun ss2 st2 => ∃ m', m' < m ∧ I m' ss2 st2)) ∧ (b = false → P.nx ss' st1)) :
    WS K T (tWhile tt bd) ss st P := fun α F H σ r s D o => by
  obtain ⟨m0, h0⟩ := h0
  refine ⟨fun m σ' H' => ∃ α' F' ss' st', Nx α F st.length α' F' (List.length st') ∧ Rel K T α' F' H' st' ∧ SR K α' F' st'.length ss' σ' ∧ I m ss' st', ⟨m0, α, F, ss, st, Nx.refl, r, s, h0⟩, ?_⟩
  rintro m σ' H' ⟨α', F', ss', st', n', r', s', hI⟩
  refine hs m ss' st' hI α' F' H' σ' r' s' _ fun α1 F1 H1 b st1 n1 r1 ⟨ht, hf⟩ => ?_
  cases b with
  | true =>
    rw [if_pos rfl]
    refine ⟨fun σ2 H2 => ∃ m', m' < m ∧ ∃ α2 F2 ss2 st2, Nx α F st.length α2 F2 (List.length st2) ∧ Rel K T α2 F2 H2 st2 ∧ SR K α2 F2 st2.length ss2 σ2 ∧ I m' ss2 st2, fun σ2 H2 h => h, ?_⟩
    exact ht rfl α1 F1 H1 σ' r1 (s'.mono n1) _ ⟨fun α3 F3 H3 σ3 ss3 st3 n3 r3 s3 ⟨m', hm, q3⟩ => ⟨m', hm, α3, F3, ss3, st3, n'.trans (n1.trans n3), r3, s3, q3⟩, fun α3 F3 H3 v3 x3 st3 n3 => o.rt α3 F3 H3 v3 x3 st3 (n'.trans (n1.trans n3)),
      fun α3 F3 H3 σ3 ss3 st3 n3 => o.nx α3 F3 H3 σ3 ss3 st3 (n'.trans (n1.trans n3)), fun α3 F3 H3 σ3 ss3 st3 n3 r3 s3 ⟨m', hm, q3⟩ => ⟨m', hm, α3, F3, ss3, st3, n'.trans (n1.trans n3), r3, s3, q3⟩⟩
  | false =>
    rw [if_neg Bool.false_ne_true]
    exact o.nx α1 F1 H1 σ' ss' st1 (n'.trans n1) r1 (s'.mono n1) (hf rfl)

/-! ### comprehensions -/
def wipeS : SS → List Nat → SS
  | ss, [] => ss
  | ss, v :: vs => (wipeS ss vs).set v none
theorem SR.wipe {α : Nat → Addr} {F : Hp} {L : Nat} {σ : L2.St} (s : SR K α F L ss σ) : ∀ vs : List Nat, SR K α F L (wipeS ss vs) (L2.wipe σ vs)
  | [] => s
  | v :: vs => (s.wipe vs).setNone v
theorem wipe_in {σ : L2.St} {i : Nat} : ∀ {vs : List Nat}, i ∈ vs → (L2.wipe σ vs)[i]? = if i < σ.length then some none else none
  | [], h => by simp at h
  | v :: vs, h => by
    unfold L2.wipe
    have hl := L2.wipe_length σ vs
    by_cases e : v = i
    · subst e
      by_cases hv : v < σ.length
      · rw [List.getElem?_set_self (by rw [hl]; exact hv), if_pos hv]
      · rw [List.getElem?_eq_none (by rw [List.length_set, hl]; omega), if_neg hv]
    · rw [List.getElem?_set_ne e]
      rcases List.mem_cons.mp h with h | h
      · exact absurd h.symm e
      · exact wipe_in h
theorem wipe_set {σ : L2.St} {i : Nat} {x : Option V} {vs : List Nat} (h : i ∈ vs) : L2.wipe (σ.set i x) vs = L2.wipe σ vs := by
  apply List.ext_getElem?
  intro j
  by_cases hj : j ∈ vs
  · rw [wipe_in hj, wipe_in hj, List.length_set]
  · rw [L2.wipe_out hj, L2.wipe_out hj, List.getElem?_set_ne]
    rintro rfl
    exact hj h
theorem wipe_wipe {σ : L2.St} {vs : List Nat} : L2.wipe (L2.wipe σ vs) vs = L2.wipe σ vs := by
  apply List.ext_getElem?
  intro j
  by_cases hj : j ∈ vs
  · rw [wipe_in hj, wipe_in hj, L2.wipe_length]
  · rw [L2.wipe_out hj]
def GW (g : TG) (vs : List Nat) : Prop := ∀ (v : V) (σ : L2.St) (H : Hp) (Q : L2.St → Hp → Prop), g v σ H Q → g v σ H fun σ' H' => L2.wipe σ' vs = L2.wipe σ vs ∧ Q σ' H'
def GWs (g : TGs) (vs : List Nat) : Prop := ∀ (v : List V) (σ : L2.St) (H : Hp) (Q : L2.St → Hp → Prop), g v σ H Q → g v σ H fun σ' H' => L2.wipe σ' vs = L2.wipe σ vs ∧ Q σ' H'
theorem gw_name {i : Nat} {vs : List Nat} (h : i ∈ vs) : GW (gName i) vs := fun v σ H Q q => ⟨wipe_set h, q⟩
theorem gw_nil {vs : List Nat} : GWs gNil vs := fun v σ H Q ⟨e, q⟩ => ⟨e, rfl, q⟩
/-- a target's store, weakened (the targets' readings are monotone) -/
def GM (g : TG) : Prop := ∀ (v : V) (σ : L2.St) (H : Hp) (Q Q' : L2.St → Hp → Prop), (∀ σ' H', Q σ' H' → Q' σ' H') → g v σ H Q → g v σ H Q'
def GMs (g : TGs) : Prop := ∀ (v : List V) (σ : L2.St) (H : Hp) (Q Q' : L2.St → Hp → Prop), (∀ σ' H', Q σ' H' → Q' σ' H') → g v σ H Q → g v σ H Q'
theorem gm_name {i : Nat} : GM (gName i) := fun v σ H Q Q' f q => f _ _ q
theorem gm_nil : GMs gNil := fun v σ H Q Q' f ⟨e, q⟩ => ⟨e, f _ _ q⟩
theorem gm_cons {g : TG} {gs : TGs} (a : GM g) (b : GMs gs) : GMs (gCons g gs) := fun v σ H Q Q' f ⟨x, r, e, q⟩ => ⟨x, r, e, a _ _ _ _ _ (fun σ' H' q' => b _ _ _ _ _ f q') q⟩
theorem gm_tup {n : Nat} {gs : TGs} (b : GMs gs) : GM (gTup K n gs) := fun v σ H Q Q' f ⟨a, xs, e, h, l, q⟩ => ⟨a, xs, e, h, l, b _ _ _ _ _ f q⟩
theorem gw_cons {g : TG} {gs : TGs} {vs : List Nat} (m : GM g) (ms : GMs gs) (a : GW g vs) (b : GWs gs vs) : GWs (gCons g gs) vs := fun v σ H Q ⟨x, r, e, q⟩ =>
  ⟨x, r, e, m _ _ _ _ _ (fun σ' H' ⟨e1, q'⟩ => ms _ _ _ _ _ (fun σ2 H2 ⟨e2, q2⟩ => ⟨e2.trans e1, q2⟩) (b _ _ _ _ q')) (a _ _ _ _ q)⟩
theorem gw_tup {n : Nat} {gs : TGs} {vs : List Nat} (b : GWs gs vs) : GW (gTup K n gs) vs := fun v σ H Q ⟨a, xs, e, h, l, q⟩ => ⟨a, xs, e, h, l, b _ _ _ _ q⟩
theorem fm_take {α β : Type} {f : α → Option β} {xs : List α} {i : Nat} {d : α} (h : xs[i]? = some d) : (xs.take (i + 1)).filterMap f = (xs.take i).filterMap f ++ (f d).toList := by
  rw [List.take_add_one, h, List.filterMap_append]
  cases e : f d <;> simp [e]
/-- [e for target in list if tests], the result plain -/
theorem we_lcL {vs : List Nat} (hG : GW g vs) (h : WE K T tl ss st fun x st1 => ∃ xs, x = .pd (.list xs) ∧ xs.length < sizeLine ∧ ∃ f : PyData → Option PyData,
      (∀ (i : Nat) (d : PyData) (acc : List PyData), xs[i]? = some d → WG K T g (.pd d) (wipeS ss vs) (st1 ++ [.mu acc]) fun ss2 st2 => WT K T tt ss2 st2 fun b st3 =>
        (b = true → WE K T te ss2 st3 fun y st4 => ∃ dy st5, pur y st4 = some (dy, st5) ∧ st5.take (st1.length + 1) = st1 ++ [.mu acc] ∧ f d = some dy) ∧ (b = false → st3.take (st1.length + 1) = st1 ++ [.mu acc] ∧ f d = none)) ∧
      Φ (.pd (.list (xs.filterMap f))) st1) :
    WE K T (tLc (iList K tl) g tt te vs) ss st Φ := fun α F H σ r s Q k => h α F H σ r s _ fun α1 F1 H1 v x st1 n1 r1 v1 ⟨xs, e, hsz, f, hs, hq⟩ => by
  subst e
  obtain ⟨a, ws, rfl, h1, h2⟩ := dp_lst v1
  refine ⟨a, rfl, ⟨ws, r1.sub.seq h1⟩, fun D hD => ?_⟩
  have len1 : ∀ acc : List PyData, (st1 ++ [Cell.mu acc]).length = st1.length + 1 := fun acc => by simp
  refine lc_list (xs := ws) (fun i H' => ∃ α' F', Nx α1 F1 st1.length α' F' st1.length ∧ Rel K T α' F' H' (st1 ++ [.mu ((xs.take i).filterMap f)]) ∧ α' st1.length = D)
    ⟨ext α1 st1.length D, F1, ⟨Same.refl _, Nat.le_refl _, fun n hn => ext_ne (Nat.ne_of_lt hn)⟩, r1.cell hD .nil, ext_same⟩ (fun i H' _ ⟨α', F', n', r', _⟩ => r'.sub.seq (n'.sub.seq h1)) (fun i y H' hy ⟨α', F', n', r', eD⟩ => ?_) (fun H' ⟨α', F', n', r', eD⟩ => ?_)
  · obtain ⟨d, hd1, dd⟩ := dps_getV h2 hy
    have hi : i < xs.length := (List.getElem?_eq_some_iff.mp hd1).1
    have nn : Nx α1 F1 st1.length α' F' (st1.length + 1) := ⟨n'.sub, Nat.le_succ _, n'.ag⟩
    have s1 : SR K α' F' (st1 ++ [Cell.mu ((xs.take i).filterMap f)]).length (wipeS ss vs) (L2.wipe σ vs) := by
      rw [len1]
      exact ((s.mono n1).mono nn).wipe vs
    have ez : L2.wipe (L2.wipe σ vs) vs = L2.wipe σ vs := wipe_wipe
    have base := hs i d ((xs.take i).filterMap f) hd1 α' F' H' (L2.wipe σ vs) y r' s1 (dpm n'.sub dd) (fun σ2 H2 => tt σ2 H2 fun b H3 => if b = true then te σ2 H3 fun y H4 => ∃ acc, H4 D = some (.lst acc) ∧ acc.length < sizeLine ∧
        (∃ α' F', Nx α1 F1 st1.length α' F' st1.length ∧ Rel K T α' F' (upd H4 D (.lst (acc ++ [y]))) (st1 ++ [.mu ((xs.take (i + 1)).filterMap f)]) ∧ α' st1.length = D) else
        ∃ α' F', Nx α1 F1 st1.length α' F' st1.length ∧ Rel K T α' F' H3 (st1 ++ [.mu ((xs.take (i + 1)).filterMap f)]) ∧ α' st1.length = D) fun α2 F2 H2 σ2 ss2 st2 n2 r2 s2 q => q α2 F2 H2 σ2 r2 s2 _ fun α3 F3 H3 b st3 n3 r3 ⟨ht, hf⟩ => ?_
    · have := hG _ _ _ _ base
      rw [ez] at this
      exact this
    · have cut : ∀ {α4 : Nat → Addr} {F4 : Hp} {st4 : Sto}, Nx α' F' (st1 ++ [Cell.mu ((xs.take i).filterMap f)]).length α4 F4 st4.length → Nx α1 F1 st1.length α4 F4 st1.length ∧ α4 st1.length = D := fun {α4 F4 st4} n4 => by
        rw [len1] at n4
        exact ⟨⟨n'.sub.trans n4.sub, Nat.le_refl _, fun n hn => (n4.ag n (Nat.lt_succ_of_lt hn)).trans (n'.ag n hn)⟩, (n4.ag _ (Nat.lt_succ_self _)).trans eD⟩
      cases b with
      | true =>
        rw [if_pos rfl]
        refine ht rfl α3 F3 H3 σ2 r3 (s2.mono n3) _ fun α4 F4 H4 vy z st4 n4 r4 v4 ⟨dy, st5, ep, et, ef⟩ => ?_
        obtain ⟨F5, r5, n5, d5⟩ := pur_ok r4 v4 ep
        have nA := n2.trans (n3.trans (n4.trans n5))
        obtain ⟨c1, c2⟩ := cut nA
        have h5 : st5[st1.length]? = some (.mu ((xs.take i).filterMap f)) := by
          have : (st5.take (st1.length + 1))[st1.length]? = some (.mu ((xs.take i).filterMap f)) := by rw [et]; simp
          rw [List.getElem?_take] at this
          simpa using this
        obtain ⟨_, us, e1, d1⟩ := r5.mu _ _ h5
        rw [c2] at e1
        have h6 : (st1 ++ [Cell.mu ((xs.take i).filterMap f)])[st1.length]? = some (.mu ((xs.take i).filterMap f)) := by simp
        have rw5 := (r5.back r' (by rw [len1]; exact et)).write h6 (dps_app d1 (.cons d5 .nil))
        rw [c2] at rw5
        have es : (st1 ++ [Cell.mu ((xs.take i).filterMap f)]).set st1.length (.mu ((xs.take i).filterMap f ++ [dy])) = st1 ++ [.mu ((xs.take (i + 1)).filterMap f)] := by
          rw [fm_take hd1, ef]
          simp
        rw [es] at rw5
        refine ⟨us, e1, ?_, α4, F5, c1, rw5, c2⟩
        rw [dps_len d1]
        have := List.length_filterMap_le f (xs.take i)
        rw [List.length_take] at this
        omega
      | false =>
        rw [if_neg Bool.false_ne_true]
        obtain ⟨et, ef⟩ := hf rfl
        obtain ⟨c1, c2⟩ := cut (n2.trans n3)
        have r3' := r3.back r' (by rw [len1]; exact et)
        refine ⟨α3, F3, c1, ?_, c2⟩
        rw [fm_take hd1, ef]
        simpa using r3'
  · have ea : (xs.take ws.length).filterMap f = xs.filterMap f := by rw [dps_len h2, List.take_length]
    rw [ea] at r'
    have hg : (st1 ++ [Cell.mu (xs.filterMap f)])[st1.length]? = some (.mu (xs.filterMap f)) := by simp
    obtain ⟨F2, r2, n2, d2⟩ := r'.freeze hg
    have et : ((st1 ++ [Cell.mu (xs.filterMap f)]).set st1.length (.fr (xs.filterMap f))).take st1.length = st1 := by simp
    have r3 := r2.back r1 et
    rw [eD] at d2
    exact k α' F2 H' (.ref D) (.pd _) st1 (n1.trans ⟨n'.sub.trans n2.sub, Nat.le_refl _, n'.ag⟩) r3 d2 hq
/-- [e for target in range(lo, n) if tests], the result plain -/
theorem lc_rngX {vs : List Nat} {lo : Int} {n : Nat} {α1 : Nat → Addr} {F1 H1 : Hp} {st1 : Sto} {σ : L2.St} {Q : VK} (hG : GW g vs) (s1 : SR K α1 F1 st1.length ss σ) (r1 : Rel K T α1 F1 H1 st1) (hsz : n < sizeLine) (f : Nat → Option PyData)
    (hs : ∀ (i : Nat) (acc : List PyData), i < n → WG K T g (.pd (.int (lo + (i : Int)))) (wipeS ss vs) (st1 ++ [.mu acc]) fun ss2 st2 => WT K T tt ss2 st2 fun b st3 =>
        (b = true → WE K T te ss2 st3 fun y st4 => ∃ dy st5, pur y st4 = some (dy, st5) ∧ st5.take (st1.length + 1) = st1 ++ [.mu acc] ∧ f i = some dy) ∧ (b = false → st3.take (st1.length + 1) = st1 ++ [.mu acc] ∧ f i = none))
    (k : ∀ α2 F2 H2 D, Nx α1 F1 st1.length α2 F2 st1.length → Rel K T α2 F2 H2 st1 → Dp K F2 (.ref D) (.list ((List.range n).filterMap f)) → Q (.ref D) H2) (D : Addr) (hD : H1 D = none) :
    ∃ W : Nat → Nat → Hp → Prop, (∃ m, W 0 m (upd H1 D (.lst []))) ∧ ∀ i m H, W i m H → ((Itr lo n).stop i H ∧ Q (.ref D) H) ∨ ((Itr lo n).go i H ∧ ∃ Nx : Hp → Prop, (∀ H', Nx H' → ∃ m', m' < m ∧ W (i + 1) m' H') ∧ ∀ x H', (Itr lo n).yld i H x H' → g x (L2.wipe σ vs) H' fun σ2 H2 => L2.wipe σ2 vs = L2.wipe σ vs ∧ tt σ2 H2 fun b H3 =>
        if b = true then te σ2 H3 fun y H4 => ∃ acc, H4 D = some (.lst acc) ∧ acc.length < sizeLine ∧ Nx (upd H4 D (.lst (acc ++ [y]))) else Nx H3) := by
  have len1 : ∀ acc : List PyData, (st1 ++ [Cell.mu acc]).length = st1.length + 1 := fun acc => by simp
  refine lc_range (lo := lo) (n := n) (fun i H' => ∃ α' F', Nx α1 F1 st1.length α' F' st1.length ∧ Rel K T α' F' H' (st1 ++ [.mu ((List.range i).filterMap f)]) ∧ α' st1.length = D)
    ⟨ext α1 st1.length D, F1, ⟨Same.refl _, Nat.le_refl _, fun n hn => ext_ne (Nat.ne_of_lt hn)⟩, r1.cell hD .nil, ext_same⟩ (fun i H' hi ⟨α', F', n', r', eD⟩ => ?_) (fun H' ⟨α', F', n', r', eD⟩ => ?_)
  · have nn : Nx α1 F1 st1.length α' F' (st1.length + 1) := ⟨n'.sub, Nat.le_succ _, n'.ag⟩
    have s1 : SR K α' F' (st1 ++ [Cell.mu ((List.range i).filterMap f)]).length (wipeS ss vs) (L2.wipe σ vs) := by
      rw [len1]
      exact (s1.mono nn).wipe vs
    have ez : L2.wipe (L2.wipe σ vs) vs = L2.wipe σ vs := wipe_wipe
    have es1 : (List.range (i + 1)).filterMap f = (List.range i).filterMap f ++ (f i).toList := by
      rw [List.range_succ, List.filterMap_append]
      cases e : f i <;> simp [e]
    have base := hs i ((List.range i).filterMap f) hi α' F' H' (L2.wipe σ vs) (.int (lo + (i : Int))) r' s1 (Dp.int _) (fun σ2 H2 => tt σ2 H2 fun b H3 => if b = true then te σ2 H3 fun y H4 => ∃ acc, H4 D = some (.lst acc) ∧ acc.length < sizeLine ∧
        (∃ α' F', Nx α1 F1 st1.length α' F' st1.length ∧ Rel K T α' F' (upd H4 D (.lst (acc ++ [y]))) (st1 ++ [.mu ((List.range (i + 1)).filterMap f)]) ∧ α' st1.length = D) else
        ∃ α' F', Nx α1 F1 st1.length α' F' st1.length ∧ Rel K T α' F' H3 (st1 ++ [.mu ((List.range (i + 1)).filterMap f)]) ∧ α' st1.length = D) fun α2 F2 H2 σ2 ss2 st2 n2 r2 s2 q => q α2 F2 H2 σ2 r2 s2 _ fun α3 F3 H3 b st3 n3 r3 ⟨ht, hf⟩ => ?_
    · have := hG _ _ _ _ base
      rw [ez] at this
      exact this
    · have cut : ∀ {α4 : Nat → Addr} {F4 : Hp} {st4 : Sto}, Nx α' F' (st1 ++ [Cell.mu ((List.range i).filterMap f)]).length α4 F4 st4.length → Nx α1 F1 st1.length α4 F4 st1.length ∧ α4 st1.length = D := fun {α4 F4 st4} n4 => by
        rw [len1] at n4
        exact ⟨⟨n'.sub.trans n4.sub, Nat.le_refl _, fun n hn => (n4.ag n (Nat.lt_succ_of_lt hn)).trans (n'.ag n hn)⟩, (n4.ag _ (Nat.lt_succ_self _)).trans eD⟩
      cases b with
      | true =>
        rw [if_pos rfl]
        refine ht rfl α3 F3 H3 σ2 r3 (s2.mono n3) _ fun α4 F4 H4 vy z st4 n4 r4 v4 ⟨dy, st5, ep, et, ef⟩ => ?_
        obtain ⟨F5, r5, n5, d5⟩ := pur_ok r4 v4 ep
        have nA := n2.trans (n3.trans (n4.trans n5))
        obtain ⟨c1, c2⟩ := cut nA
        have h5 : st5[st1.length]? = some (.mu ((List.range i).filterMap f)) := by
          have : (st5.take (st1.length + 1))[st1.length]? = some (.mu ((List.range i).filterMap f)) := by rw [et]; simp
          rw [List.getElem?_take] at this
          simpa using this
        obtain ⟨_, us, e1, d1⟩ := r5.mu _ _ h5
        rw [c2] at e1
        have h6 : (st1 ++ [Cell.mu ((List.range i).filterMap f)])[st1.length]? = some (.mu ((List.range i).filterMap f)) := by simp
        have rw5 := (r5.back r' (by rw [len1]; exact et)).write h6 (dps_app d1 (.cons d5 .nil))
        rw [c2] at rw5
        have es : (st1 ++ [Cell.mu ((List.range i).filterMap f)]).set st1.length (.mu ((List.range i).filterMap f ++ [dy])) = st1 ++ [.mu ((List.range (i + 1)).filterMap f)] := by
          rw [es1, ef]
          simp
        rw [es] at rw5
        refine ⟨us, e1, ?_, α4, F5, c1, rw5, c2⟩
        rw [dps_len d1]
        have := List.length_filterMap_le f (List.range i)
        rw [List.length_range] at this
        omega
      | false =>
        rw [if_neg Bool.false_ne_true]
        obtain ⟨et, ef⟩ := hf rfl
        obtain ⟨c1, c2⟩ := cut (n2.trans n3)
        have r3' := r3.back r' (by rw [len1]; exact et)
        refine ⟨α3, F3, c1, ?_, c2⟩
        rw [es1, ef]
        simpa using r3'
  · have hg : (st1 ++ [Cell.mu ((List.range n).filterMap f)])[st1.length]? = some (.mu ((List.range n).filterMap f)) := by simp
    obtain ⟨F2, r2, n2, d2⟩ := r'.freeze hg
    have et : ((st1 ++ [Cell.mu ((List.range n).filterMap f)]).set st1.length (.fr ((List.range n).filterMap f))).take st1.length = st1 := by simp
    have r3 := r2.back r1 et
    rw [eD] at d2
    exact k α' F2 H' D ⟨n'.sub.trans n2.sub, Nat.le_refl _, n'.ag⟩ r3 d2
theorem we_lcR2 {t : TA} {vs : List Nat} (hG : GW g vs) (h : WA K T t ss st fun xs st1 => ∃ lo n, xs = [.pd (.int lo), .pd (.int n)] ∧ (-(2 ^ 62) ≤ lo ∧ lo < 2 ^ 62 ∧ -(2 ^ 62) ≤ n ∧ n < 2 ^ 62) ∧ (n - lo).toNat < sizeLine ∧ ∃ f : Nat → Option PyData,
      (∀ (i : Nat) (acc : List PyData), i < (n - lo).toNat → WG K T g (.pd (.int (lo + (i : Int)))) (wipeS ss vs) (st1 ++ [.mu acc]) fun ss2 st2 => WT K T tt ss2 st2 fun b st3 =>
        (b = true → WE K T te ss2 st3 fun y st4 => ∃ dy st5, pur y st4 = some (dy, st5) ∧ st5.take (st1.length + 1) = st1 ++ [.mu acc] ∧ f i = some dy) ∧ (b = false → st3.take (st1.length + 1) = st1 ++ [.mu acc] ∧ f i = none)) ∧
      Φ (.pd (.list ((List.range (n - lo).toNat).filterMap f))) st1) :
    WE K T (tLc (iRng2 t) g tt te vs) ss st Φ := fun α F H σ r s Q k => h α F H σ r s _ fun α1 F1 H1 vs1 xs st1 n1 r1 v1 ⟨lo, n, e, b, hsz, f, hs, hq⟩ => by
  subst e
  obtain ⟨v, w, rfl, hv, hw⟩ := vrs2 v1
  obtain rfl := dp_int hv
  obtain rfl := dp_int hw
  exact ⟨lo, n, rfl, b, fun D hD => lc_rngX hG (s.mono n1) r1 hsz f hs (fun α2 F2 H2 D n2 r2 d2 => k α2 F2 H2 (.ref D) (.pd _) st1 (n1.trans n2) r2 d2 hq) D hD⟩
theorem we_lcR1 {t : TA} {vs : List Nat} (hG : GW g vs) (h : WA K T t ss st fun xs st1 => ∃ n, xs = [.pd (.int n)] ∧ -(2 ^ 62) ≤ n ∧ n < 2 ^ 62 ∧ n.toNat < sizeLine ∧ ∃ f : Nat → Option PyData,
      (∀ (i : Nat) (acc : List PyData), i < n.toNat → WG K T g (.pd (.int (0 + (i : Int)))) (wipeS ss vs) (st1 ++ [.mu acc]) fun ss2 st2 => WT K T tt ss2 st2 fun b st3 =>
        (b = true → WE K T te ss2 st3 fun y st4 => ∃ dy st5, pur y st4 = some (dy, st5) ∧ st5.take (st1.length + 1) = st1 ++ [.mu acc] ∧ f i = some dy) ∧ (b = false → st3.take (st1.length + 1) = st1 ++ [.mu acc] ∧ f i = none)) ∧
      Φ (.pd (.list ((List.range n.toNat).filterMap f))) st1) :
    WE K T (tLc (iRng1 t) g tt te vs) ss st Φ := fun α F H σ r s Q k => h α F H σ r s _ fun α1 F1 H1 vs1 xs st1 n1 r1 v1 ⟨n, e, b1, b2, hsz, f, hs, hq⟩ => by
  subst e
  obtain ⟨v, rfl, hv⟩ := vrs1 v1
  obtain rfl := dp_int hv
  exact ⟨n, rfl, b1, b2, fun D hD => lc_rngX hG (s.mono n1) r1 hsz f hs (fun α2 F2 H2 D n2 r2 d2 => k α2 F2 H2 (.ref D) (.pd _) st1 (n1.trans n2) r2 d2 hq) D hD⟩
end

/-! ### defs -/
/-- a def's promise by a transformer of its arguments and the store -/
abbrev Pre := List Val → Sto → (Val → Sto → Prop) → Prop
def spP (K : PySem.W.Frag) (T : TabI) (n : Nat) (p : Pre) : Sp := fun vs H Q _ => ∃ α F st xs Φ, Rel K T α F H st ∧ VRs K α F st.length xs vs ∧ xs.length = n ∧ p xs st Φ ∧
  ∀ (α' : Nat → Addr) (F' H' : Hp) (v : V) (x : Val) (st' : Sto), Nx α F st.length α' F' st'.length → Rel K T α' F' H' st' → VR K α' F' st'.length x v → Φ x st' → Q v H'
section
variable {K : PySem.W.Frag} {T : TabI} {ss : SS} {st : Sto} {Φ : Val → Sto → Prop} {n : Nat} {p : Pre}
theorem we_call {t : TA} {E : XK} (h : WA K T t ss st fun xs st1 => xs.length = n ∧ p xs st1 Φ) : WE K T (tCall (spP K T n p) [] E t) ss st Φ := fun α F H σ r s Q k =>
  h α F H σ r s _ fun α1 F1 H1 vs xs st1 n1 r1 v1 ⟨hl, hp⟩ => ⟨α1, F1, st1, xs, Φ, r1, by rw [List.append_nil]; exact v1, hl, hp, fun α2 F2 H2 v x st2 n2 => k α2 F2 H2 v x st2 (n1.trans n2)⟩
/-- what a body's end must show: the store as it is, or the one of the start -/
def Fin (st0 : Sto) (Φ : Val → Sto → Prop) (x : Val) (st : Sto) : Prop := Φ x st ∨ (st.take st0.length = st0 ∧ (∀ k, x ≠ .cell k) ∧ Φ x st0)
theorem fin_pd {d : PyData} {st st' : Sto} (e : st'.take st.length = st) (h : Φ (.pd d) st) : Fin st Φ (.pd d) st' := .inr ⟨e, fun k z => (nomatch z), h⟩
theorem fin_ob {o : Ob} {st st' : Sto} (e : st'.take st.length = st) (h : Φ (.ob o) st) : Fin st Φ (.ob o) st' := .inr ⟨e, fun k z => (nomatch z), h⟩
theorem fin_all {x : Val} {st st' : Sto} (h : Φ x st') : Fin st Φ x st' := .inl h
def startS (N : List Str) (xs : List Val) : SS := xs.map some ++ List.replicate (N.length - xs.length) none
theorem SR_start {α : Nat → Addr} {F : Hp} {L : Nat} {xs : List Val} {vs : List V} (h : VRs K α F L xs vs) (N : List Str) : SR K α F L (startS N xs) (L2.start N vs) := by
  unfold startS L2.start
  rw [h.len]
  generalize N.length - vs.length = m
  induction h with
  | nil =>
    refine ⟨by simp, fun i x e => ?_⟩
    simp only [List.map_nil, List.nil_append, List.getElem?_replicate] at e
    split at e
    · cases e
    · cases e
  | cons a b ih =>
    refine ⟨by simpa using ih.len, fun i x e => ?_⟩
    cases i with
    | zero =>
      simp at e
      subst e
      exact ⟨_, rfl, a⟩
    | succ i =>
      simp only [List.map_cons, List.cons_append, List.getElem?_cons_succ] at e ⊢
      exact ih.at_ i x e
abbrev PoF (st0 : Sto) (Φ : Val → Sto → Prop) : Po := { nx := fun _ st => Fin st0 Φ (.pd .none) st, rt := Fin st0 Φ, bk := fun _ _ => False, ct := fun _ _ => False }
/-- a body's reading -/
theorem fn_at {N : List Str} {t : TS} {α : Nat → Addr} {F : Hp} {xs : List Val} {vs : List V} {H : Hp} {Q : VK} (r : Rel K T α F H st) (v : VRs K α F st.length xs vs) (hw : WS K T t (startS N xs) st (PoF st Φ))
    (k : ∀ (α' : Nat → Addr) (F' H' : Hp) (v : V) (x : Val) (st' : Sto), Nx α F st.length α' F' st'.length → Rel K T α' F' H' st' → VR K α' F' st'.length x v → Φ x st' → Q v H') : t { nx := fun _ H' => Q .non H', rt := Q } (L2.start N vs) H := by
  have fin : ∀ (α' : Nat → Addr) (F' H' : Hp) (v : V) (x : Val) (st' : Sto), Nx α F st.length α' F' st'.length → Rel K T α' F' H' st' → VR K α' F' st'.length x v → Fin st Φ x st' → Q v H' := by
    intro α' F' H' v x st' n' r' v' q
    rcases q with q | ⟨e, hx, q⟩
    · exact k α' F' H' v x st' n' r' v' q
    · refine k α' F' H' v x st ⟨n'.sub, Nat.le_refl _, n'.ag⟩ (r'.back r e) ?_ q
      cases x with
      | pd d => exact v'
      | ty n => exact v'
      | ob o => exact v'
      | cell j => exact absurd rfl (hx j)
  exact hw α F H (L2.start N vs) r (SR_start v N) _ ⟨fun α' F' H' σ' ss' st' n' r' s' q => fin α' F' H' .non (.pd .none) st' n' r' Dp.non q, fun α' F' H' v x st' n' r' v' q => fin α' F' H' v x st' n' r' v' q, fun _ _ _ _ _ _ _ _ _ q => q.elim, fun _ _ _ _ _ _ _ _ _ q => q.elim⟩
theorem fn_run {N : List Str} {t : TS} {vs : List V} {H : Hp} {Q : VK} {E : XK} (h : spP K T n p vs H Q E) (hw : ∀ (xs : List Val) (st : Sto) (Φ : Val → Sto → Prop), xs.length = n → p xs st Φ → WS K T t (startS N xs) st (PoF st Φ)) :
    t { nx := fun _ H' => Q .non H', rt := Q } (L2.start N vs) H := by
  obtain ⟨α, F, st, xs, Φ, r, v, hl, hp, k⟩ := h
  exact fn_at r v (hw xs st Φ hl hp) k
theorem spP_len {vs : List V} {H : Hp} {Q : VK} {E : XK} (h : spP K T n p vs H Q E) : vs.length = n := by
  obtain ⟨α, F, st, xs, Φ, r, v, hl, hp, k⟩ := h
  rw [← v.len, hl]
end
end Ct

/-! CtL: sorted(rows, key=lambda row: row[0]). -/
namespace Ct
open PySem L2 PyProof.Rows

/-- the lambda's scope has its one parameter alone -/
structure Lam1 (x : Str) (params : Arguments) (scope : Scope) : Prop where
  kind : scope.kind = .function
  co : scope.isCoroutine = false
  gen : scope.isGenerator = false
  names : scope.names = [(x, .local)]
/-- one call of the lambda -/
theorem lam_turn {prog : Program} {w : World} {A : Around} {s : Shared} {x : Str} {f t : Addr} {params : Arguments} {scope : Scope} {pm ctv : Value} {c' : Addr} {qual : Str} {items : Array Value} {i : Int} {tk0 : Tok} {p1 p2 p3 : Pos} {j : Nat}
    (L : Lam1 x params scope) (hf : s.heap.get? f = some (PySem.W.kla_obj "<lambda>" qual params (.Subscript (.Name x p1) (.Constant (.int 0) j p2) p3) scope [] pm c' ctv))
    (hbind : ∀ v : Value, bindArgs (PySem.W.kla_fn "<lambda>" qual params (.Subscript (.Name x p1) (.Constant (.int 0) j p2) p3) scope [] pm (.ref c') ctv) ⟨[v], []⟩ = pure [(x, v)])
    (hcode : s.heap.CodeRec (.ref c') qual) (ht : IsTup s.heap t items) (h0 : items[0]? = some (.int i tk0)) (hroom : A.depth < recursionLimit) (hlim : s.heap.NoLimit) (hd : (x == ("__debug__" : Str)) = false) :
    wpAny (model prog w) A (call (.ref f) [.ref t]) (PySem.W.KeyPure (.int i) s) (fun _ _ => False) s := by
  refine wpAny_call (codeAny_mono (R := fun r s' => match r with | .ok (.ret v) => PySem.W.KeyPure (.int i) s v s' | _ => False) ?_ fun r s' hq => ?_)
  · refine PySem.W.kla_callFunE hroom hf rfl L.co L.gen rfl hcode ?_
    rw [hbind]
    refine wpAny_pure (wpAny_newFunctionEnv (fun y hy => by
      have hy : y ∈ scope.names := hy
      rw [L.names] at hy
      have e : y = (x, .local) := by simpa using hy
      rw [e]
      simp) (fun y hy => by
      have e : y = (x, .ref t) := by simpa using hy
      rw [e]
      show scope.names.lookup x = some .local
      rw [L.names]
      simp) (fun h₁ hns hsb => ⟨hlim.fresh _ hsb, ?_⟩) L.kind)
    have kp : ∀ b o, s.heap.get? b = some o → h₁.get? b = some o := fun b o e => hsb.extBut b o (Nat.ne_of_lt (Heap.lt_size e)) (Heap.get?_push_of_some _ e)
    refine PySem.W.kla_codeExpr ?_
    obtain ⟨o, ho, hcl, n, hdt⟩ := ht
    have hl : 0 < items.size := by
      rcases Nat.lt_or_ge 0 items.size with h | h
      · exact h
      · rw [Array.getElem?_eq_none (by omega)] at h0
        cases h0
    refine Subscript_ (wpAny_Name (wpAny_loadName_local L.kind ?_ hns (v := .ref t) (by simp) (wpAny_Constant_int ?_)) hd)
    · show scope.names.lookup x = some .local
      rw [L.names]
      simp
    · refine subscriptTail_builtinR (x := .int i tk0) (T := "tuple") (id := "tuple.__getitem__") ?_ slot_tuple_getitem.lookup (getItem_tuple (j := 0) (items := items) ⟨o, kp _ _ ho, hcl, n, hdt⟩ (by decide) (by decide) ?_ h0 ⟨rfl, ?_⟩) (by first | rfl | with_unfolding_all rfl)
      · exact (IsTup.typeIs ⟨o, kp _ _ ho, hcl, n, hdt⟩)
      · exact seqIndex_of (by decide) (by omega)
      · exact ⟨h₁, _, rfl, kp, .int i tk0⟩
  · cases r with
    | error e => exact hq.elim
    | ok fl =>
      cases fl with
      | ret u => exact hq
      | next => exact hq.elim
      | brk => exact hq.elim
      | cont => exact hq.elim

def rowKey : PyData → Int
  | .tuple (.int i :: _) => i
  | _ => 0
def rowLe (d e : PyData) : Bool := decide (rowKey d ≤ rowKey e)
def sortRows (vs : List V) (ds : List PyData) : List V := ((vs.zip ds).mergeSort fun x y => rowLe x.2 y.2).map (·.1)
/-- sorted(e, key=lambda row: row[0]) -/
def tSortRow (K : PySem.W.Frag) (T : List (Addr × Str)) (t : TA) : TE := fun σ H Q => t σ H fun us H1 => ∃ a vs ds, us = [.ref a] ∧ SqL K H1 a vs ∧ DpAll K H1 vs ds ∧ (∀ d ∈ ds, ∃ i r, d = .tuple (.int i :: r)) ∧ LamX.Tabs T H1 ∧
  ∀ H2, LamX.ExtN H1 H2 → LamX.Tabs T H2 → ∀ p, H2 p = none → Q (.ref p) (upd H2 p (.lst (sortRows vs ds)))
theorem dp_zip {K : PySem.W.Frag} {H : Hp} : ∀ {vs : List V} {ds : List PyData}, DpAll K H vs ds → ∀ b ∈ vs.zip ds, Dp K H b.1 b.2
  | _, _, .nil, b, hb => by simp at hb
  | _, _, .cons h t, b, hb => by
    rw [List.zip_cons_cons] at hb
    rcases List.mem_cons.mp hb with rfl | hb
    · exact h
    · exact dp_zip t b hb
theorem each_zip {R : Value → V × PyData → Prop} : ∀ {vs : List V} {ds : List PyData} {us : List Value}, Vals vs us → vs.length = ds.length → (∀ b ∈ vs.zip ds, ∀ u, RelV b.1 u → R u b) → PySem.W.EachIs R us (vs.zip ds)
  | _, [], _, .nil, _, _ => .nil
  | _, _ :: _, _, .nil, e, _ => by simp at e
  | _, [], _, .cons _ _, e, _ => by simp at e
  | _, d :: ds, _, .cons h t, e, f => .cons (f _ (List.mem_cons_self ..) _ h) (each_zip t (by simpa using e) fun b hb => f b (List.mem_cons_of_mem _ hb))
theorem vals_each {R : Value → V × PyData → Prop} (f : ∀ u b, R u b → RelV b.1 u) : ∀ {us : List Value} {bs : List (V × PyData)}, PySem.W.EachIs R us bs → Vals (bs.map (·.1)) us
  | _, _, .nil => .nil
  | _, _, .cons h t => .cons (f _ _ h) (vals_each f t)
section
variable {X : Cx}
theorem pe_sortRow {T : List (Addr × Str)} {c P : Addr} {k : Nat} {e : Expr} {t : TA} {x sx : Str} {params : Arguments} {scope : Scope} {p p0 p1 p2 p3 kpos lpos : Pos} {j : Nat} {ky : Option Str}
    (hsx : sx = "sorted") (hky : ky = some (Str.ofString "key")) (hg : Gl X "sorted") (hm : X.mg "sorted" = none) (TB : LamX.TabB X.base X.mg c P) (hcode : X.env.code = .ref c)
    (hmT : (P, X.env.qual ++ "<lambda>") ∈ T) (hu : ∀ p ∈ T, p.1 = P → p.2 = X.env.qual ++ "<lambda>") (hr : Room k X.A) (L : Lam1 x params scope) (hx : (x == ("__debug__" : Str)) = false)
    (hdef : defaultsOf params X.env = ([], []))
    (hbind : ∀ (c' : Addr) (pm ctv v : Value), bindArgs (PySem.W.kla_fn "<lambda>" (X.env.qual ++ "<lambda>") params (.Subscript (.Name x p1) (.Constant (.int 0) j p2) p3) scope [] pm (.ref c') ctv) ⟨[v], []⟩ = pure [(x, v)])
    (ha : PA X [e] t) (he : backTo p (starEach [e] X.env) = (false, eval e X.env) :: backTo p (starEach [] X.env) := by rfl) (hpl : (backTo p (starEach [e] X.env)).any (·.1) = false := by rfl) :
    PE X (.Call (.Name sx p0) [e] [⟨ky, .Lambda params (.Subscript (.Name x p1) (.Constant (.int 0) j p2) p3) scope lpos, kpos⟩] p) (tSortRow X.K T t) := by
  subst hsx hky
  refine ⟨fun pins s σ H Q I h => ?_⟩
  refine wpAny_Call_Name_kw (ld_blt I hg hm boot_sorted ?_)
  refine PyProof.Rows.callWith_kw (thn (ha.run p pins s σ H _ I h) fun us s1 ⟨vs1, H1, I1, r1, q1⟩ => ?_) he hpl (by rfl) (by rfl)
  obtain ⟨a, vs, ds, rfl, hS, hD, hrow, hT, q⟩ := q1
  obtain ⟨u, rfl, ru⟩ : ∃ u, us = [u] ∧ RelV (.ref a) u := by
    cases r1 with
    | cons h t =>
      cases t
      exact ⟨_, rfl, h⟩
  cases ru
  have hclo : cloFrom X.env.cells scope.names [] = [] := by
    rw [L.names]
    rfl
  show wpAny _ _ (evalAll ((do let v ← eval _ X.env; standAt p; pure v) :: [])) _ _ s1
  refine wpAny_evalAll_cons (wpAny_bind (LamX.lam_make2 I1 TB hcode hmT hu hT hdef (fun y hy e => ?_) fun f c' pm ctv H2 s2 I2 eN T2 hf hfn hfr hco => wpAny_bind (wpAny_standAt (wpAny_pure (wpAny_evalAll_nil ?_)))))
  · rw [L.names] at hy
    have ey : y = (x, .local) := by simpa using hy
    rw [ey] at e
    cases e
  · rw [hclo] at hf
    show wpAny _ _ (call (.builtin "sorted") [.ref a] [(Str.ofString "key", .ref f)]) _ _ s2
    have hS2 : SqL X.K H2 a vs := by
      rcases hS with (h | ⟨o, h⟩) | h
      · exact .inl (.inl (eN _ _ h fun ps z => by cases z))
      · exact .inl (.inr ⟨o, eN _ _ h fun ps z => by cases z⟩)
      · exact .inr h
    have up : ∀ {v d}, Dp X.K H1 v d → (∃ i r, d = .tuple (.int i :: r)) → ∃ t ws, v = .ref t ∧ SqT X.K H2 t ws ∧ ws[0]? = some (.int (rowKey d)) := fun {v d} hd ⟨i, r, e⟩ => by
      subst e
      obtain ⟨t, ws, rfl, h1, h2⟩ := dp_tup hd
      refine ⟨t, ws, rfl, ?_, ?_⟩
      · rcases h1 with (h | ⟨o, h⟩) | h
        · exact .inl (.inl (eN _ _ h fun ps z => by cases z))
        · exact .inl (.inr ⟨o, eN _ _ h fun ps z => by cases z⟩)
        · exact .inr h
      · obtain ⟨v, e1, e2⟩ := dps_get h2 (i := 0) rfl
        rw [e1, dp_int e2]
        rfl
    obtain ⟨its, rv, pl, hz⟩ := I2.list hS2
    have hlen := dps_len hD
    have hlz : (vs.zip ds).length = vs.length := by rw [List.length_zip]; omega
    have hA := hr.dp
    have hU := hr.un
    obtain ⟨⟨oc, cvs, tq, hoc, hdc, hvc⟩, _, _⟩ := I2.hok c' _ hco
    refine PySem.W.sorted_key_data (b := false) (R := fun u (b : V × PyData) => RelV b.1 u) (fun b : V × PyData => .int (rowKey b.2)) pl.isList (each_zip rv hlen fun b _ u h => h) (PySem.W.AllAlike.of fun _ _ => rfl) (PySem.W.Sortable.others fun _ => ⟨fun z => (nomatch z), fun xs z => (nomatch z)⟩) (by rw [hlz]; exact hz)
      (fun b _ => ?_) (ksk_s1 _ _) (fun _ => ksk_l1 _ _) (fun _ => ksk_t1 _ _) (fun u b hR hb g tk kp => ?_) fun out cc h' tk kp fr hat hl hE => ?_
    · show X.A.units + 2 + (PyData.int (rowKey b.2)).depth < cLine
      have : (PyData.int (rowKey b.2)).depth = 0 := by simp [PyData.depth]
      omega
    · obtain ⟨t, ws, e1, h1, h2⟩ := up (dp_zip hD b hb) (hrow _ (List.of_mem_zip hb).2)
      rw [e1] at hR
      cases hR
      obtain ⟨its2, rv2, ⟨o, ho, hcl, n, hdt⟩, _⟩ := I2.tuple h1
      obtain ⟨u0, g1, g2⟩ := rv2.get h2
      obtain ⟨tk0, rfl⟩ := g2
      exact lam_turn (s := { s2 with heap := g, toks := tk }) L (kp _ _ hf) (fun v => hbind c' pm ctv v) ⟨c', oc, cvs, tq, rfl, kp _ _ hoc, hdc, hvc⟩ ⟨o, kp _ _ ho, hcl, n, hdt⟩ (by simpa using g1) (by show X.A.depth < _; omega) (I2.nolimit.keeps kp) hx
    · have eo : PySem.W.dataLe false (fun b : V × PyData => .int (rowKey b.2)) = fun x y => rowLe x.2 y.2 := PySem.W.dataLe_int (β := V × PyData) fun b => rowKey b.2
      rw [eo] at hE
      have hv : Vals (sortRows vs ds) out := vals_each (fun _ _ h => h) hE
      have hls : (sortRows vs ds).length ≤ sizeLine := by
        unfold sortRows
        rw [List.length_map, List.length_mergeSort, hlz]
        exact hz
      have hp : s2.heap.objs.size ≤ s2.heap.objs.size + 1 := Nat.le_succ _
      exact ⟨.ref _, upd H2 (s2.heap.objs.size + 1) (.lst (sortRows vs ds)), I2.laid (t' := tk) kp hp ⟨hls, out, cc, hv, hat⟩, rfl, q H2 eN T2 _ (I2.hok.fresh hp)⟩
end

section
variable {K : PySem.W.Frag} {T : TabI} {ss : SS} {st : Sto} {Φ : Val → Sto → Prop}
theorem dps_pairs {F : Hp} : ∀ {ps : List (V × PyData)}, (∀ b ∈ ps, Dp K F b.1 b.2) → DpAll K F (ps.map (·.1)) (ps.map (·.2))
  | [], _ => .nil
  | b :: ps, h => .cons (h b (List.mem_cons_self ..)) (dps_pairs fun c hc => h c (List.mem_cons_of_mem _ hc))
theorem dps_sort {F : Hp} {vs : List V} {ds : List PyData} (h : DpAll K F vs ds) : DpAll K F (sortRows vs ds) (ds.mergeSort rowLe) := by
  have e : ds.mergeSort rowLe = ((vs.zip ds).mergeSort fun x y => rowLe x.2 y.2).map (·.2) := by
    rw [List.map_mergeSort (s := rowLe) (f := fun b : V × PyData => b.2) (fun a _ b _ => rfl)]
    congr 1
    show ds = (vs.zip ds).map Prod.snd
    rw [List.map_snd_zip]
    rw [dps_len h]
    exact Nat.le_refl _
  rw [e]
  exact dps_pairs fun b hb => dp_zip h b (List.mem_mergeSort.mp hb)
theorem Rel.growN {α : Nat → Addr} {F H H' : Hp} (r : Rel K T α F H st) (s : LamX.ExtN H H') (t : T.P H') : Rel K T α F H' st :=
  ⟨fun a o e => s a o (r.sub a o e) fun ps z => r.nt a ps (by rw [e, z]), r.nt, t, fun n c e => (r.at_ n c e).move Nx.refl (fun _ h => h) fun _ o no h => s _ _ h (fun ps z => no ps z), r.inj⟩
theorem we_sortRow {t : TA} {P1 : Addr} {q : Str} (hT : T.Has P1 q) (h : WA K T t ss st fun xs st1 => ∃ x ds, xs = [x] ∧ look x st1 = some (.list ds) ∧ (∀ d ∈ ds, ∃ i r, d = .tuple (.int i :: r)) ∧ Φ (.pd (.list (ds.mergeSort rowLe))) st1) :
    WE K T (tSortRow K [(P1, q)] t) ss st Φ := fun α F H σ r s Q k => h α F H σ r s _ fun α1 F1 H1 us xs st1 n1 r1 v1 ⟨x, ds, e, hl, hrow, hq⟩ => by
  subst e
  obtain ⟨v, rfl, hv⟩ := vrs1 v1
  obtain ⟨a, vs, rfl, hS, hD⟩ := look_lst r1 hv hl
  refine ⟨a, vs, ds, rfl, hS, dpsm r1.sub hD, hrow, hT.to _ r1.tab, fun H2 eN T2 p hp => ?_⟩
  have r2 := r1.growN eN (hT.of _ _ r1.tab eN T2)
  have hF := none_of r2 hp
  exact k α1 (upd F1 p (.lst (sortRows vs ds))) _ (.ref p) (.pd _) st1 (n1.trans (Nx.new hF)) (r2.new hp fun ps z => by cases z) (Dp.lst (.inl (.inl upd_same)) (dpsm (same_upd hF) (dps_sort hD))) hq
end
end Ct

/-! CtD: rules that join forms (int + int or list + list; an item of a list or a tuple; a tuple or a list unpacked), calls of defs by one fact, isinstance. -/
namespace Ct
open PySem L2 PyProof.Rows

def rOr (r r' : R2) : R2 := fun x y H Q => r x y H Q ∨ r' x y H Q
theorem OpR.or {X : Cx} {f : Value → Value → Sem Value} {r r' : R2} (h : OpR X f r) (h' : OpR X f r') : OpR X f (rOr r r') := by
  intro pins s σ H x y v u Q I rx ry q
  rcases q with q | q
  · exact h pins s σ H x y v u Q I rx ry q
  · exact h' pins s σ H x y v u Q I rx ry q
theorem op_addU {X : Cx} : OpR X (binaryOp .Add) (rOr (rI0 fun i j => .int (i + j)) (rCatS X.K)) := OpR.or op_add op_catS
def gOr (t t' : TG) : TG := fun v σ H Q => t v σ H Q ∨ t' v σ H Q
theorem pg_or {X : Cx} {e : Expr} {t t' : TG} (h : PG X e t) (h' : PG X e t') : PG X e (gOr t t') := by
  refine ⟨fun pins s σ H v u Q I r q => ?_⟩
  rcases q with q | q
  · exact h.run pins s σ H v u Q I r q
  · exact h'.run pins s σ H v u Q I r q
/-- a def that is called: its promise, its name, how it binds -/
structure Cal (P : Program) (w : World) (K : PySem.W.Frag) (mg : Str → Option Value) (base : Heap) (k : Nat) (x : Str) (ps : List Str) (sp : Sp) : Prop where
  ex : ∃ (f : Addr) (fd : FuncData), FnOk P w K mg base CX0 k f fd ps sp ∧ mg x = some (.ref f) ∧ PySem.W.keepIn K (.ref f) = true ∧ Binds K fd ps []
theorem pe_callC {X : Cx} {k : Nat} {x : Str} {ps : List Str} {sp : Sp} {p pos : Pos} {e : Expr} {es : List Expr} {t : TA} (c : Cal X.prog X.w X.K X.mg X.base k x ps sp) (hr : Room k X.A) (hg : Gl X x) (ha : PA X (e :: es) t) (hdb : (x == ("__debug__" : Str)) = false := by decide)
    (he : starEach (e :: es) X.env = (false, eval e X.env) :: starEach es X.env := by rfl) (hpl : (backTo pos (starEach es X.env)).any (·.1) = false := by rfl) :
    PE X (.Call (.Name x p) (e :: es) [] pos) (tCall sp [] E0 t) := by
  obtain ⟨f, fd, F, hm, kp, b⟩ := c.ex
  exact pe_call F hr hg hm kp b .nil pass0 ha hdb he hpl
/-- a def as it stands behind the top -/
def Df (K : PySem.W.Frag) (mg : Str → Option Value) (x : Str) (st : Stmt) : Prop := ∃ (f : Addr) (fd : FuncData), Fun K x x st f fd ∧ mg x = some (.ref f)
theorem Df.cal {P : Program} {w : World} {K : PySem.W.Frag} {mg : Str → Option Value} {base : Heap} {k : Nat} {x : Str} {st : Stmt} {ps : List Str} {sp : Sp} (d : Df K mg x st) (h : ∀ (f : Addr) (fd : FuncData), Fun K x x st f fd → FnOk P w K mg base CX0 k f fd ps sp)
    (b : ∀ (kV doc pm : Value) (an : Option Addr) (cdv ct : Value) (us : List Value), us.length = ps.length → bindArgs (PySem.W.fnOf x x (defArgs st) (defBody st) (defScope st) .none kV doc pm an cdv ct) ⟨us, []⟩ = pure (ps.zip us)) : Cal P w K mg base k x ps sp := by
  obtain ⟨f, fd, F, m⟩ := d
  exact ⟨f, fd, h f fd F, m, F.kp, F.binds b⟩

section
variable {K : PySem.W.Frag} {T : TabI} {ss : SS} {st : Sto} {Φ : Val → Sto → Prop} {te ta tb tc tl : TE} {tt tu : TT} {P : Po} {Y : SS → Sto → Prop}
theorem wr_addI {i j : Int} {r' : R2} (q : Φ (.pd (.int (i + j))) st) : WR K T (rOr (rI0 fun i j => .int (i + j)) r') (.pd (.int i)) (.pd (.int j)) st Φ := fun α F H vx vy r hx hy Q k => .inl (wr_I0 rfl q α F H vx vy r hx hy Q k)
theorem wr_addL {x y : Val} {xs ys : List PyData} {r0 : R2} (hn : look x st = some (.list xs)) (hm : look y st = some (.list ys)) (hl : xs.length + ys.length ≤ sizeLine) (q : Φ (.pd (.list (xs ++ ys))) st) : WR K T (rOr r0 (rCatS K)) x y st Φ :=
  fun α F H vx vy r hx hy Q k => .inr (wr_catS hn hm hl q α F H vx vy r hx hy Q k)
theorem wr_ixuL {x : Val} {ds : List PyData} {i : Int} {d : PyData} (h : look x st = some (.list ds)) (e : atI ds i = some d) (q : Φ (.pd d) st) : WR K T (rIx K) x (.pd (.int i)) st Φ := fun α F H vx vy r hx hy Q k => .inl (wr_ixL h e q α F H vx vy r hx hy Q k)
theorem wr_ixuT {ds : List PyData} {i : Int} {d : PyData} (e : atI ds i = some d) (q : Φ (.pd d) st) : WR K T (rIx K) (.pd (.tuple ds)) (.pd (.int i)) st Φ := fun α F H vx vy r hx hy Q k => .inr (.inl (wr_ixT e q α F H vx vy r hx hy Q k))
theorem wg_orT {n : Nat} {gs : TGs} {g' : TG} {ds : List PyData} (hn : ds.length = n) (h : WGs K T gs (ds.map Val.pd) ss st Y) : WG K T (gOr (gTup K n gs) g') (.pd (.tuple ds)) ss st Y := fun α F H σ v r s hv Q k => .inl (wg_tup hn h α F H σ v r s hv Q k)
theorem wg_orL {n : Nat} {gs : TGs} {g' : TG} {ds : List PyData} (hn : ds.length = n) (h : WGs K T gs (ds.map Val.pd) ss st Y) : WG K T (gOr g' (gUnl K n gs)) (.pd (.list ds)) ss st Y := fun α F H σ v r s hv Q k => .inr (wg_unl hn h α F H σ v r s hv Q k)
/-- x in a list of flat data, by eqv -/
def pyTy : PyData → String
  | .none => "NoneType"
  | .bool _ => "bool"
  | .int _ => "int"
  | .str _ => "str"
  | .list _ => "list"
  | .tuple _ => "tuple"
  | .dict _ => "dict"
theorem ty_of {F : Hp} {v : V} {d : PyData} (h : Dp K F v d) : TyX K F v (.type (pyTy d)) := by
  cases h with
  | non => exact .base .non
  | bl b => exact .base (.bl b)
  | int i => exact .base (.int i)
  | str x => exact .base (.str x)
  | lst h t =>
    rcases h with (h | ⟨o, h⟩) | ⟨o, its, n, h1, h2, _⟩
    · exact .base (.lst h)
    · exact .base (.frz h)
    · exact .kList h1 h2
  | tup h t =>
    rcases h with (h | ⟨o, h⟩) | ⟨o, its, n, h1, h2, _⟩
    · exact .base (.tup h)
    · exact .fTuple h
    · exact .kTuple h1 h2
theorem wc_isi {x : Val} {d : PyData} {c : String} {b : Bool} (hl : look x st = some d) (hk : PySem.W.kitOne K (.type (pyTy d)) (.type c) = some b) (q : Φ (.pd (.bool b)) st) : WC K T (rIsi K) [x, .ty c] st Φ := fun α F H vs r hv Q k => by
  obtain ⟨v, w, rfl, h1, h2⟩ := vrs2 hv
  have h2 : w = .ty c := h2
  subst h2
  exact ⟨v, .ty c, _, .type c, b, rfl, .ty c, ty_of (look_ok r h1 hl), hk, k α F H _ (.pd _) st Nx.refl r (Dp.bl _) q⟩
def inD (d : PyData) (ds : List PyData) : Bool := ds.any fun e => PyData.eqv e d
def flatD : PyData → Bool
  | .none => true
  | .bool _ => true
  | .int _ => true
  | .str _ => true
  | _ => false
theorem flat_ok {F : Hp} {v : V} {d : PyData} (h : Dp K F v d) (f : flatD d = true) : flatV v = true := by
  cases h with
  | non => rfl
  | bl b => rfl
  | int i => rfl
  | str x => rfl
  | lst h t => cases f
  | tup h t => cases f
theorem flats_ok {F : Hp} : ∀ {vs : List V} {ds : List PyData}, DpAll K F vs ds → ds.all flatD = true → vs.all flatV = true
  | _, _, .nil, _ => rfl
  | _, _, .cons h t, f => by
    rw [List.all_cons, Bool.and_eq_true] at f
    rw [List.all_cons, flat_ok h f.1, flats_ok t f.2]
    rfl
theorem eqV_ok {F : Hp} {v w : V} {d e : PyData} (h : Dp K F v d) (g : Dp K F w e) (f : flatD d = true) (f2 : flatD e = true) : eqV v w = PyData.eqv d e := by
  cases h <;> cases g <;> first | cases f; done | cases f2; done | (simp [eqV, PyData.eqv]; done) | skip
theorem inV_ok {F : Hp} {v : V} {d : PyData} (h : Dp K F v d) (f : flatD d = true) : ∀ {vs : List V} {ds : List PyData}, DpAll K F vs ds → ds.all flatD = true → inV v vs = inD d ds
  | _, _, .nil, _ => rfl
  | _, _, .cons g t, f2 => by
    rw [List.all_cons, Bool.and_eq_true] at f2
    have := inV_ok h f t f2.2
    unfold inV inD at this ⊢
    rw [List.any_cons, List.any_cons, this, eqV_ok g h f2.1 f]
theorem wr_in {y : Val} {d : PyData} {ds : List PyData} (hl : look y st = some (.list ds)) (f : flatD d = true) (f2 : ds.all flatD = true) (q : Φ (.pd (.bool (inD d ds))) st) : WR K T (rIn K false) (.pd d) y st Φ := fun α F H vx vy r hx hy Q k => by
  obtain ⟨a, vs, rfl, h1, h2⟩ := look_lst r hy hl
  refine ⟨a, vs, rfl, .inl h1, flat_ok hx f, flats_ok h2 f2, k α F H _ (.pd (.bool (inD d ds))) st Nx.refl r ?_ q⟩
  rw [inV_ok hx f h2 f2]
  exact Dp.bl _
theorem eqv_int (i j : Int) : PyData.eqv (.int i) (.int j) = (i == j) := by simp [PyData.eqv]
theorem eqv_str (i j : Str) : PyData.eqv (.str i) (.str j) = (i == j) := by simp [PyData.eqv]
theorem shaped_int (i : Int) : SeqAt.shaped (.int i) = true := by simp [SeqAt.shaped, PyData.canLay0, PyData.depth]
theorem shaped_none : SeqAt.shaped .none = true := by simp [SeqAt.shaped, PyData.canLay0, PyData.depth]
end
end Ct
namespace Ct
open PySem L2
theorem room_u {k : Nat} {A : Around} (hr : Room k A) : A.units + 64 < cLine := by
  have := hr.un
  omega
end Ct
namespace Ct
open PySem L2
theorem pe_tyN {X : Cx} {x : Str} {n : String} {pos : Pos} (hg : Gl X x) (hm : X.mg x = none) (hv : bootBuiltins x = some (.type n)) (hn : x ≠ "__name__" := by decide) (hd : (x == ("__debug__" : Str)) = false := by decide) : PE X (.Name x pos) (tC (.ty n)) := pe_bltn hg hm hv rfl hn hd
end Ct
namespace Ct
open PySem L2
section
variable {K : PySem.W.Frag} {T : TabI} {ss : SS} {st : Sto} {Φ : Val → Sto → Prop}
theorem wr_mul {i j : Int} (h : CMul i j) (q : Φ (.pd (.int (i * j))) st) : WR K T (rI CMul fun i j => .int (i * j)) (.pd (.int i)) (.pd (.int j)) st Φ := wr_I h rfl q
theorem wr_mod {i j : Int} (h : 0 < j) (q : Φ (.pd (.int (i % j))) st) : WR K T (rI (fun _ j => 0 < j) fun i j => .int (i % j)) (.pd (.int i)) (.pd (.int j)) st Φ := wr_I h rfl q
theorem wr_div {i j : Int} (h : 0 < j ∧ j < 1073741824) (q : Φ (.pd (.int (i / j))) st) : WR K T (rI CDiv fun i j => .int (i / j)) (.pd (.int i)) (.pd (.int j)) st Φ := wr_I h rfl q
theorem wr_pow {i j : Int} (h : CPow i j) (q : Φ (.pd (.int (i ^ j.toNat))) st) : WR K T (rI CPow fun i j => .int (i ^ j.toNat)) (.pd (.int i)) (.pd (.int j)) st Φ := wr_I h rfl q
theorem wr_sub {i j : Int} (q : Φ (.pd (.int (i - j))) st) : WR K T (rI0 fun i j => .int (i - j)) (.pd (.int i)) (.pd (.int j)) st Φ := wr_I0 rfl q
theorem wr_lt {i j : Int} (q : Φ (.pd (.bool (decide (i < j)))) st) : WR K T (rI0 fun i j => .bl (decide (i < j))) (.pd (.int i)) (.pd (.int j)) st Φ := wr_I0 rfl q
theorem wr_le {i j : Int} (q : Φ (.pd (.bool (decide (i ≤ j)))) st) : WR K T (rI0 fun i j => .bl (decide (i ≤ j))) (.pd (.int i)) (.pd (.int j)) st Φ := wr_I0 rfl q
theorem wr_eqInt {i j : Int} (q : Φ (.pd (.bool (decide (i = j)))) st) : WR K T (rEqD K) (.pd (.int i)) (.pd (.int j)) st Φ := wr_eqD rfl rfl (shaped_int i) (shaped_int j) (by
  rw [eqv_int, show (i == j) = decide (i = j) from rfl]
  exact q)
theorem wr_neInt {i j : Int} (q : Φ (.pd (.bool (!decide (i = j)))) st) : WR K T (rNeD K) (.pd (.int i)) (.pd (.int j)) st Φ := wr_neD rfl rfl (shaped_int i) (shaped_int j) (by
  rw [eqv_int, show (i == j) = decide (i = j) from rfl]
  exact q)
theorem wr_eqStr {i j : Str} (hi : SeqAt.shaped (.str i) = true) (hj : SeqAt.shaped (.str j) = true) (q : Φ (.pd (.bool (decide (i = j)))) st) : WR K T (rEqD K) (.pd (.str i)) (.pd (.str j)) st Φ := wr_eqD rfl rfl hi hj (by
  have e : PyData.eqv (.str i) (.str j) = decide (i = j) := by
    rw [eqv_str]
    by_cases h : i = j
    · subst h
      simp
    · simp [h]
  rw [e]
  exact q)
theorem wr_neStr {i j : Str} (hi : SeqAt.shaped (.str i) = true) (hj : SeqAt.shaped (.str j) = true) (q : Φ (.pd (.bool (!decide (i = j)))) st) : WR K T (rNeD K) (.pd (.str i)) (.pd (.str j)) st Φ := wr_neD rfl rfl hi hj (by
  have e : PyData.eqv (.str i) (.str j) = decide (i = j) := by
    rw [eqv_str]
    by_cases h : i = j
    · subst h
      simp
    · simp [h]
  rw [e]
  exact q)
end
end Ct
namespace Ct
open PySem L2
theorem big_lt {n : Nat} (h : n < 1000000) : n < sizeLine := Nat.lt_of_lt_of_le h (by decide)
theorem big_le {n : Nat} (h : n ≤ 1000000) : n ≤ sizeLine := Nat.le_trans h (by decide)
theorem look_end {st0 jk : Sto} {xs : List PyData} : look (.cell st0.length) (st0 ++ (.mu xs :: jk)) = some (.list xs) := by
  unfold look
  simp
theorem get_end {st0 jk : Sto} {c : Cell} : (st0 ++ (c :: jk))[st0.length]? = some c := by simp
theorem set_end {st0 jk : Sto} {c c' : Cell} : (st0 ++ (c :: jk)).set st0.length c' = st0 ++ (c' :: jk) := by simp
theorem pur_end {st0 jk : Sto} {xs : List PyData} : pur (.cell st0.length) (st0 ++ (.mu xs :: jk)) = some (.list xs, st0 ++ (.fr xs :: jk)) := by
  unfold pur
  simp
theorem pur_endF {st0 jk : Sto} {xs : List PyData} : pur (.cell st0.length) (st0 ++ (.fr xs :: jk)) = some (.list xs, st0 ++ (.fr xs :: jk)) := by
  unfold pur
  simp
section
variable {K : PySem.W.Frag} {T : TabI} {ss : SS} {st : Sto} {Φ : Val → Sto → Prop} {te : TE} {P : Po}
theorem ws_appEnd {i : Nat} {st0 jk : Sto} {xs : List PyData} (hi : ss[i]? = some (some (.cell st0.length))) (hl : xs.length < 1000000)
    (h : WE K T te ss (st0 ++ (.mu xs :: jk)) fun x st2 => ∃ d jk2, x = .pd d ∧ st2 = st0 ++ (.mu xs :: jk2) ∧ P.nx ss (st0 ++ (.mu (xs ++ [d]) :: jk2))) : WS K T (tDrop (tBM K "list" rAppend (tVar i) (tCons te tNil))) ss (st0 ++ (.mu xs :: jk)) P := by
  refine ws_app (we_var hi ⟨_, _, rfl, get_end, we_mono h ?_⟩)
  rintro x st' ⟨d, jk2, rfl, rfl, q⟩
  refine ⟨d, _, xs, rfl, get_end, big_lt hl, ?_⟩
  rw [set_end]
  exact q
/-- return of a cell of the body's own: plain -/
theorem ws_retEnd {i : Nat} {st0 jk : Sto} {xs : List PyData} (hi : ss[i]? = some (some (.cell st0.length))) (q : P.rt (.pd (.list xs)) (st0 ++ (.fr xs :: jk))) : WS K T (tRet (tVar i)) ss (st0 ++ (.mu xs :: jk)) P :=
  ws_ret (we_pur (we_var hi ⟨_, _, pur_end, q⟩))
theorem fin_end {d : PyData} {st jk : Sto} (h : Φ (.pd d) st) : Fin st Φ (.pd d) (st ++ jk) := fin_pd (by simp) h
end
open PyData
theorem canLayAll_iff : ∀ {ds : List PyData}, (∀ d ∈ ds, d.canLay0 = true) → PyData.canLayAll0 ds = true
  | [], _ => by simp [PyData.canLayAll0]
  | d :: ds, h => by
    rw [PyData.canLayAll0, h d (List.mem_cons_self ..), canLayAll_iff fun e he => h e (List.mem_cons_of_mem _ he)]
    rfl
theorem depthAll_le {k : Nat} : ∀ {ds : List PyData}, (∀ d ∈ ds, d.depth ≤ k) → PyData.depthAll ds ≤ k
  | [], _ => by simp [PyData.depthAll]
  | d :: ds, h => by
    rw [PyData.depthAll]
    exact Nat.max_le.mpr ⟨h d (List.mem_cons_self ..), depthAll_le fun e he => h e (List.mem_cons_of_mem _ he)⟩
/-- may be compared, k deep -/
def Sh (k : Nat) (d : PyData) : Prop := d.canLay0 = true ∧ d.depth ≤ k
theorem Sh.shaped {k : Nat} {d : PyData} (h : Sh k d) (hk : k ≤ 64 := by decide) : SeqAt.shaped d = true := by
  unfold SeqAt.shaped
  rw [h.1]
  exact decide_eq_true (Nat.le_trans h.2 hk)
theorem sh_int {k : Nat} (i : Int) : Sh k (.int i) := ⟨by simp [PyData.canLay0], by simp [PyData.depth]⟩
theorem sh_none {k : Nat} : Sh k .none := ⟨by simp [PyData.canLay0], by simp [PyData.depth]⟩
theorem sh_bool {k : Nat} (b : Bool) : Sh k (.bool b) := ⟨by simp [PyData.canLay0], by simp [PyData.depth]⟩
theorem sh_list {k : Nat} {ds : List PyData} (h : ∀ d ∈ ds, Sh k d) : Sh (k + 1) (.list ds) := ⟨by rw [PyData.canLay0]; exact canLayAll_iff fun d hd => (h d hd).1, by rw [PyData.depth]; exact Nat.succ_le_succ (depthAll_le fun d hd => (h d hd).2)⟩
theorem sh_tuple {k : Nat} {ds : List PyData} (h : ∀ d ∈ ds, Sh k d) : Sh (k + 1) (.tuple ds) := ⟨by rw [PyData.canLay0]; exact canLayAll_iff fun d hd => (h d hd).1, by rw [PyData.depth]; exact Nat.succ_le_succ (depthAll_le fun d hd => (h d hd).2)⟩
theorem eqv_list (xs ys : List PyData) : PyData.eqv (.list xs) (.list ys) = PyData.eqvAll xs ys := by simp [PyData.eqv]
theorem eqv_tuple (xs ys : List PyData) : PyData.eqv (.tuple xs) (.tuple ys) = PyData.eqvAll xs ys := by simp [PyData.eqv]
theorem eqvAll_cons (x y : PyData) (xs ys : List PyData) : PyData.eqvAll (x :: xs) (y :: ys) = (PyData.eqv x y && PyData.eqvAll xs ys) := by simp [PyData.eqvAll]
theorem eqvAll_nil : PyData.eqvAll [] [] = true := by simp [PyData.eqvAll]
theorem eqvAll_nil_cons (y : PyData) (ys : List PyData) : PyData.eqvAll [] (y :: ys) = false := by simp [PyData.eqvAll]
theorem eqvAll_cons_nil (y : PyData) (ys : List PyData) : PyData.eqvAll (y :: ys) [] = false := by simp [PyData.eqvAll]
/-- lists of like things -/
theorem eqvAll_map {α : Type} [DecidableEq α] {f : α → PyData} (h : ∀ x y, PyData.eqv (f x) (f y) = decide (x = y)) : ∀ xs ys : List α, PyData.eqvAll (xs.map f) (ys.map f) = decide (xs = ys)
  | [], [] => by simp [PyData.eqvAll]
  | [], y :: ys => by simp [PyData.eqvAll]
  | x :: xs, [] => by simp [PyData.eqvAll]
  | x :: xs, y :: ys => by
    rw [List.map_cons, List.map_cons, eqvAll_cons, h, eqvAll_map h xs ys]
    by_cases e : x = y <;> by_cases e2 : xs = ys <;> simp [e, e2]
end Ct
namespace Ct
open PySem L2
theorem purs_nil {st : Sto} : purs [] st = some ([], st) := rfl
theorem purs_cons {d : PyData} {xs : List Val} {ds : List PyData} {st st' : Sto} (h : purs xs st = some (ds, st')) : purs (.pd d :: xs) st = some (d :: ds, st') := by
  unfold purs
  rw [show pur (.pd d) st = some (d, st) from rfl]
  simp [h]
end Ct
namespace Ct
open PySem L2
section
variable {K : PySem.W.Frag} {T : TabI} {ss : SS} {st : Sto} {Φ : Val → Sto → Prop} {te : TE} {P : Po}
theorem ws_sA {g : TG} {u : TS} (h : WE K T te ss st fun x st1 => WG K T g x ss st1 fun ss2 st2 => WS K T u ss2 st2 P) : WS K T (tSeq (tAsg te g) u) ss st P := ws_seq (ws_asg h)
theorem ws_sD {u : TS} (h : WS K T (tDrop te) ss st { P with nx := fun ss1 st1 => WS K T u ss1 st1 P }) : WS K T (tSeq (tDrop te) u) ss st P := ws_seq h
theorem ws_sG {i : Nat} {u : TS} {f : Int → Int → Int} {a : Int} (hx : ss[i]? = some (some (.pd (.int a)))) (h : WE K T te ss st fun y st1 => ∃ b, y = .pd (.int b) ∧ WS K T u (ss.set i (some (.pd (.int (f a b))))) st1 P) : WS K T (tSeq (tAug i te (ipI f)) u) ss st P := ws_seq (ws_aug hx h)
theorem ws_sS {to ti : TE} {tg : V → V → Hp → VK → Prop} {tip : TIp} {ts : TSet} {u : TS} (h : WS K T (tAugS to ti te tg tip ts) ss st { P with nx := fun ss1 st1 => WS K T u ss1 st1 P }) : WS K T (tSeq (tAugS to ti te tg tip ts) u) ss st P := ws_seq h
/-- a statement, a word, the rest -/
theorem ws_mid {t u : TS} (Mid : SS → Sto → Prop) (h : WS K T t ss st { P with nx := Mid }) (k : ∀ (ss' : SS) (st' : Sto), Mid ss' st' → WS K T u ss' st' P) : WS K T (tSeq t u) ss st P := fun α F H σ r s D o =>
  ws_seq (fun α F H σ r s D o => h α F H σ r s D ⟨fun α1 F1 H1 σ1 ss1 st1 n1 r1 s1 m => o.nx α1 F1 H1 σ1 ss1 st1 n1 r1 s1 (k ss1 st1 m), o.rt, o.bk, o.ct⟩) α F H σ r s D o
end
end Ct
namespace Ct
open PySem L2
section
variable {K : PySem.W.Frag} {T : TabI} {ss : SS} {st : Sto} {Φ : Val → Sto → Prop} {te : TE} {P : Po}
theorem wx_end {st0 jk : Sto} {xs : List PyData} {i : Int} {j : Nat} {d : PyData} {Y : Sto → Prop} (hj : ixN xs.length i = some j) (q : Y (st0 ++ (.mu (xs.set j d) :: jk))) : WX K T rSetL (.cell st0.length) (.pd (.int i)) (.pd d) (st0 ++ (.mu xs :: jk)) Y := by
  refine wx_list get_end hj ?_
  rw [set_end]
  exact q
theorem ixN_last {n : Nat} (h : 0 < n) : ixN n (-1) = some (n - 1) := by
  unfold ixN
  rw [if_neg (by omega), if_pos (by omega)]
  congr 1
  omega
theorem set_last {α : Type} (xs : List α) (x y : α) : (xs ++ [x]).set ((xs ++ [x]).length - 1) y = xs ++ [y] := by simp
end
/-- a def with a lambda in it -/
def lamQ (x : Str) : Str := x ++ ".<locals>." ++ "<lambda>"
structure Gath (K : PySem.W.Frag) (base : Heap) (mg : Str → Option Value) (T : TabI) (x : Str) (st : Stmt) : Prop where
  ex : ∃ (f c P : Addr) (oc : Value) (od : Option Addr) (kV doc pm : Value) (an : Option Addr) (ct : Value) (osl : Array (Option Value)), K.lookup f = some ⟨oc, od, .func (PySem.W.fnOf x x (defArgs st) (defBody st) (defScope st) .none kV doc pm an (.ref c) ct), osl⟩ ∧
    PySem.W.codeIn K (.ref c) x = true ∧ PySem.W.keepIn K (.ref f) = true ∧ mg x = some (.ref f) ∧ LamX.TabB base mg c P ∧ T.Has P (lamQ x)
theorem gath_cal {P : Program} {w : World} {K : PySem.W.Frag} {mg : Str → Option Value} {base : Heap} {T : TabI} {k : Nat} {x : Str} {st : Stmt} {N ps : List Str} {sp : Sp} (g : Gath K base mg T x st) (S : FnScope N ps (defScope st)) (len : ∀ vs H Q E, sp vs H Q E → vs.length = ps.length)
    (b : ∀ (kV doc pm : Value) (an : Option Addr) (cdv ct : Value) (us : List Value), us.length = ps.length → bindArgs (PySem.W.fnOf x x (defArgs st) (defBody st) (defScope st) .none kV doc pm an cdv ct) ⟨us, []⟩ = pure (ps.zip us))
    (hbody : ∀ (f c P1 : Addr), LamX.TabB base mg c P1 → T.Has P1 (lamQ x) → ∀ (A : Around) (outer : List Env) (s : Shared) (H : Hp) (vs : List V) (Q : VK) (E : XK), Room k (A.deeper (PyProof.Rows.envOfC x (defScope st) s.heap.objs.size f (.ref c))) → sp vs H Q E →
      ∃ t, PSs (cxOf CX0 P w K mg base N x (defScope st) f (.ref c) A outer s H E).nox (defBody st) t ∧ t { nx := fun _ H' => Q .non H', rt := Q } (L2.start N vs) H) : Cal P w K mg base (k + 1) x ps sp := by
  obtain ⟨f, c, P1, oc, od, kV, doc, pm, an, ct, osl, lk, hcd, kp, hm, TB, hT⟩ := g.ex
  refine ⟨f, _, fn_of lk hcd S len fun A outer s H vs Q E hr h => ?_, hm, kp, .all (b kV doc pm an (.ref c) ct)⟩
  obtain ⟨t, h1, h2⟩ := hbody f c P1 TB hT A outer s H vs Q E hr h
  exact ⟨t, h1.nox, h2⟩
end Ct
namespace Ct
open PySem L2
section
variable {K : PySem.W.Frag} {T : TabI} {ss : SS} {st : Sto} {X : SS → Sto → Prop}
theorem wgs_consM {g : TG} {gs : TGs} {d : PyData} {ds : List PyData} (h : WG K T g (.pd d) ss st fun ss1 st1 => WGs K T gs (ds.map Val.pd) ss1 st1 X) : WGs K T (gCons g gs) ((d :: ds).map Val.pd) ss st X := wgs_cons h
theorem wgs_nilM (q : X ss st) : WGs K T gNil (([] : List PyData).map Val.pd) ss st X := wgs_nil q
end
end Ct
namespace Ct
theorem take_snoc {st : Sto} {c : Cell} : (st ++ [c]).take (st.length + 1) = st ++ [c] := List.take_of_length_le (by simp)
end Ct
namespace Ct
open PySem L2
section
variable {X : Cx} {K : PySem.W.Frag}
theorem op_addK (h : X.K = K) : OpR X (binaryOp .Add) (rOr (rI0 fun i j => .int (i + j)) (rCatS K)) := by subst h; exact op_addU
theorem op_eqK (h : X.K = K) (hu : X.A.units + 64 < cLine) : OpR X (compareOp .Eq) (rEqD K) := by subst h; exact op_eqD hu
theorem op_neK (h : X.K = K) (hu : X.A.units + 64 < cLine) : OpR X (compareOp .NotEq) (rNeD K) := by subst h; exact op_neD hu
theorem op_inK (h : X.K = K) : OpR X (compareOp .In) (rIn K false) := by subst h; exact op_in_seq
theorem ix_seqK (h : X.K = K) : IxR X (rIx K) := by subst h; exact ix_seq
theorem sl_listK (h : X.K = K) : SlR X (rSlL K) := by subst h; exact sl_list
theorem call_isiK (h : X.K = K) : CallR X (.builtin "isinstance") (rIsi K) := by subst h; exact call_isi
theorem call_lenK (h : X.K = K) : CallR X (.builtin "len") (fun xs H Q => ∃ p ys, xs = [.ref p] ∧ (SqL K H p ys ∨ SqT K H p ys) ∧ Q (.int ys.length) H) := by subst h; exact call_len_seq
theorem call_listK (h : X.K = K) : CallR X (.type "list") (fun xs H Q => ∃ p ys, xs = [.ref p] ∧ (SqL K H p ys ∨ SqT K H p ys) ∧ ∀ l, H l = none → Q (.ref l) (upd H l (.lst ys))) := by subst h; exact call_list_of
theorem cr_sumK (h : X.K = K) (hc : X.calm = true) : CallR X (.builtin "sum") (rSum K) := by subst h; exact cr_sum hc
theorem cr_minK' (h : X.K = K) (hc : X.calm = true) : CallR X (.builtin "min") (rMin K) := by subst h; exact cr_min hc
theorem cr_maxK' (h : X.K = K) (hc : X.calm = true) : CallR X (.builtin "max") (rMax K) := by subst h; exact cr_max hc
end
end Ct
namespace Ct
open PySem L2
theorem look_mu {st : Sto} {n : Nat} {xs : List PyData} (h : st[n]? = some (.mu xs)) : look (.cell n) st = some (.list xs) := by
  simp only [look, h]
theorem fin_same {d : PyData} {st st' : Sto} {Φ : Val → Sto → Prop} (e : st'.length = st.length) (h : Φ (.pd d) st') : Fin st Φ (.pd d) st' := .inl h
/-- three numbers that are drawn from -/
def Pur (st : Sto) (n : Nat) : Prop := ∃ p0 p1 p2 : Int, st[n]? = some (.mu [.int p0, .int p1, .int p2])
structure Only (st st' : Sto) (n : Nat) : Prop where
  len : st'.length = st.length
  at_ : ∀ k, k ≠ n → st'[k]? = st[k]?
theorem Only.refl {st : Sto} {n : Nat} : Only st st n := ⟨rfl, fun _ _ => rfl⟩
theorem Only.trans {a b c : Sto} {n : Nat} (h : Only a b n) (g : Only b c n) : Only a c n := ⟨g.len.trans h.len, fun k hk => (g.at_ k hk).trans (h.at_ k hk)⟩
theorem Only.set {st : Sto} {n : Nat} {c : Cell} : Only st (st.set n c) n := ⟨List.length_set, fun k hk => List.getElem?_set_ne fun e => hk e.symm⟩
theorem get_setSelf {st : Sto} {n : Nat} {c c' : Cell} (h : st[n]? = some c) : (st.set n c')[n]? = some c' := List.getElem?_set_self (List.getElem?_eq_some_iff.mp h).1
theorem Only.pur {a b : Sto} {n k : Nat} (h : Only a b n) (hk : k ≠ n) (p : Pur a k) : Pur b k := by
  obtain ⟨x, y, z, e⟩ := p
  exact ⟨x, y, z, by rw [h.at_ k hk]; exact e⟩
end Ct

/-! CtE: from the head's facts to the law. -/
namespace Ct
open PySem L2 PyProof.Rows
theorem df_mk {K : PySem.W.Frag} {h : Heap} {mg : Str → Option Value} {x : Str} {st : Stmt} {f : Addr} {oc kV doc pm cdv ct : Value} {od an : Option Addr} {osl : Array (Option Value)} (X : K.In h) (G : h.Ns mainGlobals mg)
    (a : PySem.W.nsIn K mainGlobals x = some (some (.ref f))) (l : K.lookup f = some ⟨oc, od, .func (PySem.W.fnOf x x (defArgs st) (defBody st) (defScope st) .none kV doc pm an cdv ct), osl⟩) (c : PySem.W.codeIn K cdv x = true) (k : PySem.W.keepIn K (.ref f) = true) : Df K mg x st :=
  ⟨f, _, fun_mk l c k, PySem.W.mg_of X G a⟩
theorem cst_mk {K : PySem.W.Frag} {h : Heap} {mg : Str → Option Value} {x : Str} {i : Int} {t : Tok} (X : K.In h) (G : h.Ns mainGlobals mg) (a : PySem.W.nsIn K mainGlobals x = some (some (.int i t))) : ∃ t, mg x = some (.int i t) := ⟨t, PySem.W.mg_of X G a⟩
/-- a def with one table -/
structure Gl1 (K : PySem.W.Frag) (h : Heap) (mg : Str → Option Value) (x : Str) (st : Stmt) (c P : Addr) : Prop where
  ex : ∃ (f : Addr) (oc : Value) (od : Option Addr) (kV doc pm : Value) (an : Option Addr) (ct : Value) (osl : Array (Option Value)), K.lookup f = some ⟨oc, od, .func (PySem.W.fnOf x x (defArgs st) (defBody st) (defScope st) .none kV doc pm an (.ref c) ct), osl⟩ ∧
    PySem.W.codeIn K (.ref c) x = true ∧ PySem.W.keepIn K (.ref f) = true ∧ mg x = some (.ref f)
  hd : PySem.W.CodeHd h c P
  tb : h.get? P = some { cls := .none, data := .fields #[] }
  no : K.lookup P = none
theorem gl1_mk {K : PySem.W.Frag} {h : Heap} {mg : Str → Option Value} {x : Str} {st : Stmt} {f c P : Addr} {oc kV doc pm ct : Value} {od an : Option Addr} {osl : Array (Option Value)}
    (X : K.In h) (G : h.Ns mainGlobals mg) (a : PySem.W.nsIn K mainGlobals x = some (some (.ref f))) (l : K.lookup f = some ⟨oc, od, .func (PySem.W.fnOf x x (defArgs st) (defBody st) (defScope st) .none kV doc pm an (.ref c) ct), osl⟩) (cc : PySem.W.codeIn K (.ref c) x = true) (k : PySem.W.keepIn K (.ref f) = true)
    (hd : PySem.W.codeHdIn K c P = true) (tb : h.get? P = some { cls := .none, data := .fields #[] }) (no : K.lookup P = none) : Gl1 K h mg x st c P :=
  ⟨⟨f, oc, od, kV, doc, pm, an, ct, osl, l, cc, k, PySem.W.mg_of X G a⟩, PySem.W.codeHd_of_K X hd, tb, no⟩
theorem Gl1.gath {K : PySem.W.Frag} {h base : Heap} {mg : Str → Option Value} {x : Str} {st : Stmt} {c P : Addr} (g : Gl1 K h mg x st c P) (TB : LamX.TabB base mg c P) : Gath K base mg (tabL [(P, lamQ x)]) x st := by
  obtain ⟨f, oc, od, kV, doc, pm, an, ct, osl, l, cc, k, m⟩ := g.ex
  exact ⟨f, c, P, oc, od, kV, doc, pm, an, ct, osl, l, cc, k, m, TB, tabL_has⟩
/-- the heap at the start, without tables -/
def noTbl (H : Hp) : Hp := fun b => match H b with
  | some (.tbl _) => none
  | x => x
theorem noTbl_of {H : Hp} {b : Addr} {o : HO} (h : H b = some o) (no : ∀ ps, o ≠ .tbl ps) : noTbl H b = some o := by
  unfold noTbl
  rw [h]
  cases o <;> first | rfl | exact absurd rfl (no _)
theorem noTbl_to {H : Hp} {b : Addr} {o : HO} (h : noTbl H b = some o) : H b = some o ∧ ∀ ps, o ≠ .tbl ps := by
  unfold noTbl at h
  cases e : H b with
  | none =>
    rw [e] at h
    cases h
  | some o' =>
    rw [e] at h
    cases o' <;> first | (cases h; exact ⟨rfl, fun ps z => by cases z⟩) | cases h
theorem start_rel {K : PySem.W.Frag} {H : Hp} {P : Addr} {q : Str} (h : H P = some (.tbl #[])) : Rel K (tabL [(P, q)]) (fun _ => 0) (noTbl H) H [] where
  sub := fun b o e => (noTbl_to e).1
  nt := fun b ps e => (noTbl_to e).2 ps rfl
  tab := fun p hp => by
    rw [List.mem_singleton.mp hp]
    exact ⟨#[], h, trivial, fun pos cv e => by cases e⟩
  at_ := fun n c e => by cases n <;> cases e
  inj := fun n m c d e _ _ _ _ => by cases n <;> cases e
theorem start_seq {K : PySem.W.Frag} {H : Hp} {a : Addr} {xs : List V} (h : SqL K H a xs) : SqL K (noTbl H) a xs := by
  rcases h with (h | ⟨o, h⟩) | h
  · exact .inl (.inl (noTbl_of h fun ps z => by cases z))
  · exact .inl (.inr ⟨o, noTbl_of h fun ps z => by cases z⟩)
  · exact .inr h
/-- the script as the law gets it -/
theorem start_sp {K : PySem.W.Frag} {H : Hp} {P a : Addr} {q : Str} {ns : List Int} {p : Pre} (h : H P = some (.tbl #[])) (hs : SqL K H a (ns.map V.int)) (hp : p [.pd (.list (ns.map PyData.int))] [] fun x _ => x = .pd (.bool true)) :
    spP K (tabL [(P, q)]) 1 p [.ref a] H (fun v _ => v = .bl true) fun _ _ _ => False :=
  ⟨fun _ => 0, noTbl H, [], [.pd (.list (ns.map PyData.int))], _, start_rel h, .cons (x := .pd (.list (ns.map PyData.int))) (Dp.lst (start_seq hs) (dps_ints' ns)) .nil, rfl, hp, fun α' F' H' v x st' _ _ hv e => by
    subst e
    exact dp_bl hv⟩
end Ct

/-! CtF: instances of own classes: as cells while they are written, as things that never change behind that. -/
namespace Ct
open PySem L2 PyProof.Rows
def putG {β : Type} (f : Str) (v : β) : List (Str × β) → List (Str × β)
  | [] => [(f, v)]
  | (g, x) :: r => if g = f then (g, v) :: r else (g, x) :: putG f v r
theorem putG_V (f : Str) (v : V) : ∀ fs : List (Str × V), putF f v fs = putG f v fs
  | [] => rfl
  | (g, x) :: r => by
    show (if g = f then _ else (g, x) :: putF f v r) = (if g = f then _ else (g, x) :: putG f v r)
    rw [putG_V f v r]
section
variable {K : PySem.W.Frag} {T : TabI} {α α' : Nat → Addr} {F F' H : Hp} {L L' : Nat} {ss : SS} {st : Sto} {Φ : Val → Sto → Prop} {te ta tv : TE} {P : Po}
theorem FRs.get {f : Str} {x : Val} : ∀ {fs : List (Str × Val)} {vs : List (Str × V)}, FRs K α F L fs vs → fs.lookup f = some x → ∃ v, vs.lookup f = some v ∧ VR K α F L x v
  | _, _, .nil, e => by cases e
  | _, _, .cons (f := g) h t, e => by
    rw [List.lookup_cons] at e ⊢
    cases hb : f == g with
    | true =>
      rw [hb] at e
      cases e
      exact ⟨_, rfl, h⟩
    | false =>
      rw [hb] at e
      exact t.get e
theorem FRs.no {f : Str} : ∀ {fs : List (Str × Val)} {vs : List (Str × V)}, FRs K α F L fs vs → fs.lookup f = none → vs.lookup f = none
  | _, _, .nil, e => rfl
  | _, _, .cons (f := g) h t, e => by
    rw [List.lookup_cons] at e ⊢
    cases hb : f == g with
    | true =>
      rw [hb] at e
      cases e
    | false =>
      rw [hb] at e
      exact t.no e
theorem FRs.put {f : Str} {x : Val} {v : V} (r : VR K α F L x v) : ∀ {fs : List (Str × Val)} {vs : List (Str × V)}, FRs K α F L fs vs → FRs K α F L (putG f x fs) (putG f v vs)
  | _, _, .nil => .cons r .nil
  | _, _, .cons (f := g) (x := y) (v := w) (xs := xs) (vs := ws) h t => by
    show FRs K α F L (if g = f then (g, x) :: xs else (g, y) :: putG f x xs) (if g = f then (g, v) :: ws else (g, w) :: putG f v ws)
    by_cases hg : g = f
    · rw [if_pos hg, if_pos hg]
      exact .cons r t
    · rw [if_neg hg, if_neg hg]
      exact .cons h (t.put r)
theorem FRs.len : ∀ {fs : List (Str × Val)} {vs : List (Str × V)}, FRs K α F L fs vs → fs.length = vs.length
  | _, _, .nil => rfl
  | _, _, .cons _ t => congrArg (· + 1) t.len
theorem nx0 (s : Same F F') : Nx (fun _ => 0) F 0 α F' L := ⟨s, Nat.zero_le _, fun n h => absurd h (Nat.not_lt_zero n)⟩
/-- an instance that never changes -/
def insO (K : PySem.W.Frag) (C : Addr) (fs : List (Str × Val)) : Ob := ⟨fun F v => ∃ a dx vs, v = .ref a ∧ F a = some (.ins C dx vs) ∧ FRs K (fun _ => 0) F 0 fs vs,
  fun s ⟨a, dx, vs, e, h, r⟩ => ⟨a, dx, vs, e, s _ _ h, r.mono (nx0 s)⟩⟩
inductive IsIns (K : PySem.W.Frag) (st : Sto) (C : Addr) (fs : List (Str × Val)) : Val → Prop
  | cell {n : Nat} (h : st[n]? = some (.ins C fs)) : IsIns K st C fs (.cell n)
  | ob : IsIns K st C fs (.ob (insO K C fs))
theorem IsIns.ok {x : Val} {v : V} {C : Addr} {fs : List (Str × Val)} (r : Rel K T α F H st) (hv : VR K α F st.length x v) (h : IsIns K st C fs x) : ∃ a dx vs, v = .ref a ∧ H a = some (.ins C dx vs) ∧ FRs K α F st.length fs vs := by
  cases h with
  | cell h =>
    obtain ⟨_, dx, vs, h2, h3⟩ := r.ins _ _ _ h
    exact ⟨_, dx, vs, hv.2, h2, h3⟩
  | ob =>
    obtain ⟨a, dx, vs, e, h2, h3⟩ := hv
    exact ⟨a, dx, vs, e, r.sub _ _ h2, h3.mono (nx0 (Same.refl F))⟩
theorem we_fld {f : Str} (h : WE K T ta ss st fun x st1 => ∃ C fs y, IsIns K st1 C fs x ∧ Cls K C ∧ NoAttr K C f ∧ fs.lookup f = some y ∧ Φ y st1) : WE K T (tFld K ta f) ss st Φ := fun α F H σ r s Q k =>
  h α F H σ r s _ fun α1 F1 H1 v x st1 n1 r1 v1 ⟨C, fs, y, hi, c, n, l, q⟩ => by
    obtain ⟨a, dx, vs, rfl, h2, h3⟩ := hi.ok r1 v1
    obtain ⟨w, e, hw⟩ := h3.get l
    exact ⟨a, C, dx, vs, w, rfl, h2, c, n, e, k α1 F1 H1 w y st1 n1 r1 hw q⟩
theorem ws_fld {f : Str} (h : WE K T tv ss st fun y st1 => WE K T ta ss st1 fun x st2 => ∃ n C fs, x = .cell n ∧ st2[n]? = some (.ins C fs) ∧ Cls K C ∧ NoAttr K C f ∧ fs.length < 1000 ∧ P.nx ss (st2.set n (.ins C (putG f y fs)))) : WS K T (sFld K ta tv f) ss st P := fun α F H σ r s D o =>
  h α F H σ r s _ fun α1 F1 H1 w y st1 n1 r1 v1 q => q α1 F1 H1 σ r1 (s.mono n1) _ fun α2 F2 H2 v x st2 n2 r2 v2 ⟨n, C, fs, e, hn, c, na, hl, q⟩ => by
    subst e
    obtain ⟨h1, dx, vs, h2, h3⟩ := r2.ins _ _ _ hn
    refine ⟨α2 n, C, dx, vs, v2.2, h2, c, na, by rw [← h3.len]; exact hl, ?_⟩
    have nn := n1.trans n2
    refine o.nx α2 F2 _ σ ss (st2.set n (.ins C (putG f y fs))) (by rw [List.length_set]; exact nn) (r2.writeG hn trivial h2 (fun ps z => by cases z) (fun φ z => by cases z) ⟨h1, dx, _, upd_same, ?_⟩) (by rw [List.length_set]; exact s.mono nn) q
    rw [putG_V]
    exact h3.put (v1.mono n2)
theorem ws_sF {f : Str} {u : TS} (h : WS K T (sFld K ta tv f) ss st { P with nx := fun ss1 st1 => WS K T u ss1 st1 P }) : WS K T (tSeq (sFld K ta tv f) u) ss st P := ws_seq h
theorem we_make {t : TA} {C : Addr} {n : Nat} {p : Pre} {E : XK} (h : WA K T t ss st fun xs st1 => (Val.cell st1.length :: xs).length = n ∧ p (.cell st1.length :: xs) (st1 ++ [.ins C []]) fun v st2 => v = .pd .none ∧ Φ (.cell st1.length) st2) :
    WE K T (tMake C (spP K T n p) [] E t) ss st Φ := fun α F H σ r s Q k => h α F H σ r s _ fun α1 F1 H1 vs xs st1 n1 r1 v1 ⟨hl, hp⟩ x dx hx hdx ne => by
  have g1 : Same H1 (upd H1 dx (.own x)) := same_upd hdx
  have r2 := r1.grow g1 (T.ext g1 r1.tab)
  have hx2 : upd H1 dx (.own x) x = none := by rw [upd_ne ne.symm]; exact hx
  have len : (st1 ++ [Cell.ins C []]).length = st1.length + 1 := by simp
  have r3 := r2.cellG (c := .ins C []) (o := .ins C dx []) hx2 ⟨none_of r2 hx2, dx, [], upd_same, .nil⟩ fun ps z => by cases z
  have nx3 : Nx α1 F1 st1.length (ext α1 st1.length x) F1 (st1 ++ [Cell.ins C []]).length := by rw [len]; exact Nx.ext
  refine ⟨ext α1 st1.length x, F1, _, .cell st1.length :: xs, _, r3, .cons (x := .cell st1.length) ⟨by rw [len]; omega, by rw [ext_same]⟩ (by rw [List.append_nil]; exact v1.mono nx3), hl, hp, fun α2 F2 H2 v y st2 n2 r4 v2 ⟨e, q⟩ => ?_⟩
  subst e
  have n3 := nx3.trans n2
  refine ⟨dp_non v2, k α2 F2 H2 (.ref x) (.cell st1.length) st2 (n1.trans n3) r4 ⟨Nat.lt_of_lt_of_le (by rw [len]; omega) n2.le, ?_⟩ q⟩
  rw [n2.ag _ (by rw [len]; omega), ext_same]
theorem we_meth {t : TA} {C : Addr} {m : Str} {n : Nat} {p : Pre} {E : XK} (h : WE K T ta ss st fun x st1 => ∃ fs, IsIns K st1 C fs x ∧ fs.lookup m = none ∧ WA K T t ss st1 fun xs st2 => (x :: xs).length = n ∧ p (x :: xs) st2 Φ) :
    WE K T (tMeth C m (spP K T n p) [] E ta t) ss st Φ := fun α F H σ r s Q k => h α F H σ r s _ fun α1 F1 H1 v x st1 n1 r1 v1 ⟨fs, hi, l, q⟩ => by
  obtain ⟨a, dx, vs, rfl, h2, h3⟩ := hi.ok r1 v1
  exact ⟨a, dx, vs, rfl, h2, h3.no l, q α1 F1 H1 σ r1 (s.mono n1) _ fun α2 F2 H2 ws xs st2 n2 r2 w2 ⟨hl, hp⟩ => ⟨α2, F2, st2, x :: xs, Φ, r2, .cons (v1.mono n2) (by rw [List.append_nil]; exact w2), hl, hp, fun α3 F3 H3 z y st3 n3 => k α3 F3 H3 z y st3 ((n1.trans n2).trans n3)⟩⟩
/-- what a written instance's attribute becomes -/
def frzV : Val → Sto → Option (Val × Sto)
  | .pd d, st => some (.pd d, st)
  | .ob o, st => some (.ob o, st)
  | .ty n, st => some (.ty n, st)
  | .cell n, st => (pur (.cell n) st).map fun p => (.pd p.1, p.2)
def frzF : List (Str × Val) → Sto → Option (List (Str × Val) × Sto)
  | [], st => some ([], st)
  | (f, x) :: r, st => (frzV x st).bind fun p => (frzF r p.2).bind fun q => some ((f, p.1) :: q.1, q.2)
theorem frzV_ok {x y : Val} {v : V} {st' : Sto} (r : Rel K T α F H st) (hv : VR K α F st.length x v) (e : frzV x st = some (y, st')) : ∃ F', Rel K T α F' H st' ∧ Nx α F st.length α F' st'.length ∧ VR K (fun _ => 0) F' 0 y v := by
  cases x with
  | pd d =>
    cases e
    exact ⟨F, r, Nx.refl, hv⟩
  | ob o =>
    cases e
    exact ⟨F, r, Nx.refl, hv⟩
  | ty n =>
    cases e
    exact ⟨F, r, Nx.refl, hv⟩
  | cell n =>
    unfold frzV at e
    rw [Option.map_eq_some_iff] at e
    obtain ⟨⟨d, st2⟩, e1, e2⟩ := e
    cases e2
    obtain ⟨F', r', n', d'⟩ := pur_ok r hv e1
    exact ⟨F', r', n', d'⟩
theorem frzF_ok : ∀ {fs gs : List (Str × Val)} {vs : List (Str × V)} {F : Hp} {st st' : Sto}, Rel K T α F H st → FRs K α F st.length fs vs → frzF fs st = some (gs, st') → ∃ F', Rel K T α F' H st' ∧ Nx α F st.length α F' st'.length ∧ FRs K (fun _ => 0) F' 0 gs vs
  | [], _, _, F, st, _, r, .nil, e => by
    cases e
    exact ⟨F, r, Nx.refl, .nil⟩
  | (f, x) :: fs, gs, _, F, st, st', r, .cons h t, e => by
    unfold frzF at e
    rw [Option.bind_eq_some_iff] at e
    obtain ⟨⟨y, st1⟩, e1, e⟩ := e
    rw [Option.bind_eq_some_iff] at e
    obtain ⟨⟨hs, st2⟩, e2, e⟩ := e
    cases e
    obtain ⟨F1, r1, n1, d1⟩ := frzV_ok r h e1
    obtain ⟨F2, r2, n2, d2⟩ := frzF_ok r1 (t.mono n1) e2
    exact ⟨F2, r2, n1.trans n2, .cons (d1.mono (nx0 n2.sub)) d2⟩
/-- a written instance becomes one that never changes -/
theorem we_frz (h : WE K T te ss st fun x st1 => ∃ n C fs gs st2, x = .cell n ∧ st1[n]? = some (.ins C fs) ∧ frzF fs st1 = some (gs, st2) ∧ st2[n]? = some (.ins C fs) ∧ Φ (.ob (insO K C gs)) (st2.set n .gone)) : WE K T te ss st Φ := fun α F H σ r s Q k =>
  h α F H σ r s _ fun α1 F1 H1 v x st1 n1 r1 v1 ⟨n, C, fs, gs, st2, e, hn, hf, hn2, q⟩ => by
    subst e
    obtain ⟨_, dx, vs, h2, h3⟩ := r1.ins _ _ _ hn
    obtain ⟨F2, r2, n2, d2⟩ := frzF_ok r1 h3 hf
    have h1 := (r2.ins n _ _ hn2).1
    have sF : Same F2 (upd F2 (α1 n) (.ins C dx vs)) := same_upd h1
    have r3 := r2.freezeG (c := .gone) hn2 trivial h2 (fun ps z => by cases z) (fun z => z) fun F' _ e => ⟨_, e⟩
    refine k α1 _ H1 v (.ob (insO K C gs)) (st2.set n .gone) (n1.trans (n2.trans ⟨sF, by rw [List.length_set]; exact Nat.le_refl _, fun _ _ => rfl⟩)) r3 ⟨α1 n, dx, vs, v1.2, upd_same, d2.mono (nx0 sF)⟩ q
end
end Ct

/-! CtG: functions that capture, outlive their maker and are called as values. -/
namespace Ct
open PySem PySem.Spec PyProof.Rows L2 NdefX
open LamX (CodeO)
/-- a captured cell that is no more written -/
def CellO (o : HO) (w : V) : Prop := ∃ (ob : Obj) (u : Value), o = .frz ob (.own 0) ∧ ob.data = .cell (some u) ∧ L2.RelV w u
/-! ### to lay things aside -/
open Classical in
noncomputable def hide (R : Addr → Prop) (H : Hp) : Hp := fun b => if R b then none else H b
open Classical in
noncomputable def back (R : Addr → Prop) (H H' : Hp) : Hp := fun b => if R b then H b else H' b
theorem hide_no {R : Addr → Prop} {H : Hp} {b : Addr} (h : R b) : hide R H b = none := if_pos h
theorem hide_eq {R : Addr → Prop} {H : Hp} {b : Addr} (h : ¬ R b) : hide R H b = H b := if_neg h
theorem hide_some {R : Addr → Prop} {H : Hp} {b : Addr} {o : HO} (e : hide R H b = some o) : ¬ R b ∧ H b = some o := by
  by_cases h : R b
  · rw [hide_no h] at e
    cases e
  · rw [hide_eq h] at e
    exact ⟨h, e⟩
theorem back_in {R : Addr → Prop} {H H' : Hp} {b : Addr} (h : R b) : back R H H' b = H b := if_pos h
theorem back_out {R : Addr → Prop} {H H' : Hp} {b : Addr} (h : ¬ R b) : back R H H' b = H' b := if_neg h
/-- what may be laid aside -/
structure Aside (R : Addr → Prop) (H : Hp) : Prop where
  on : ∀ b, R b → (∃ xs, H b = some (.lst xs)) ∨ (∃ C dx fs, H b = some (.ins C dx fs) ∧ R dx) ∨ (∃ x, H b = some (.own x) ∧ ∃ C fs, H x = some (.ins C b fs) ∧ R x) ∨ ∃ ob, H b = some (.frz ob (.own 0))
theorem Aside.ne {R : Addr → Prop} {H : Hp} (a : Aside R H) {b : Addr} (h : R b) : H b ≠ none := fun z => by
  rcases a.on b h with ⟨_, e⟩ | ⟨_, _, _, e, _⟩ | ⟨_, e, _⟩ | ⟨_, e⟩ <;> rw [z] at e <;> cases e
section
variable {P : Program} {w : World} {R : Addr → Prop} {H H' : Hp} {h h' : Heap}
theorem paired_imp {β γ : Type} {S S' : β → γ → Prop} (h : ∀ a b, S a b → S' a b) : ∀ {xs : List β} {ys : List γ}, Paired S xs ys → Paired S' xs ys
  | _, _, .nil => .nil
  | _, _, .cons a t => .cons (h _ _ a) (paired_imp h t)
/-- an object's truth asks of the rest only where dicts of instances and tuples of keys are -/
theorem objOk_of {b : Addr} (hown : ∀ dx x, H dx = some (.own x) → x = b → H' dx = some (.own x)) (htup : ∀ p xs, H p = some (.tup xs) → H' p = some (.tup xs)) : ∀ {o : HO}, ObjOk P w H h b o → ObjOk P w H' h b o := by
  intro o
  induction o with
  | ins C dx fs => exact fun ⟨e1, r⟩ => ⟨hown dx b e1 rfl, r⟩
  | dT kvs =>
    rintro ⟨h1, h2, xs, hp, r⟩
    refine ⟨h1, h2, xs, ?_, r⟩
    exact paired_imp (fun p q ⟨a1, a2, a3⟩ => ⟨a1, htup _ _ a2, a3⟩) hp
  | frz ob u ih => exact fun ⟨e1, r⟩ => ⟨e1, ih r⟩
  | lst xs => exact id
  | tup xs => exact id
  | dK kvs => exact id
  | set S n => exact id
  | own x => exact id
  | xd fs => exact id
  | met f x => exact id
  | rng lo hi => exact id
  | tbl ps => exact id
  | ext φ => exact id
theorem hide_hok (a : Aside R H) (ok : HOk P w H h) : HOk P w (hide R H) h := fun b o e => by
  obtain ⟨nb, e⟩ := hide_some e
  refine objOk_of (fun dx x e1 ex => ?_) (fun p xs e1 => ?_) (ok b o e)
  · subst ex
    rw [hide_eq]
    · exact e1
    · intro hR
      rcases a.on dx hR with ⟨_, q⟩ | ⟨_, _, _, q, _⟩ | ⟨y, q, _, _, _, hy⟩ | ⟨_, q⟩
      · rw [e1] at q; cases q
      · rw [e1] at q; cases q
      · rw [e1] at q
        cases q
        exact nb hy
      · rw [e1] at q; cases q
  · rw [hide_eq]
    · exact e1
    · intro hR
      rcases a.on p hR with ⟨_, q⟩ | ⟨_, _, _, q, _⟩ | ⟨y, q, _⟩ | ⟨_, q⟩ <;> rw [e1] at q <;> cases q
variable {K : PySem.W.Frag} {mg : Str → Option Value} {base : Heap} {A : Around} {outer : List Env} {s s' : Shared} {Q : VK} {u : Value}
theorem Aside.old (a : Aside R H) (ok : HOk P w H h) {b : Addr} (hR : R b) : ∃ o, h.get? b = some o := by
  rcases a.on b hR with ⟨xs, e⟩ | ⟨C, dx, fs, e, _⟩ | ⟨x, e, _⟩ | ⟨φ, e⟩
  · obtain ⟨_, its, n, _, g⟩ := ok b _ e
    exact ⟨_, g⟩
  · obtain ⟨_, _, _, g, _⟩ := ok b _ e
    exact ⟨_, g⟩
  · exact ok b _ e
  · exact ⟨_, (ok b _ e).1⟩
theorem hide_env (e0 : Env0 P w K mg base A outer s H) (a : Aside R H) : Env0 P w K mg base A outer s (hide R H) := by
  have nn : ∀ b, H b = none → hide R H b = none := fun b e => by
    by_cases h : R b
    · exact hide_no h
    · rw [hide_eq h]
      exact e
  exact ⟨e0.frames, e0.mod, fun b o e => ⟨(e0.bs b o e).1, nn b (e0.bs b o e).2⟩, e0.bsz, e0.funs, fun b hb => nn b (e0.frf b hb), hide_hok a e0.hok, e0.bare⟩
theorem back_CE (e0 : Env0 P w K mg base A outer s H) (a : Aside R H) (hc : CE outer P w (hide R H) s (fun v H' => (∀ b, R b → H' b = none) → Q v (back R H H')) u s') : CE outer P w H s Q u s' := by
  obtain ⟨v, H', os, bare, un, hok, rv, q⟩ := hc
  have gone : ∀ b, R b → H' b = none := fun b hR => by
    obtain ⟨o, g⟩ := a.old e0.hok hR
    exact un.free b o g (hide_no hR) (by simp)
  have kept : ∀ b o, R b → s.heap.get? b = some o → s'.heap.get? b = some o := fun b o hR g => un.keep b o g (hide_no hR) (fun hb => a.ne hR (e0.frf b hb)) (by simp)
  have nR : ∀ b, H b = none → ¬ R b := fun b e hR => a.ne hR e
  have hid : ∀ b, H b = none → hide R H b = none := fun b e => by rw [hide_eq (nR b e)]; exact e
  refine ⟨v, back R H H', os, bare, ⟨fun b o g n => un.keep b o g (hid b n), fun b o g n => un.slot b o g (hid b n), fun b o g n nx => ?_, fun b o g nx => un.there b o g nx, fun b xs e => ?_, fun b o x e => ?_, fun b ps e => ?_⟩, fun b o e => ?_, rv, q gone⟩
  · rw [back_out (nR b n)]
    exact un.free b o g (hid b n) nx
  · have nb : ¬ R b := fun hR => by
      rcases a.on b hR with ⟨_, q⟩ | ⟨_, _, _, q, _⟩ | ⟨_, q, _⟩ | ⟨_, q⟩ <;> rw [e] at q <;> cases q
    rw [back_out nb]
    exact un.tups b xs (by rw [hide_eq nb]; exact e)
  · by_cases hR : R b
    · rw [back_in hR]
      exact e
    · rw [back_out hR]
      exact un.frzs b o x (by rw [hide_eq hR]; exact e)
  · have nb : ¬ R b := fun hR => by
      rcases a.on b hR with ⟨_, q⟩ | ⟨_, _, _, q, _⟩ | ⟨_, q, _⟩ | ⟨_, q⟩ <;> rw [e] at q <;> cases q
    rw [back_out nb]
    exact un.tbls b ps (by rw [hide_eq nb]; exact e)
  · by_cases hR : R b
    · rw [back_in hR] at e
      have ob := e0.hok b o e
      rcases a.on b hR with ⟨xs, q⟩ | ⟨C, dx, fs, q, hdx⟩ | ⟨x, q, _⟩ | ⟨φ, q⟩
      · rw [e] at q
        cases q
        obtain ⟨hl, its, n, vv, g⟩ := ob
        exact ⟨hl, its, n, vv, kept b _ hR g⟩
      · rw [e] at q
        cases q
        obtain ⟨ow, hl, ne, g, mA, hns, r, wi⟩ := ob
        refine ⟨by rw [back_in hdx]; exact ow, hl, ne, kept b _ hR g, mA, ?_, r, wi⟩
        exact hns.at fun o ho => kept dx o hdx ho
      · rw [e] at q
        cases q
        obtain ⟨o2, g⟩ := ob
        exact ⟨o2, kept b _ hR g⟩
      · rw [e] at q
        cases q
        obtain ⟨g, _⟩ := ob
        exact ⟨kept b _ hR g, _, kept b _ hR g⟩
    · rw [back_out hR] at e
      have up : ∀ p x, H' p = some x → back R H H' p = some x := fun p x e1 => by
        rw [back_out]
        · exact e1
        · intro hp
          rw [gone p hp] at e1
          cases e1
      exact objOk_of (fun dx x e1 _ => up dx _ e1) (fun p xs e1 => up p _ e1) (hok b o e)
/-- with the dicts of the instances -/
def plus (R : Addr → Prop) (H : Hp) : Addr → Prop := fun b => R b ∨ ∃ a C fs, R a ∧ H a = some (.ins C b fs)
def AsideL (R : Addr → Prop) (H : Hp) : Prop := ∀ b, R b → (∃ xs, H b = some (.lst xs)) ∨ (∃ C dx fs, H b = some (.ins C dx fs)) ∨ ∃ ob, H b = some (.frz ob (.own 0))
theorem AsideL.own (_a : AsideL R H) (ok : HOk P w H h) : ∀ b, plus R H b → R b ∨ ∃ x, H b = some (.own x) := fun b hb => by
  rcases hb with hb | ⟨x, C, fs, hx, e⟩
  · exact .inl hb
  · exact .inr ⟨x, (ok x _ e).1⟩
theorem AsideL.aside (a : AsideL R H) (ok : HOk P w H h) : Aside (plus R H) H := ⟨fun b hb => by
  rcases hb with hb | ⟨x, C, fs, hx, e⟩
  · rcases a b hb with q | ⟨C, dx, fs, q⟩ | q
    · exact .inl q
    · exact .inr (.inl ⟨C, dx, fs, q, .inr ⟨b, C, fs, hb, q⟩⟩)
    · exact .inr (.inr (.inr q))
  · exact .inr (.inr (.inl ⟨x, (ok x _ e).1, C, fs, e, .inl hx⟩))⟩
theorem AsideL.off (a : AsideL R H) (ok : HOk P w H h) {b : Addr} {φ : Heap → Prop} (hb : ¬ R b) (e : H b = some (.ext φ)) : ¬ plus R H b := fun z => by
  rcases a.own ok b z with z | ⟨x, q⟩
  · exact hb z
  · rw [e] at q
    cases q
/-! ### the call of a value -/
structure CellsOf (R : Addr → Prop) (H : Hp) (cl : List (Str × Addr)) (fr : List Str) (ws : List (Option V)) : Prop where
  len : ws.length = fr.length
  all : ∀ y c, cl.lookup y = some c → R c ∧ ∃ o w, H c = some o ∧ CellO o w
  inj : ∀ x y c, cl.lookup x = some c → cl.lookup y = some c → x = y
  has : ∀ (i : Nat) (y : Str), fr[i]? = some y → ∃ c, cl.lookup y = some c ∧ ∀ v, ws[i]? = some (some v) → ∃ o, H c = some o ∧ CellO o v
theorem CellsOf.at {cl : List (Str × Addr)} {fr : List Str} {ws : List (Option V)} (c : CellsOf R H cl fr ws) (ok : HOk P w H h) : CellsAt cl fr ws h (hide (plus R H) H) := by
  refine ⟨c.len, fun y a e => ?_, c.inj, fun i y e => ?_⟩
  · obtain ⟨hR, o, w, hw, ob, u, rfl, hd, _⟩ := c.all y a e
    exact ⟨hide_no (.inl hR), _, ob, (ok a _ hw).1, hd⟩
  · obtain ⟨a, ha, hv⟩ := c.has i y e
    refine ⟨a, ha, fun v ev => ?_⟩
    obtain ⟨o, hw, ob, u, rfl, hd, r⟩ := hv v ev
    exact ⟨u, r, ob, (ok a _ hw).1, hd⟩
end
/-- tf(..): what tf reads is a function that was made by a def -/
def tCallV (P : Program) (w : World) (K : PySem.W.Frag) (mg : Str → Option Value) (base : Heap) (k : Nat) (tf : TE) (t : TA) : TE := fun σ H Q => tf σ H fun v H1 => ∃ f F, v = .ref f ∧ H1 f = some (FnO f F) ∧
  t σ H1 fun vs H2 => H2 f = some (FnO f F) ∧ H2 F.c = some (CodeO F.c F.qual) ∧ ∃ ps fr sp ws R, NOk P w K mg base CX0 k f F ps fr sp ∧ AsideL R H2 ∧ ¬ R f ∧ ¬ R F.c ∧ CellsOf R H2 F.cl fr ws ∧
    ((∀ b, plus R H2 b → R b ∨ ∃ x, H2 b = some (.own x)) → sp ws vs (hide (plus R H2) H2) (fun v H' => (∀ b, plus R H2 b → H' b = none) → Q v (back (plus R H2) H2 H')) E0)
theorem pe_callV {X : Cx} {k : Nat} {fe e : Expr} {es : List Expr} {pos : Pos} {tf : TE} {t : TA} (hr : Room k X.A) (hf : PE X fe tf) (ha : PA X (e :: es) t)
    (hcall : eval (.Call fe (e :: es) [] pos) X.env = (do callWith pos (← eval fe X.env) [] (backTo pos (starEach (e :: es) X.env)) (backToKw pos (keywordEach [] X.env))) := by rfl)
    (he : starEach (e :: es) X.env = (false, eval e X.env) :: starEach es X.env := by rfl) (hpl : (backTo pos (starEach es X.env)).any (·.1) = false := by rfl) :
    PE X (.Call fe (e :: es) [] pos) (tCallV X.prog X.w X.K X.mg X.base k tf t) := by
  refine ⟨fun pins s σ H Q I h => ?_⟩
  rw [hcall]
  refine wpAny_bind (thn (hf.run pins s σ H _ I h) fun u s1 ⟨v, H1, I1, r1, f, F, ev, hF, q1⟩ => ?_)
  subst ev
  obtain rfl : u = Value.ref f := r1
  refine PySem.W.callWith_F (first := []) (fnAt_of I1 hF) (thn (ha.run pos pins s1 σ H1 _ I1 q1) fun us s2 ⟨vs, H2, I2, r, h1, h2, ps, fr, sp, ws, R, Fn, a, nf, nc, C, q⟩ => ⟨fnAt_of I2 h1, ?_⟩) he hpl
  show wpAny _ _ (call (.ref f) us) _ _ _
  have a' := a.aside I2.hok
  refine wpAny_call (codeAny_mono (Fn.run X.A X.stack s2 (hide (plus R H2) H2) us vs ws _ E0 hr (hide_env I2.env0 a') (by rw [hide_eq (a.off I2.hok nf h1)]; exact h1) (by rw [hide_eq (a.off I2.hok nc h2)]; exact h2) (C.at I2.hok) r (q (a.own I2.hok))) fun r s' hq => ?_)
  cases r with
  | error e => exact False.elim hq
  | ok fl =>
    cases fl with
    | ret u => exact I2.after (back_CE I2.env0 a' hq)
    | next => exact False.elim hq
    | brk => exact False.elim hq
    | cont => exact False.elim hq
end Ct

/-! CtH: functions as values, at the level of values. -/
namespace Ct
open PySem PySem.Spec PyProof.Rows L2 NdefX
open LamX (CodeO)
/-- F' has F but for functions, code objects, captured cells, dicts of instances -/
def SameX (F F' : Hp) : Prop := ∀ b o, F b = some o → (∀ ob, o ≠ .frz ob (.own 0)) → (∀ x, o ≠ .own x) → F' b = some o
section
variable {K : PySem.W.Frag} {F F' : Hp}
theorem SameX.seqL (s : SameX F F') {a : Addr} {xs : List V} (h : SqL K F a xs) : SqL K F' a xs := by
  rcases h with (h | ⟨o, h⟩) | h
  · exact .inl (.inl (s _ _ h (fun φ z => by cases z) fun x z => by cases z))
  · exact .inl (.inr ⟨o, s _ _ h (fun φ z => by cases z) fun x z => by cases z⟩)
  · exact .inr h
theorem SameX.seqT (s : SameX F F') {a : Addr} {xs : List V} (h : SqT K F a xs) : SqT K F' a xs := by
  rcases h with (h | ⟨o, h⟩) | h
  · exact .inl (.inl (s _ _ h (fun φ z => by cases z) fun x z => by cases z))
  · exact .inl (.inr ⟨o, s _ _ h (fun φ z => by cases z) fun x z => by cases z⟩)
  · exact .inr h
mutual
theorem dpx (s : SameX F F') : ∀ {v : V} {d : PyData}, Dp K F v d → Dp K F' v d
  | _, _, .non => .non
  | _, _, .bl b => .bl b
  | _, _, .int i => .int i
  | _, _, .str x => .str x
  | _, _, .lst h t => .lst (s.seqL h) (dpsx s t)
  | _, _, .tup h t => .tup (s.seqT h) (dpsx s t)
theorem dpsx (s : SameX F F') : ∀ {vs : List V} {ds : List PyData}, DpAll K F vs ds → DpAll K F' vs ds
  | _, _, .nil => .nil
  | _, _, .cons h t => .cons (dpx s h) (dpsx s t)
end
end
/-- does not lean on functions -/
def Ob.Plain (o : Ob) : Prop := ∀ (F F' : Hp) (v : V), SameX F F' → o.φ F v → o.φ F' v
def Val.Plain : Val → Prop
  | .pd _ => True
  | .ty _ => True
  | .cell _ => False
  | .ob o => o.Plain
section
variable {K : PySem.W.Frag} {T : TabI} {α α' : Nat → Addr} {F F' H H' : Hp} {L L' : Nat} {ss : SS} {sto : Sto} {Φ : Val → Sto → Prop} {te ta tf : TE} {P : Po}
theorem VR.plain {x : Val} {v : V} (p : x.Plain) (s : SameX F F') (h : VR K α F L x v) : VR K α' F' L' x v := by
  cases x with
  | pd d => exact dpx s h
  | ty n => exact h
  | cell n => exact p.elim
  | ob o => exact p F F' v s h
theorem VRs.plain (s : SameX F F') : ∀ {xs : List Val} {vs : List V}, (∀ x ∈ xs, x.Plain) → VRs K α F L xs vs → VRs K α' F' L' xs vs
  | _, _, _, .nil => .nil
  | _, _, p, .cons h t => .cons (h.plain (p _ (List.mem_cons_self ..)) s) (t.plain s fun x hx => p x (List.mem_cons_of_mem _ hx))
theorem FRs.plain (s : SameX F F') : ∀ {xs : List (Str × Val)} {vs : List (Str × V)}, (∀ x ∈ xs, x.2.Plain) → FRs K α F L xs vs → FRs K α' F' L' xs vs
  | _, _, _, .nil => .nil
  | _, _, p, .cons h t => .cons (h.plain (p _ (List.mem_cons_self ..)) s) (t.plain s fun x hx => p x (List.mem_cons_of_mem _ hx))
theorem insO_plain {C : Addr} {fs : List (Str × Val)} (p : ∀ x ∈ fs, x.2.Plain) : (insO K C fs).Plain := fun F F' v s ⟨a, dx, vs, e, h, r⟩ => ⟨a, dx, vs, e, s _ _ h (fun φ z => by cases z) (fun x z => by cases z), r.plain s p⟩
/-! ### a function that captured -/
def capsR (K : PySem.W.Frag) (F : Hp) (fr : List Str) (cl : List (Str × Addr)) (ws : List Val) : Prop := ∀ (i : Nat) (y : Str), fr[i]? = some y → ∃ a o w x, cl.lookup y = some a ∧ ws[i]? = some x ∧ F a = some o ∧ CellO o w ∧ VR K (fun _ => 0) F 0 x w
/-- a function made by the def st, what it captured told -/
def cloO (K : PySem.W.Frag) (st : Stmt) (name qual : Str) (fr : List Str) (ws : List Val) : Ob := ⟨fun F v => ∃ (f : Addr) (cl : List (Str × Addr)) (c : Addr), v = .ref f ∧ F f = some (FnO f (NF.of st name qual cl c)) ∧ F c = some (CodeO c qual) ∧ ws.length = fr.length ∧
    (∀ y a, cl.lookup y = some a → y ∈ fr) ∧ (∀ x y a, cl.lookup x = some a → cl.lookup y = some a → x = y) ∧ ((∀ y, cl.lookup y ≠ some f) ∧ ∀ y, cl.lookup y ≠ some c) ∧ capsR K F fr cl ws,
  fun s ⟨f, cl, c, e, h1, h2, hl, h3, h4, h5, h6⟩ => ⟨f, cl, c, e, s _ _ h1, s _ _ h2, hl, h3, h4, h5, fun i y hi => let ⟨a, o, w, x, e1, e2, e3, e5, e4⟩ := h6 i y hi; ⟨a, o, w, x, e1, e2, s _ _ e3, e5, e4.mono (nx0 s)⟩⟩⟩
/-- a nested def's promise: of its arguments and of what it captured -/
def spN (K : PySem.W.Frag) (T : TabI) (n m : Nat) (p : Pre) : List (Option V) → Sp := fun ws vs H Q _ => ∃ α F xs ys wvs Φ, Rel K T α F H [] ∧ VRs K α F 0 xs vs ∧ VRs K α F 0 ys wvs ∧ ws = wvs.map some ∧ xs.length = n ∧ ys.length = m ∧ p (xs ++ ys) [] Φ ∧
  ∀ (α' : Nat → Addr) (F' H' : Hp) (v : V) (x : Val) (st' : Sto), Nx α F 0 α' F' st'.length → Rel K T α' F' H' st' → VR K α' F' st'.length x v → Φ x st' → Q v H'
theorem spN_len {n m : Nat} {p : Pre} {ws : List (Option V)} {vs : List V} {Q : VK} {E : XK} (h : spN K T n m p ws vs H Q E) : vs.length = n := by
  obtain ⟨α, F, xs, ys, wvs, Φ, r, v, w, e, h1, h2, hp, k⟩ := h
  rw [← v.len, h1]
theorem fn_runN {N : List Str} {n m : Nat} {p : Pre} {t : TS} {ws : List (Option V)} {vs : List V} {Q : VK} {E : XK} (h : spN K T n m p ws vs H Q E) (hw : ∀ (xs : List Val) (Φ : Val → Sto → Prop), xs.length = n + m → p xs [] Φ → WS K T t (startS N xs) [] (PoF [] Φ)) :
    t { nx := fun _ H' => Q .non H', rt := Q } (startF N vs ws) H := by
  obtain ⟨α, F, xs, ys, wvs, Φ, r, v, w, rfl, h1, h2, hp, k⟩ := h
  have e : startF N vs (wvs.map some) = L2.start N (vs ++ wvs) := by
    unfold startF L2.start
    rw [List.map_append, List.append_assoc, List.length_append, List.length_map, Nat.sub_sub]
  rw [e]
  exact fn_at (st := []) r (v.app w) (hw (xs ++ ys) Φ (by rw [List.length_append, h1, h2]) hp) k
/-- all that a call of a function lays aside: the cells that it captured, the caller's own cells -/
def asideC (cl : List (Str × Addr)) (α : Nat → Addr) (sto : Sto) : Addr → Prop := fun b => (∃ y, cl.lookup y = some b) ∨ ∃ n c, sto[n]? = some c ∧ c.live ∧ b = α n
theorem we_callX {P : Program} {w : World} {mg : Str → Option Value} {base : Heap} {k : Nat} {t : TA}
    (h : WE K T tf ss sto fun x st1 => ∃ (n m : Nat) (st : Stmt) (name qual : Str) (fr ps : List Str) (p : Pre) (ws : List Val), (∀ (f : Addr) (cl : List (Str × Addr)) (c : Addr), NOk P w K mg base CX0 k f (NF.of st name qual cl c) ps fr (spN K T n m p)) ∧ fr.length = m ∧
      x = .ob (cloO K st name qual fr ws) ∧ (∀ x ∈ ws, x.Plain) ∧ WA K T t ss st1 fun xs st2 => (∀ x ∈ xs, x.Plain) ∧ xs.length = n ∧ p (xs ++ ws) [] fun y _ => y.Plain ∧ Φ y st2) :
    WE K T (tCallV P w K mg base k tf t) ss sto Φ := fun α F H σ r s Q kk => h α F H σ r s _ fun α1 F1 H1 v x st1 n1 r1 v1 ⟨n, m, st, name, qual, fr, ps, p, ws, nok, hm, ex, hws, q⟩ => by
  subst ex
  obtain ⟨f, cl, c, rfl, f1, c1, hl, hin, hinj, ⟨nf, nc⟩, hcap⟩ := v1
  refine ⟨f, _, rfl, r1.sub _ _ f1, q α1 F1 H1 σ r1 (s.mono n1) _ fun α2 F2 H2 vs xs st2 n2 r2 w2 ⟨hxs, hn, hp⟩ => ?_⟩
  have f2 := n2.sub _ _ f1
  have c2 := n2.sub _ _ c1
  have live : ∀ j x, st2[j]? = some x → x.live → F2 (α2 j) = none := fun j x e l => (r2.at_ j x e).off l
  have hcap2 : capsR K F2 fr cl ws := fun i y hi => let ⟨a, o, w, x, e1, e2, e3, e5, e4⟩ := hcap i y hi; ⟨a, o, w, x, e1, e2, n2.sub _ _ e3, e5, e4.mono (nx0 n2.sub)⟩
  have cellF : ∀ y a, cl.lookup y = some a → ∃ o w, F2 a = some o ∧ CellO o w := fun y a e => by
    obtain ⟨i, hi⟩ := List.mem_iff_getElem?.mp (hin y a e)
    obtain ⟨a', o, w, x, e1, _, e3, e5, _⟩ := hcap2 i y hi
    rw [e] at e1
    cases e1
    exact ⟨o, w, e3, e5⟩
  have notL : ∀ b o, F2 b = some o → ¬ ∃ j x, st2[j]? = some x ∧ x.live ∧ b = α2 j := fun b o e ⟨j, x, e1, l, eb⟩ => by
    rw [eb, live j x e1 l] at e
    cases e
  -- what the captured cells hold
  obtain ⟨wvs, hwv⟩ : ∃ wvs : List V, VRs K (fun _ => 0) F2 0 ws wvs ∧ ∀ (i : Nat) (y : Str), fr[i]? = some y → ∃ a o v, cl.lookup y = some a ∧ wvs[i]? = some v ∧ F2 a = some o ∧ CellO o v := by
    clear hws hp q h nok hin hinj nf nc cellF
    have key : ∀ (fr : List Str) (ws : List Val), ws.length = fr.length → capsR K F2 fr cl ws → ∃ wvs : List V, VRs K (fun _ => 0) F2 0 ws wvs ∧ ∀ (i : Nat) (y : Str), fr[i]? = some y → ∃ a o v, cl.lookup y = some a ∧ wvs[i]? = some v ∧ F2 a = some o ∧ CellO o v := by
      intro fr
      induction fr with
      | nil =>
        intro ws hl _
        have : ws = [] := List.eq_nil_of_length_eq_zero hl
        subst this
        exact ⟨[], .nil, fun i y e => by simp at e⟩
      | cons y0 fr ih =>
        intro ws hl hc
        cases ws with
        | nil => simp at hl
        | cons x0 ws =>
          obtain ⟨a, o, w, x, e1, e2, e3, e5, e4⟩ := hc 0 y0 rfl
          cases e2
          obtain ⟨wvs, h1, h2⟩ := ih ws (by simpa using hl) fun i y hi => hc (i + 1) y hi
          refine ⟨w :: wvs, .cons e4 h1, fun i y hi => ?_⟩
          cases i with
          | zero =>
            cases hi
            exact ⟨a, o, w, e1, rfl, e3, e5⟩
          | succ i => exact h2 i y hi
    exact key fr ws hl hcap2
  obtain ⟨wv1, wv2⟩ := hwv
  let R := asideC cl α2 st2
  have hAs : AsideL R H2 := by
    rintro b (⟨y, e⟩ | ⟨j, x, e, l, rfl⟩)
    · obtain ⟨o, w, hw, ob, u, rfl, _⟩ := cellF y b e
      exact .inr (.inr ⟨ob, r2.sub _ _ hw⟩)
    · have := r2.at_ j x e
      cases x with
      | mu xs => exact .inl ⟨_, this.2.choose_spec.1⟩
      | fr xs => cases l
      | ml xs => exact .inl ⟨_, this.2.choose_spec.1⟩
      | ins C fs => exact .inr (.inl ⟨_, _, _, this.2.choose_spec.choose_spec.1⟩)
      | gone => cases l
      | pin vs xs => exact .inl ⟨_, this.2.1⟩
  refine ⟨r2.sub _ _ f2, r2.sub _ _ c2, ps, fr, spN K T n m p, wvs.map some, R, nok f cl c, ?_, ?_, ?_, ?_, fun own => ?_⟩
  · exact hAs
  · rintro (⟨y, e⟩ | z)
    · exact nf y e
    · exact notL _ _ f2 z
  · rintro (⟨y, e⟩ | z)
    · exact nc y e
    · exact notL _ _ c2 z
  · refine ⟨by rw [List.length_map, ← wv1.len]; exact hl, fun y a e => ⟨.inl ⟨y, e⟩, let ⟨o, w, hw, hc⟩ := cellF y a e; ⟨o, w, r2.sub _ _ hw, hc⟩⟩, hinj, fun i y hi => ?_⟩
    obtain ⟨a, o, v, e1, e2, e3, e5⟩ := wv2 i y hi
    refine ⟨a, e1, fun v' ev => ?_⟩
    rw [List.getElem?_map, e2] at ev
    cases ev
    exact ⟨o, r2.sub _ _ e3, e5⟩
  · -- the call, all else laid aside
    let R' := plus R H2
    have inR : ∀ b o, R' b → F2 b = some o → (∃ ob, o = .frz ob (.own 0)) ∨ ∃ x, o = .own x := fun b o hb e => by
      rcases own b hb with hb | ⟨x, q⟩
      · rcases hb with ⟨y, e1⟩ | z
        · obtain ⟨o', w, hw, ob, u, eo, _⟩ := cellF y b e1
          rw [e] at hw
          cases hw
          exact .inl ⟨ob, eo⟩
        · exact absurd z (notL _ _ e)
      · rw [r2.sub _ _ e] at q
        cases q
        exact .inr ⟨x, rfl⟩
    have sx : SameX F2 (hide R' F2) := fun b o e ne no => by
      rw [hide_eq]
      · exact e
      · intro hb
        rcases inR b o hb e with ⟨φ, z⟩ | ⟨x, z⟩
        · exact ne φ z
        · exact no x z
    have r0 : Rel K T α2 (hide R' F2) (hide R' H2) [] := by
      refine ⟨fun b o e => ?_, fun b ps e => ?_, ?_, fun n c e => by simp at e, fun n m c d e => by simp at e⟩
      · obtain ⟨nb, e⟩ := hide_some e
        rw [hide_eq nb]
        exact r2.sub _ _ e
      · exact r2.nt b ps (hide_some e).2
      · refine T.less (fun b o e hx => ?_) r2.tab
        rw [hide_eq]
        · exact e
        · intro hb
          have k : (∃ xs, o = .lst xs) ∨ (∃ C dx fs, o = .ins C dx fs) ∨ (∃ ob, o = .frz ob (.own 0)) ∨ ∃ x, o = .own x := by
            rcases own b hb with hb | ⟨x, q⟩
            · rcases hAs b hb with ⟨xs, q⟩ | ⟨C, dx, fs, q⟩ | ⟨ob, q⟩ <;> rw [e] at q <;> cases q
              · exact .inl ⟨_, rfl⟩
              · exact .inr (.inl ⟨_, _, _, rfl⟩)
              · exact .inr (.inr (.inl ⟨_, rfl⟩))
            · rw [e] at q
              cases q
              exact .inr (.inr (.inr ⟨_, rfl⟩))
          rcases hx with ⟨ps, rfl⟩ | ⟨φ, rfl⟩ <;> rcases k with ⟨_, z⟩ | ⟨_, _, _, z⟩ | ⟨_, z⟩ | ⟨_, z⟩ <;> cases z
    refine ⟨α2, hide R' F2, xs, ws, wvs, _, r0, w2.plain sx hxs, wv1.plain sx hws, rfl, hn, by rw [hl, hm], hp, fun α3 F3 H3 v3 y st3 n3 r3 v3' ⟨hy, hq⟩ gone => ?_⟩
    have fgone : ∀ b o, F3 b = some o → ¬ R' b := fun b o e hb => by
      have := r3.sub _ _ e
      rw [gone b hb] at this
      cases this
    have up : Same F3 (back R' F2 F3) := fun b o e => by
      rw [back_out (fgone b o e)]
      exact e
    have dn : Same F2 (back R' F2 F3) := fun b o e => by
      by_cases hb : R' b
      · rw [back_in hb]
        exact e
      · rw [back_out hb]
        exact n3.sub _ _ (by rw [hide_eq hb]; exact e)
    have inL : ∀ j x, st2[j]? = some x → x.live → R' (α2 j) := fun j x e l => .inl (.inr ⟨j, x, e, l, rfl⟩)
    have nn : Nx α2 F2 st2.length α2 (back R' F2 F3) st2.length := ⟨dn, Nat.le_refl _, fun _ _ => rfl⟩
    have r4 : Rel K T α2 (back R' F2 F3) (back R' H2 H3) st2 := by
      refine ⟨fun b o e => ?_, fun b ps e => ?_, T.ext (fun b o e => ?_) r3.tab, fun j x e => (r2.at_ j x e).move nn (fun l z => ?_) fun l o _ z => ?_, r2.inj⟩
      · by_cases hb : R' b
        · rw [back_in hb] at e ⊢
          exact r2.sub _ _ e
        · rw [back_out hb] at e ⊢
          exact r3.sub _ _ e
      · by_cases hb : R' b
        · rw [back_in hb] at e
          exact r2.nt b ps e
        · rw [back_out hb] at e
          exact r3.nt b ps e
      · have hb : ¬ R' b := fun hb => by
          rw [gone b hb] at e
          cases e
        rw [back_out hb]
        exact e
      · rw [back_in (inL j x e l)]
        exact z
      · rw [back_in (inL j x e l)]
        exact z
    exact kk α2 (back R' F2 F3) (back R' H2 H3) v3 y st2 ((n1.trans n2).trans nn) r4 (v3'.plain hy fun b o e _ _ => up b o e) hq
theorem we_callV {P : Program} {w : World} {mg : Str → Option Value} {base : Heap} {k n m : Nat} {t : TA} {st : Stmt} {name qual : Str} {fr ps : List Str} {p : Pre}
    (nok : ∀ (f : Addr) (cl : List (Str × Addr)) (c : Addr), NOk P w K mg base CX0 k f (NF.of st name qual cl c) ps fr (spN K T n m p)) (hm : fr.length = m)
    (h : WE K T tf ss sto fun x st1 => ∃ ws, x = .ob (cloO K st name qual fr ws) ∧ (∀ x ∈ ws, x.Plain) ∧ WA K T t ss st1 fun xs st2 => (∀ x ∈ xs, x.Plain) ∧ xs.length = n ∧ p (xs ++ ws) [] fun y _ => y.Plain ∧ Φ y st2) :
    WE K T (tCallV P w K mg base k tf t) ss sto Φ := we_callX (we_mono h fun x st1 ⟨ws, q⟩ => ⟨n, m, st, name, qual, fr, ps, p, ws, nok, hm, q⟩)
end
end Ct

/-! CtI: a def that makes functions and gives them back: its end, at which what they captured is told. -/
namespace Ct
open PySem PySem.Spec PyProof.Rows L2 NdefX
open LamX (CodeO)
/-- a body that ends with a return: what is returned, with the slots of that moment -/
structure PSC (X : Cx) (body : List Stmt) (t : (V → L2.St → Hp → Prop) → L2.St → Hp → Prop) : Prop where
  run : ∀ (pins : List (Addr × Obj)) (s : Shared) (σ : L2.St) (H : Hp) (R : V → L2.St → Hp → Prop), Inv X pins σ H s → t R σ H → wpAny (model X.prog X.w) X.A (execs body X.env) (fun fl s' => ∃ v σ' H' u, fl = .ret u ∧ Inv X pins σ' H' s' ∧ L2.RelV v u ∧ R v σ' H') X.xe s
section
variable {X : Cx}
theorem psc_ret {e : Expr} {te : TE} {pos : Pos} (he : PE X e te) : PSC X [.Return (some e) pos] fun R σ H => te σ H fun v H1 => R v σ H1 := by
  refine ⟨fun pins s σ H R I h => ?_⟩
  refine wpAny_execs_cons (wpAny_Return_some (thn (he.run pins s σ H _ I h) fun u s1 ⟨v, H1, I1, r1, q1⟩ => ?_))
  exact ⟨v, σ, H1, u, rfl, I1, r1, q1⟩
theorem psc_cons {st : Stmt} {rest : List Stmt} {t : TS} {u : (V → L2.St → Hp → Prop) → L2.St → Hp → Prop} (h1 : PS X st t) (h2 : PSC X rest u) :
    PSC X (st :: rest) fun R σ H => t { nx := fun σ1 H1 => u R σ1 H1, rt := fun _ _ => False, bk := fun _ _ => False, ct := fun _ _ => False } σ H := by
  refine ⟨fun pins s σ H R I h => ?_⟩
  refine wpAny_execs_cons (thn (h1.run pins s σ H _ I h) fun f s1 q => ?_)
  cases f with
  | next =>
    obtain ⟨σ', H', I', q⟩ := q
    exact h2.run pins s1 σ' H' R I' q
  | ret v =>
    obtain ⟨_, _, _, _, _, q⟩ := q
    exact q.elim
  | brk =>
    obtain ⟨_, _, _, q⟩ := q
    exact q.elim
  | cont =>
    obtain ⟨_, _, _, q⟩ := q
    exact q.elim
end
/-- what the captured cells of the frame hold is told from now on -/
structure Told (cells : List (Str × Addr)) (N : List Str) (sc : Scope) (σ : L2.St) (H1 H2 : Hp) : Prop where
  inj : ∀ x y c, cells.lookup x = some c → cells.lookup y = some c → x = y
  has : ∀ x, sc.names.lookup x = some .cell → ∃ c, cells.lookup x = some c
  free : ∀ x c, cells.lookup x = some c → H1 c = none
  same : Same H1 H2
  at_ : ∀ (i : Nat) (x : Str) (c : Addr) (w : V), N[i]? = some x → sc.names.lookup x = some .cell → cells.lookup x = some c → σ[i]? = some (some w) → ∃ o, H2 c = some o ∧ CellO o w
  new : ∀ b o, H2 b = some o → H1 b = some o ∨ (H1 b = none ∧ (∃ x, cells.lookup x = some b) ∧ ∃ ob, o = .frz ob (.own 0))
theorem PSC.nox {X : Cx} {body : List Stmt} {t : (V → L2.St → Hp → Prop) → L2.St → Hp → Prop} (h : PSC X.nox body t) : PSC X body t := ⟨fun pins s σ H R I hw =>
  wpAny_mono (h.run pins s σ H R (I.wish _) hw) (fun _ _ ⟨v, σ', H', u, e, I', r, q⟩ => ⟨v, σ', H', u, e, I'.unwish, r, q⟩) fun _ _ z => False.elim z⟩
open Classical in
/-- the rule for a def that gives back functions -/
theorem fn_ofC {CX : CXT} {P : Program} {w : World} {K : PySem.W.Frag} {mg : Str → Option Value} {base : Heap} {k : Nat} {f : Addr} {name qual : Str} {params : Arguments} {body : List Stmt} {scope : Scope} {dV kV doc pm cdv ct oc : Value} {an od : Option Addr}
    {osl : Array (Option Value)} {N ps : List Str} {sp : Sp} (lk : K.lookup f = some ⟨oc, od, .func (PySem.W.fnOf name qual params body scope dV kV doc pm an cdv ct), osl⟩) (hcd : PySem.W.codeIn K cdv qual = true) (S : FnScope N ps scope)
    (len : ∀ vs H Q E, sp vs H Q E → vs.length = ps.length)
    (hbody : ∀ (A : Around) (outer : List Env) (s : Shared) (H : Hp) (vs : List V) (Q : VK) (E : XK), Room k (A.deeper (envOfC qual scope s.heap.objs.size f cdv)) → sp vs H Q E →
      ∃ t, PSC (cxOf CX P w K mg base N qual scope f cdv A outer s H E).nox body t ∧ t (fun v σ H1 => ∀ H2, Told (envOfC qual scope s.heap.objs.size f cdv).cells N scope σ H1 H2 → Q v H2) (L2.start N vs) H) :
    FnOk P w K mg base CX (k + 1) f (PySem.W.fnOf name qual params body scope dV kV doc pm an cdv ct) ps sp := by
  refine ⟨len, fun A outer s H args us vs Q E hr e0 hb r hsp => ?_⟩
  have hl := len _ _ _ _ hsp
  have KX : K.In s.heap := e0.mod.kin.keeps fun b o e => (e0.bs b o e).1
  have lim : s.heap.NoLimit := e0.mod.nolimit.keeps fun b o e => (e0.bs b o e).1
  have hkind : ∀ y ∈ ps.zip us, scope.names.lookup y.1 = some .local ∨ (scope.names.lookup y.1 = some .cell ∧ ((cellsFrom (s.heap.objs.size + 1) scope.names []).lookup y.1).isSome = true) := fun ⟨n, v⟩ hy => by
    rcases S.par n (List.of_mem_zip hy).1 with q | q
    · exact .inl q
    · exact .inr ⟨q, PySem.W.cellsFrom_some _ _ _ (.inl q)⟩
  refine codeAny_call_function hr.depth (KX _ _ lk) rfl S.co S.gen rfl (PySem.W.codeRec_of KX hcd) (hb _ _ _ _ ?_)
  refine wpAny_newFunctionEnv_cells S.kind hkind fun env he s1 x => ?_
  subst he
  refine ⟨lim.keeps x.toInCall.keep, codeAny_func ?_⟩
  obtain ⟨t, ht, hq⟩ := hbody A outer s H vs Q E (hr.deeper _) hsp
  have I : Inv (cxOf CX P w K mg base N qual scope f cdv A outer s H E) [] (L2.start N vs) H s1 := inv_start S hr.hd e0 hl r x
  refine wpAny_mono (ht.nox.run [] s1 (L2.start N vs) H _ I hq) (fun fl s' hs => ?_) fun e s' hs => hs
  obtain ⟨v, σ', H', u, rfl, J, rv, q⟩ := hs
  -- what is told at the end
  let cells := (envOfC qual scope s.heap.objs.size f cdv).cells
  let val : Addr → Prop := fun b => ∃ (i : Nat) (x : Str) (w : V), N[i]? = some x ∧ scope.names.lookup x = some .cell ∧ cells.lookup x = some b ∧ σ'[i]? = some (some w)
  let H2 : Hp := fun b => if val b then (s'.heap.get? b).map fun ob => HO.frz ob (.own 0) else H' b
  have off : ∀ b, val b → H' b = none := fun b ⟨i, x, w, e1, e2, e3, e4⟩ => J.freeC x b e3
  have in_ : ∀ b, val b → H2 b = (s'.heap.get? b).map fun ob => HO.frz ob (.own 0) := fun b h => if_pos h
  have out : ∀ b, ¬ val b → H2 b = H' b := fun b h => if_neg h
  have same : Same H' H2 := fun b o e => by
    rw [out b fun h => by rw [off b h] at e; cases e]
    exact e
  have told : Told cells N scope σ' H' H2 := by
    refine ⟨J.ok.inj, fun x h => J.ok.has x (.inl h), J.freeC, same, fun i x c w e1 e2 e3 e4 => ?_, fun b o e => ?_⟩
    · have hv : val c := ⟨i, x, w, e1, e2, e3, e4⟩
      obtain ⟨m, hn, hl⟩ := J.loc
      obtain ⟨u2, r2, l⟩ := hl i x w e1 e4 (.inr (.inl e2))
      rcases l with ⟨z, _⟩ | ⟨_, c', hc', ob, ho, hd⟩
      · have z' : scope.names.lookup x = some .local := z
        rw [e2] at z'
        cases z'
      · have e3' : cells.lookup x = some c' := hc'
        rw [e3] at e3'
        cases e3'
        exact ⟨.frz ob (.own 0), by rw [in_ c hv, ho]; rfl, ob, u2, rfl, hd, r2⟩
    · by_cases h : val b
      · rw [in_ b h, Option.map_eq_some_iff] at e
        obtain ⟨ob, _, rfl⟩ := e
        obtain ⟨i, x, w, e1, e2, e3, e4⟩ := h
        exact .inr ⟨J.freeC x b e3, ⟨x, e3⟩, ob, rfl⟩
      · rw [out b h] at e
        exact .inl e
  have young : ∀ b, val b → s.heap.objs.size ≤ b := fun b ⟨i, x, w, e1, e2, e3, e4⟩ => J.ok.cab x b rfl e3
  have nv : ∀ b o, s.heap.get? b = some o → ¬ val b := fun b o e h => absurd (Heap.lt_size e) (Nat.not_lt.mpr (young b h))
  have nvH : ∀ b o, H b = some o → ¬ val b := fun b o e h => absurd ((e0.hok b o e).lt) (Nat.not_lt.mpr (young b h))
  refine ⟨v, H2, J.os, J.bare, ?_, fun b o e => ?_, rv, q H2 told⟩
  · have un := J.base
    refine ⟨un.keep, un.slot, fun b o g n nx => ?_, un.there, fun b xs e => ?_, fun b o x e => ?_, fun b ps e => ?_⟩
    · rw [out b (nv b o g)]
      exact un.free b o g n nx
    · exact same _ _ (un.tups b xs e)
    · exact same _ _ (un.frzs b o x e)
    · obtain ⟨more, z⟩ := un.tbls b ps e
      exact ⟨more, same _ _ z⟩
  · by_cases h : val b
    · rw [in_ b h, Option.map_eq_some_iff] at e
      obtain ⟨ob, ho, rfl⟩ := e
      exact ⟨ho, ob, ho⟩
    · rw [out b h] at e
      exact objOk_of (fun dx x e1 _ => same _ _ e1) (fun p xs e1 => same _ _ e1) (J.hok b o e)
end Ct

/-! CtJ: nested defs and the end of their maker, at the level of values. -/
namespace Ct
open PySem PySem.Spec PyProof.Rows L2 NdefX
open LamX (CodeO)
def tabN (T : List NTab) : TabI := ⟨TabsN T, fun s t p hp => (t p hp).ext s, fun {H p u o} h nt nx t q hq => by
  obtain ⟨ps, h1, h2, h3⟩ := t q hq
  refine ⟨ps, ?_, h2, fun pos cv hc => ?_⟩
  · rw [upd_ne (ne_of h1 h (fun z => nt ps z.symm))]
    exact h1
  · obtain ⟨c, e1, e2⟩ := h3 pos cv hc
    refine ⟨c, e1, ?_⟩
    rw [upd_ne (ne_of e2 h (fun z => by unfold LamX.CodeO at z; exact nx _ z.symm))]
    exact e2, fun k t q hq => by
  obtain ⟨ps, h1, h2, h3⟩ := t q hq
  exact ⟨ps, k _ _ h1 (.inl ⟨_, rfl⟩), h2, fun pos cv hc => let ⟨c, e1, e2⟩ := h3 pos cv hc; ⟨c, e1, k _ _ e2 (.inr ⟨_, rfl⟩)⟩⟩⟩
/-- a function whose captured cells are not yet told -/
def preO (mk : Addr → NF) : Ob := ⟨fun F v => ∃ (f c' : Addr), v = .ref f ∧ F f = some (FnO f (mk c')) ∧ F c' = some (CodeO c' (mk c').qual), fun s ⟨f, c', e, h1, h2⟩ => ⟨f, c', e, s _ _ h1, s _ _ h2⟩⟩
theorem cloFrom_in (cells : List (Str × Addr)) {y : Str} {a : Addr} : ∀ (names : List (Str × NameKind)) (acc : List (Str × Addr)), (cloFrom cells names acc).lookup y = some a → acc.lookup y = some a ∨ (y, NameKind.free) ∈ names
  | [], acc, h => .inl h
  | (n, k) :: r, acc, h => by
    unfold cloFrom at h
    by_cases hk : (k == .free) = true
    · rw [if_pos hk] at h
      rcases cloFrom_in cells r _ h with h | h
      · rw [List.lookup_cons] at h
        cases hb : y == n with
        | true =>
          have : y = n := beq_iff_eq.mp hb
          have hk : k = .free := beq_iff_eq.mp hk
          subst this
          subst hk
          exact .inr (List.mem_cons_self ..)
        | false =>
          rw [hb] at h
          exact .inl h
      · exact .inr (List.mem_cons_of_mem _ h)
    · rw [if_neg hk] at h
      exact (cloFrom_in cells r acc h).imp id (List.mem_cons_of_mem _)
section
variable {K : PySem.W.Frag} {T : TabI} {TN : List NTab} {α α' : Nat → Addr} {F F' H H' : Hp} {L L' : Nat} {ss : SS} {sto : Sto} {Φ : Val → Sto → Prop} {te ta tf : TE} {P : Po}
theorem ws_ndef {i : Nat} {mk : Addr → NF} (h : P.nx (ss.set i (some (.ob (preO mk)))) sto) : WS K (tabN TN) (tNdefM TN i mk) ss sto P := fun α F H σ r s D o => by
  refine ⟨r.tab, fun f c' H1 eN nn T1 hf h1 h2 => ?_⟩
  have Ff : F f = none := r.sub.free hf
  let F1 : Hp := fun b => if b = f then some (FnO f (mk c')) else if b = c' then some (CodeO c' (mk c').qual) else F b
  have at_f : F1 f = some (FnO f (mk c')) := if_pos rfl
  have keepH : ∀ b x, H b = some x → (∀ ps, x ≠ .tbl ps) → H1 b = some x := fun b x e no => eN b x e no
  have up : Same F F1 := fun b x e => by
    have hb : b ≠ f := fun z => by rw [z, Ff] at e; cases e
    show (if b = f then _ else _) = _
    rw [if_neg hb]
    by_cases hc : b = c'
    · rw [if_pos hc]
      have := keepH b x (r.sub _ _ e) fun ps z => r.nt b ps (by rw [e, z])
      rw [hc, h2] at this
      exact this
    · rw [if_neg hc]
      exact e
  have at_c : F1 c' = some (CodeO c' (mk c').qual) := by
    show (if c' = f then _ else if c' = c' then _ else _) = _
    by_cases hc : c' = f
    · rw [if_pos hc]
      rw [hc] at h2 ⊢
      rw [h1] at h2
      rw [← hc] at h2 ⊢
      exact h2
    · rw [if_neg hc, if_pos rfl]
  have sub1 : Same F1 H1 := fun b x e => by
    have e : (if b = f then some (FnO f (mk c')) else if b = c' then some (CodeO c' (mk c').qual) else F b) = some x := e
    by_cases hb : b = f
    · rw [if_pos hb] at e
      rw [hb, h1]
      exact e
    · rw [if_neg hb] at e
      by_cases hc : b = c'
      · rw [if_pos hc] at e
        rw [hc, h2]
        exact e
      · rw [if_neg hc] at e
        exact keepH b x (r.sub _ _ e) fun ps z => r.nt b ps (by rw [e, z])
  have nn1 : ∀ L, Nx α F L α F1 L := fun L => ⟨up, Nat.le_refl _, fun _ _ => rfl⟩
  have r1 : Rel K (tabN TN) α F1 H1 sto := by
    refine ⟨sub1, fun b ps e => ?_, T1, fun n c e => (r.at_ n c e).move (nn1 _) (fun l z => ?_) fun l x no z => keepH _ _ z no, r.inj⟩
    · have e : (if b = f then some (FnO f (mk c')) else if b = c' then some (CodeO c' (mk c').qual) else F b) = some (.tbl ps) := e
      by_cases hb : b = f
      · rw [if_pos hb] at e
        exact fnO_ne ps (Option.some.inj e)
      · rw [if_neg hb] at e
        by_cases hc : b = c'
        · rw [if_pos hc] at e
          unfold LamX.CodeO at e
          cases e
        · rw [if_neg hc] at e
          exact r.nt b ps e
    · have hc := r.at_ n c e
      obtain ⟨x, hx⟩ := hc.on r.sub
      have hb : α n ≠ f := fun q => by rw [q, hf] at hx; cases hx
      have hnc : α n ≠ c' := fun q => by
        have k : (∃ xs, H (α n) = some (.lst xs)) ∨ ∃ C dx fs, H (α n) = some (.ins C dx fs) := by
          cases c with
          | mu xs => exact .inl ⟨_, hc.2.choose_spec.1⟩
          | fr xs => cases l
          | ml xs => exact .inl ⟨_, hc.2.choose_spec.1⟩
          | ins C fs => exact .inr ⟨_, _, _, hc.2.choose_spec.choose_spec.1⟩
          | gone => cases l
          | pin vs xs => exact .inl ⟨_, hc.2.1⟩
        rcases k with ⟨xs, k⟩ | ⟨C, dx, fs, k⟩
        · have := keepH _ _ k fun ps z => by cases z
          rw [q, h2] at this
          unfold LamX.CodeO at this
          cases this
        · have := keepH _ _ k fun ps z => by cases z
          rw [q, h2] at this
          unfold LamX.CodeO at this
          cases this
      show (if α n = f then _ else if α n = c' then _ else F (α n)) = none
      rw [if_neg hb, if_neg hnc]
      exact z
  exact o.nx α F1 H1 _ _ sto (nn1 _) r1 ((s.mono (nn1 _)).set i (x := .ob (preO mk)) ⟨f, c', rfl, at_f, at_c⟩) h
/-! ### the maker's body -/
def WK (K : PySem.W.Frag) (T : TabI) (tt : (V → L2.St → Hp → Prop) → L2.St → Hp → Prop) (ss : SS) (sto : Sto) (Ψ : Val → SS → Sto → Prop) : Prop :=
  ∀ (α : Nat → Addr) (F H : Hp) (σ : L2.St), Rel K T α F H sto → SR K α F sto.length ss σ → ∀ R : V → L2.St → Hp → Prop,
    (∀ (α' : Nat → Addr) (F' H' : Hp) (v : V) (x : Val) (ss' : SS) (σ' : L2.St) (st' : Sto), Nx α F sto.length α' F' st'.length → Rel K T α' F' H' st' → SR K α' F' st'.length ss' σ' → VR K α' F' st'.length x v → Ψ x ss' st' → R v σ' H') → tt R σ H
theorem wk_ret {Ψ : Val → SS → Sto → Prop} (h : WE K T te ss sto fun x st1 => Ψ x ss st1) : WK K T (fun R σ H => te σ H fun v H1 => R v σ H1) ss sto Ψ := fun α F H σ r s R k =>
  h α F H σ r s _ fun α1 F1 H1 v x st1 n1 r1 v1 q => k α1 F1 H1 v x ss σ st1 n1 r1 (s.mono n1) v1 q
theorem wk_cons {t : TS} {u : (V → L2.St → Hp → Prop) → L2.St → Hp → Prop} {Ψ : Val → SS → Sto → Prop} (h : WS K T t ss sto { nx := fun ss1 st1 => WK K T u ss1 st1 Ψ, rt := fun _ _ => False, bk := fun _ _ => False, ct := fun _ _ => False }) :
    WK K T (fun R σ H => t { nx := fun σ1 H1 => u R σ1 H1, rt := fun _ _ => False, bk := fun _ _ => False, ct := fun _ _ => False } σ H) ss sto Ψ := fun α F H σ r s R k =>
  h α F H σ r s _ ⟨fun α1 F1 H1 σ1 ss1 st1 n1 r1 s1 q => q α1 F1 H1 σ1 r1 s1 R fun α2 F2 H2 v x ss2 σ2 st2 n2 => k α2 F2 H2 v x ss2 σ2 st2 (n1.trans n2), fun _ _ _ _ _ _ _ _ _ q => q.elim, fun _ _ _ _ _ _ _ _ _ q => q.elim, fun _ _ _ _ _ _ _ _ _ q => q.elim⟩
/-! ### its end -/
/-- how a value is told at the end: a function's captured cells by the slots -/
inductive Upg (K : PySem.W.Frag) (cells : List (Str × Addr)) (N : List Str) (sc : Scope) (ss' : SS) : Val → Val → Prop
  | same {x : Val} (h : ∀ n, x ≠ .cell n) : Upg K cells N sc ss' x x
  | clo {st : Stmt} {name qual : Str} {fr : List Str} {ws : List Val} (hin : ∀ y, (y, NameKind.free) ∈ (C8.fnScope st).names ↔ y ∈ fr) (hcell : ∀ y ∈ fr, sc.names.lookup y = some .cell) (hl : ws.length = fr.length)
      (hat : ∀ (i : Nat) (y : Str), fr[i]? = some y → ∃ (j : Nat) (x : Val), N[j]? = some y ∧ ss'[j]? = some (some x) ∧ (∀ n, x ≠ .cell n) ∧ ws[i]? = some x) :
      Upg K cells N sc ss' (.ob (preO (NF.of st name qual (cloFrom cells (C8.fnScope st).names [])))) (.ob (cloO K st name qual fr ws))
inductive Upgs (K : PySem.W.Frag) (cells : List (Str × Addr)) (N : List Str) (sc : Scope) (ss' : SS) : List Val → List Val → Prop
  | nil : Upgs K cells N sc ss' [] []
  | cons {x y : Val} {xs ys : List Val} : Upg K cells N sc ss' x y → Upgs K cells N sc ss' xs ys → Upgs K cells N sc ss' (x :: xs) (y :: ys)
theorem VR.flat {x : Val} {v : V} (h : ∀ n, x ≠ .cell n) (s : Same F F') (hv : VR K α F L x v) : VR K α' F' L' x v := by
  cases x with
  | pd d => exact dpm s hv
  | ty n => exact hv
  | cell n => exact absurd rfl (h n)
  | ob o => exact o.mono s hv
open Classical in
noncomputable def addT (cells : List (Str × Addr)) (F H2 : Hp) : Hp := fun b => if ∃ x, cells.lookup x = some b then H2 b else F b
section
variable {cells : List (Str × Addr)} {N : List Str} {sc : Scope} {σ : L2.St} {H2 : Hp} {ss' : SS}
theorem addT_in {x : Str} {b : Addr} (h : cells.lookup x = some b) : addT cells F H2 b = H2 b := if_pos ⟨x, h⟩
theorem addT_out {b : Addr} (h : ¬ ∃ x, cells.lookup x = some b) : addT cells F H2 b = F b := if_neg h
theorem upg_ok {x y : Val} {v : V} (t : Told cells N sc σ H H2) (r : Rel K T α F H sto) (hs : SR K α F sto.length ss' σ) (u : Upg K cells N sc ss' x y) (hv : VR K α F sto.length x v) (s : Same F (addT cells F H2)) : VR K α (addT cells F H2) L y v := by
  cases u with
  | same h => exact hv.flat h s
  | @clo st name qual fr ws hin hcell hl hat =>
    obtain ⟨f, c', e, h1, h2⟩ := hv
    have hfree : ∀ y ∈ (C8.fnScope st).names, y.2 = .free → ∃ c, cells.lookup y.1 = some c := fun y hy e => t.has _ (hcell _ ((hin y.1).mp (by rw [← e]; exact hy)))
    have offc : ∀ a o, F a = some o → ∀ y, (cloFrom cells (C8.fnScope st).names []).lookup y ≠ some a := fun a o e y z => by
      have := t.free y a (clo_cm hfree z)
      rw [r.sub _ _ e] at this
      cases this
    refine ⟨f, cloFrom cells (C8.fnScope st).names [], c', e, s _ _ h1, s _ _ h2, hl, fun y a z => ?_, fun x y a z1 z2 => t.inj x y a (clo_cm hfree z1) (clo_cm hfree z2), ⟨offc _ _ h1, offc _ _ h2⟩, fun i y hi => ?_⟩
    · rcases cloFrom_in cells _ _ z with z | z
      · cases z
      · exact (hin y).mp z
    · have hy : y ∈ fr := List.mem_of_getElem? hi
      obtain ⟨a, ha⟩ := t.has y (hcell y hy)
      obtain ⟨j, x, e1, e2, e3, e4⟩ := hat i y hi
      obtain ⟨w, ew, hw⟩ := hs.at_ j x e2
      obtain ⟨o, ho, hc⟩ := t.at_ j y a w e1 (hcell y hy) ha ew
      exact ⟨a, o, w, x, clo_has hfree ((hin y).mpr hy) ha, e4, by rw [addT_in ha]; exact ho, hc, hw.flat e3 s⟩
theorem upgs_ok (t : Told cells N sc σ H H2) (r : Rel K T α F H sto) (hs : SR K α F sto.length ss' σ) (s : Same F (addT cells F H2)) : ∀ {xs ys : List Val} {vs : List V}, Upgs K cells N sc ss' xs ys → VRs K α F sto.length xs vs → VRs K α (addT cells F H2) L ys vs
  | _, _, _, .nil, .nil => .nil
  | _, _, _, .cons u us, .cons h hs' => .cons (upg_ok t r hs u h s) (upgs_ok t r hs s us hs')
theorem told_same (t : Told cells N sc σ H H2) (r : Rel K T α F H sto) : Same F (addT cells F H2) := fun b o e => by
  by_cases h : ∃ x, cells.lookup x = some b
  · obtain ⟨x, hx⟩ := h
    have := t.free x b hx
    rw [r.sub _ _ e] at this
    cases this
  · rw [addT_out h]
    exact e
theorem told_rel (t : Told cells N sc σ H H2) (r : Rel K T α F H sto) : Rel K T α (addT cells F H2) H2 sto := by
  have s := told_same t r
  refine ⟨fun b o e => ?_, fun b ps e => ?_, T.ext t.same r.tab, fun n c e => (r.at_ n c e).move ⟨s, Nat.le_refl _, fun _ _ => rfl⟩ (fun l z => ?_) fun l o no z => t.same _ _ z, r.inj⟩
  · by_cases h : ∃ x, cells.lookup x = some b
    · obtain ⟨x, hx⟩ := h
      rw [addT_in hx] at e
      exact e
    · rw [addT_out h] at e
      exact t.same _ _ (r.sub _ _ e)
  · by_cases h : ∃ x, cells.lookup x = some b
    · obtain ⟨x, hx⟩ := h
      rw [addT_in hx] at e
      rcases t.new b _ e with z | ⟨_, _, ob, z⟩
      · rw [t.free x b hx] at z
        cases z
      · cases z
    · rw [addT_out h] at e
      exact r.nt b ps e
  · rw [addT_out]
    · exact z
    · rintro ⟨x, hx⟩
      obtain ⟨o, ho⟩ := (r.at_ n c e).on r.sub
      rw [t.free x _ hx] at ho
      cases ho
end
theorem Rel.relabel {n : Nat} {c0 c : Cell} (r : Rel K T α F H sto) (h : sto[n]? = some c0) (l0 : c0.live) (d : CR K α F H sto.length (α n) c) : Rel K T α F H (sto.set n c) := by
  refine ⟨r.sub, r.nt, r.tab, fun m x e => ?_, fun m k x y e1 e2 l1 l2 e => ?_⟩
  · rw [List.length_set]
    rcases get_set e with ⟨rfl, q⟩ | ⟨hn, q⟩
    · rw [q]
      exact d
    · exact r.at_ m x q
  · have f : ∀ {m : Nat} {x : Cell}, (sto.set n c)[m]? = some x → x.live → ∃ y, sto[m]? = some y ∧ y.live := fun {m x} e l => by
      rcases get_set e with ⟨rfl, _⟩ | ⟨_, q⟩
      · exact ⟨c0, h, l0⟩
      · exact ⟨x, q, l⟩
    obtain ⟨a1, b1, d1⟩ := f e1 l1
    obtain ⟨a2, b2, d2⟩ := f e2 l2
    exact r.inj m k _ _ b1 b2 d1 d2 e
/-- what a maker's body must show at its end -/
def EndC (K : PySem.W.Frag) (cells : List (Str × Addr)) (N : List Str) (sc : Scope) (Φ : Val → Sto → Prop) (x : Val) (ss' : SS) (st' : Sto) : Prop :=
  (∃ y, Upg K cells N sc ss' x y ∧ Φ y st') ∨ ∃ n xs ys, x = .cell n ∧ st'[n]? = some (.ml xs) ∧ Upgs K cells N sc ss' xs ys ∧ Φ (.cell n) (st'.set n (.ml ys))
theorem mk_run {cells : List (Str × Addr)} {N : List Str} {sc : Scope} {n : Nat} {p : Pre} {tt : (V → L2.St → Hp → Prop) → L2.St → Hp → Prop} {vs : List V} {Q : VK} {E : XK} (h : spP K T n p vs H Q E)
    (hw : ∀ (xs : List Val) (st : Sto) (Φ : Val → Sto → Prop), xs.length = n → p xs st Φ → WK K T tt (startS N xs) st (EndC K cells N sc Φ)) :
    tt (fun v σ H1 => ∀ H2, Told cells N sc σ H1 H2 → Q v H2) (L2.start N vs) H := by
  obtain ⟨α, F, st, xs, Φ, r, v, hl, hp, k⟩ := h
  refine hw xs st Φ hl hp α F H (L2.start N vs) r (SR_start v N) _ fun α1 F1 H1 v x ss' σ' st' n1 r1 s1 v1 q H2 t => ?_
  have s := told_same t r1
  have nx1 : Nx α F st.length α1 (addT cells F1 H2) st'.length := n1.trans ⟨s, Nat.le_refl _, fun _ _ => rfl⟩
  rcases q with ⟨y, u, q⟩ | ⟨n, xs, ys, rfl, hn, u, q⟩
  · exact k α1 _ H2 v y st' nx1 (told_rel t r1) (upg_ok t r1 s1 u v1 s) q
  · obtain ⟨h1, vs1, h2, h3⟩ := r1.ml n xs hn
    have r2 := told_rel t r1
    have c2 := r2.ml n xs hn
    refine k α1 _ H2 v (.cell n) (st'.set n (.ml ys)) (by rw [List.length_set]; exact nx1) (r2.relabel hn trivial ⟨c2.1, vs1, t.same _ _ h2, upgs_ok t r1 s1 s u h3⟩) (by rw [List.length_set]; exact v1) q
end
end Ct

/-! CtK: lists of values; methods and classes as facts. -/
namespace Ct
open PySem PySem.Spec PyProof.Rows L2
section
variable {K : PySem.W.Frag} {T : TabI} {α α' : Nat → Addr} {F F' H H' : Hp} {L L' : Nat} {ss : SS} {st : Sto} {Φ : Val → Sto → Prop} {te ta tf : TE} {P : Po}
theorem VRs.get : ∀ {xs : List Val} {vs : List V} {i : Nat} {x : Val}, VRs K α F L xs vs → xs[i]? = some x → ∃ v, vs[i]? = some v ∧ VR K α F L x v
  | _, _, _, _, .nil, e => by simp at e
  | _, _, 0, _, .cons h _, e => by
    simp at e
    subst e
    exact ⟨_, rfl, h⟩
  | _, _, i + 1, _, .cons _ t, e => by
    simp at e
    obtain ⟨v, h1, h2⟩ := t.get e
    exact ⟨v, by simpa using h1, h2⟩
theorem VRs.getV : ∀ {xs : List Val} {vs : List V} {i : Nat} {v : V}, VRs K α F L xs vs → vs[i]? = some v → ∃ x, xs[i]? = some x ∧ VR K α F L x v
  | _, _, _, _, .nil, e => by simp at e
  | _, _, 0, _, .cons h _, e => by
    simp at e
    subst e
    exact ⟨_, rfl, h⟩
  | _, _, i + 1, _, .cons _ t, e => by
    simp at e
    obtain ⟨v, h1, h2⟩ := t.getV e
    exact ⟨v, by simpa using h1, h2⟩
theorem atI_vrs {xs : List Val} {vs : List V} {i : Int} {x : Val} (t : VRs K α F L xs vs) (e : atI xs i = some x) : ∃ v, atI vs i = some v ∧ VR K α F L x v := by
  unfold atI at e ⊢
  rw [← t.len]
  rw [Option.bind_eq_some_iff] at e
  obtain ⟨j, e1, e2⟩ := e
  obtain ⟨v, h1, h2⟩ := t.get e2
  exact ⟨v, by rw [e1]; exact h1, h2⟩
/-- xs[i], xs a list of values -/
theorem wr_ixM {n : Nat} {xs : List Val} {i : Int} {y : Val} (h : st[n]? = some (.ml xs)) (e : atI xs i = some y) (q : Φ y st) : WR K T (rIx K) (.cell n) (.pd (.int i)) st Φ := fun α F H vx vy r hx hy Q k => by
  obtain rfl := dp_int hy
  obtain ⟨h1, vs, h2, h3⟩ := r.ml n xs h
  obtain ⟨v, e1, dv⟩ := atI_vrs h3 e
  obtain ⟨_, rfl⟩ := hx
  exact .inl ⟨_, vs, i, v, rfl, rfl, .inl (.inl h2), e1, k α F H v y st Nx.refl r dv q⟩
/-- [..], a list of values -/
theorem we_lstM {t : TA} (h : WA K T t ss st fun xs st1 => xs.length ≤ sizeLine ∧ Φ (.cell st1.length) (st1 ++ [.ml xs])) : WE K T (tLst t) ss st Φ := fun α F H σ r s Q k =>
  h α F H σ r s _ fun α1 F1 H1 vs xs st1 n1 r1 v1 ⟨hl, q⟩ => by
    refine ⟨by rw [← v1.len]; exact hl, fun p hp => ?_⟩
    have hlen : (st1 ++ [Cell.ml xs]).length = st1.length + 1 := by simp
    have nx : Nx α1 F1 st1.length (ext α1 st1.length p) F1 (st1.length + 1) := Nx.ext
    refine k (ext α1 st1.length p) F1 _ (.ref p) (.cell st1.length) (st1 ++ [.ml xs]) (n1.trans (by rw [hlen]; exact nx)) (r1.cellG (c := .ml xs) hp ⟨none_of r1 hp, vs, upd_same, v1.mono nx⟩ fun ps z => by cases z) ?_ q
    exact ⟨by rw [hlen]; exact Nat.lt_succ_self _, by rw [ext_same]⟩
/-- list(x), x a list of values -/
theorem wc_listM {n : Nat} {xs : List Val} (h : st[n]? = some (.ml xs)) (q : Φ (.cell st.length) (st ++ [.ml xs])) : WC K T (fun xs H Q => ∃ p ys, xs = [.ref p] ∧ (SqL K H p ys ∨ SqT K H p ys) ∧ ∀ l, H l = none → Q (.ref l) (upd H l (.lst ys))) [.cell n] st Φ := fun α F H vs r hv Q k => by
  obtain ⟨v, rfl, h1⟩ := vrs1 hv
  obtain ⟨_, rfl⟩ := h1
  obtain ⟨_, ys, h2, h3⟩ := r.ml n xs h
  refine ⟨_, ys, rfl, .inl (.inl (.inl h2)), fun p hp => ?_⟩
  have hlen : (st ++ [Cell.ml xs]).length = st.length + 1 := by simp
  have nx : Nx α F st.length (ext α st.length p) F (st.length + 1) := Nx.ext
  refine k (ext α st.length p) F _ (.ref p) (.cell st.length) (st ++ [.ml xs]) (by rw [hlen]; exact nx) (r.cellG (c := .ml xs) hp ⟨none_of r hp, ys, upd_same, h3.mono nx⟩ fun ps z => by cases z) ?_ q
  exact ⟨by rw [hlen]; exact Nat.lt_succ_self _, by rw [ext_same]⟩
end
/-! ### methods, classes -/
/-- a method that is called: its promise (self ahead of the arguments), how it binds -/
structure CalM (P : Program) (w : World) (K : PySem.W.Frag) (mg : Str → Option Value) (base : Heap) (k : Nat) (C : Addr) (m : Str) (ps : List Str) (sp : Sp) : Prop where
  ex : ∃ (f : Addr) (fd : FuncData), FnOk P w K mg base CX0 k f fd ps sp ∧ Meth K C m f ∧ Binds K fd ps []
theorem pe_methC {X : Cx} {k : Nat} {C : Addr} {m : Str} {ps : List Str} {sp : Sp} {o e : Expr} {es : List Expr} {ta : TE} {t : TA} {apos pos : Pos} {pl : Sem Bool} (c : CalM X.prog X.w X.K X.mg X.base k C m ps sp) (hc : Cls X.K C) (hr : Room k X.A) (he : PE X o ta) (ha : PA X (e :: es) t)
    (hst : starEach (e :: es) X.env = (false, eval e X.env) :: starEach es X.env := by rfl) (hpl : (backTo pos (starEach es X.env)).any (·.1) = false := by rfl)
    (ht : eval (.Call (.Attribute o m apos) (e :: es) [] pos) X.env = (do
      let ov ← eval o X.env
      standAt apos.atName
      let (f, first) ← holding [ov] (getMethod ov m pl)
      callWith pos f first (backTo pos (starEach (e :: es) X.env)) (backToKw pos (keywordEach [] X.env))) := by rfl) : PE X (.Call (.Attribute o m apos) (e :: es) [] pos) (tMeth C m sp [] E0 ta t) := by
  obtain ⟨f, fd, F, hm, b⟩ := c.ex
  exact pe_meth he hc hm F hr b .nil pass0 ha hst hpl ht
theorem pe_methC0 {X : Cx} {k : Nat} {C : Addr} {m : Str} {ps : List Str} {sp : Sp} {o : Expr} {ta : TE} {apos pos : Pos} {pl : Sem Bool} (c : CalM X.prog X.w X.K X.mg X.base k C m ps sp) (hc : Cls X.K C) (hr : Room k X.A) (he : PE X o ta)
    (ht : eval (.Call (.Attribute o m apos) [] [] pos) X.env = (do
      let ov ← eval o X.env
      standAt apos.atName
      let (f, first) ← holding [ov] (getMethod ov m pl)
      callWith pos f first (backTo pos (starEach [] X.env)) (backToKw pos (keywordEach [] X.env))) := by rfl) : PE X (.Call (.Attribute o m apos) [] [] pos) (tMeth C m sp [] E0 ta tNil) := by
  obtain ⟨f, fd, F, hm, b⟩ := c.ex
  exact pe_meth0 he hc hm F hr b .nil pass0 ht
/-- a class that is called -/
structure CalI (P : Program) (w : World) (K : PySem.W.Frag) (mg : Str → Option Value) (base : Heap) (k : Nat) (x : Str) (C : Addr) (ps : List Str) (sp : Sp) : Prop where
  ex : ∃ (f : Addr) (fd : FuncData), FnOk P w K mg base CX0 k f fd ps sp ∧ Mk K C f ∧ mg x = some (.ref C) ∧ Binds K fd ps []
theorem pe_makeC {X : Cx} {k : Nat} {x : Str} {C : Addr} {ps : List Str} {sp : Sp} {p pos : Pos} {e : Expr} {es : List Expr} {t : TA} (c : CalI X.prog X.w X.K X.mg X.base k x C ps sp) (hr : Room (k + 1) X.A) (hg : Gl X x) (ha : PA X (e :: es) t) (hdb : (x == ("__debug__" : Str)) = false := by decide)
    (he : starEach (e :: es) X.env = (false, eval e X.env) :: starEach es X.env := by rfl) (hpl : (backTo pos (starEach es X.env)).any (·.1) = false := by rfl) : PE X (.Call (.Name x p) (e :: es) [] pos) (tMake C sp [] E0 t) := by
  obtain ⟨f, fd, F, M, hm, b⟩ := c.ex
  exact pe_make M F hr hg hm b .nil pass0 ha hdb he hpl
/-- a method as it stands behind the top -/
def Dm (K : PySem.W.Frag) (C : Addr) (m qual : Str) (st : Stmt) : Prop := ∃ (f : Addr) (fd : FuncData), Fun K m qual st f fd ∧ Meth K C m f
theorem Dm.cal {P : Program} {w : World} {K : PySem.W.Frag} {mg : Str → Option Value} {base : Heap} {k : Nat} {C : Addr} {m qual : Str} {st : Stmt} {ps : List Str} {sp : Sp} (d : Dm K C m qual st) (h : ∀ (f : Addr) (fd : FuncData), Fun K m qual st f fd → FnOk P w K mg base CX0 k f fd ps sp)
    (b : ∀ (kV doc pm : Value) (an : Option Addr) (cdv ct : Value) (us : List Value), us.length = ps.length → bindArgs (PySem.W.fnOf m qual (defArgs st) (defBody st) (defScope st) .none kV doc pm an cdv ct) ⟨us, []⟩ = pure (ps.zip us)) : CalM P w K mg base k C m ps sp := by
  obtain ⟨f, fd, F, hm⟩ := d
  exact ⟨f, fd, h f fd F, hm, F.binds b⟩
/-- a class's __init__ as it stands behind the top -/
def Di (K : PySem.W.Frag) (mg : Str → Option Value) (x : Str) (C : Addr) (qual : Str) (st : Stmt) : Prop := ∃ (f : Addr) (fd : FuncData), Fun K "__init__" qual st f fd ∧ Mk K C f ∧ mg x = some (.ref C)
theorem Di.cal {P : Program} {w : World} {K : PySem.W.Frag} {mg : Str → Option Value} {base : Heap} {k : Nat} {x : Str} {C : Addr} {qual : Str} {st : Stmt} {ps : List Str} {sp : Sp} (d : Di K mg x C qual st) (h : ∀ (f : Addr) (fd : FuncData), Fun K "__init__" qual st f fd → FnOk P w K mg base CX0 k f fd ps sp)
    (b : ∀ (kV doc pm : Value) (an : Option Addr) (cdv ct : Value) (us : List Value), us.length = ps.length → bindArgs (PySem.W.fnOf "__init__" qual (defArgs st) (defBody st) (defScope st) .none kV doc pm an cdv ct) ⟨us, []⟩ = pure (ps.zip us)) : CalI P w K mg base k x C ps sp := by
  obtain ⟨f, fd, F, M, hm⟩ := d
  exact ⟨f, fd, h f fd F, M, hm, F.binds b⟩
end Ct

/-! CtM: chains of three, attributes as targets, tuple(x). -/
namespace Ct
open PySem PySem.Spec PyProof.Rows L2
section
variable {X : Cx} {a b c d : Expr} {ta tb tc td : TE} {pos : Pos}
def tChain3 (r r' r'' : R2) (ta tb tc td : TE) : TE := fun σ H Q => ta σ H fun x H1 => tb σ H1 fun y H2 => r x y H2 fun z H3 => ∃ k, z = .bl k ∧
  (if k = true then tc σ H3 fun w H4 => r' y w H4 fun z2 H5 => ∃ k2, z2 = .bl k2 ∧ (if k2 = true then td σ H5 fun u H6 => r'' w u H6 Q else Q (.bl false) H5) else Q (.bl false) H3)
theorem pe_chain3 {op op' op'' : CmpOp} {r r' r'' : R2} (ho : OpR X (compareOp op) r) (ho' : OpR X (compareOp op') r') (ho'' : OpR X (compareOp op'') r'') (ha : PE X a ta) (hb : PE X b tb) (hc : PE X c tc) (hd : PE X d td)
    (hm : lastMarks [op, op', op''] [b, c, d] = false := by with_unfolding_all rfl) : PE X (.Compare a [op, op', op''] [b, c, d] pos) (tChain3 r r' r'' ta tb tc td) := by
  refine ⟨fun pins s σ H Q I h => ?_⟩
  refine Compare_chain (thn (ha.run pins s σ H _ I h) fun v s1 ⟨x, H1, I1, r1, q1⟩ => chain_link (thn (hb.run pins s1 σ H1 _ I1 q1) fun u s2 ⟨y, H2, I2, r2, q2⟩ =>
    thn (ho pins s2 σ H2 x y v u _ I2 r1 r2 q2) fun d1 s3 ⟨z, H3, I3, r3, k, e, q3⟩ => ?_)) hm
  subst e
  cases r3
  refine wpAny_truthy_bool ?_
  cases k with
  | false => exact ite_ff ⟨.bl false, H3, I3, rfl, q3⟩
  | true =>
    refine ite_tt (chain_link (thn (hc.run pins s3 σ H3 _ I3 q3) fun w' s4 ⟨z', H4, I4, r4, q4⟩ => thn (ho' pins s4 σ H4 y z' u w' _ I4 r2 r4 q4) fun d2 s5 ⟨z2, H5, I5, r5, k2, e2, q5⟩ => ?_))
    subst e2
    cases r5
    refine wpAny_truthy_bool ?_
    cases k2 with
    | false => exact ite_ff ⟨.bl false, H5, I5, rfl, q5⟩
    | true => exact ite_tt (chain_last (thn (hd.run pins s5 σ H5 _ I5 q5) fun w3 s6 ⟨z6, H6, I6, r6, q6⟩ => ho'' pins s6 σ H6 z' z6 w' w3 Q I6 r4 r6 q6))
theorem pt_chain3 {op op' op'' : CmpOp} {r r' r'' : R2} (ho : OpR X (compareOp op) r) (ho' : OpR X (compareOp op') r') (ho'' : OpR X (compareOp op'') r'') (ha : PE X a ta) (hb : PE X b tb) (hc : PE X c tc) (hd : PE X d td)
    (hm : lastMarks [op, op', op''] [b, c, d] = false := by with_unfolding_all rfl) : PT X (.Compare a [op, op', op''] [b, c, d] pos) (tTest (tChain3 r r' r'' ta tb tc td)) := by
  refine ⟨fun pins s σ H Q I h => ?_⟩
  refine isTrue_chain (thn (ha.run pins s σ H _ I h) fun v s1 ⟨x, H1, I1, r1, q1⟩ => test_link (thn (hb.run pins s1 σ H1 _ I1 q1) fun u s2 ⟨y, H2, I2, r2, q2⟩ =>
    thn (ho pins s2 σ H2 x y v u _ I2 r1 r2 q2) fun d1 s3 ⟨z, H3, I3, r3, k, e, q3⟩ => ?_)) hm
  subst e
  cases r3
  refine wpAny_truthy_bool ?_
  cases k with
  | false =>
    obtain ⟨k', e', q'⟩ := q3
    cases e'
    exact ite_ff ⟨H3, I3, q'⟩
  | true =>
    refine ite_tt (test_link (thn (hc.run pins s3 σ H3 _ I3 q3) fun w' s4 ⟨z', H4, I4, r4, q4⟩ => thn (ho' pins s4 σ H4 y z' u w' _ I4 r2 r4 q4) fun d2 s5 ⟨z2, H5, I5, r5, k2, e2, q5⟩ => ?_))
    subst e2
    cases r5
    refine wpAny_truthy_bool ?_
    cases k2 with
    | false =>
      obtain ⟨k', e', q'⟩ := q5
      cases e'
      exact ite_ff ⟨H5, I5, q'⟩
    | true =>
      refine ite_tt (test_last (thn (hd.run pins s5 σ H5 _ I5 q5) fun w3 s6 ⟨z6, H6, I6, r6, q6⟩ => thn (ho'' pins s6 σ H6 z' z6 w' w3 _ I6 r4 r6 q6) fun d3 s7 ⟨z7, H7, I7, r7, k7, e7, q7⟩ => ?_))
      subst e7
      cases r7
      exact wpAny_truthy_bool ⟨H7, I7, q7⟩
/-- o.f = .., among several targets -/
def gFld (K : PySem.W.Frag) (to : TE) (f : Str) : TG := fun v σ H Q => to σ H fun x H1 => ∃ p C dx fs, x = .ref p ∧ H1 p = some (.ins C dx fs) ∧ Cls K C ∧ NoAttr K C f ∧ fs.length < 1000 ∧ Q σ (upd H1 p (.ins C dx (putF f v fs)))
theorem pg_fld {o : Expr} {f : Str} {to : TE} (ho : PE X o to)
    (ha : ∀ v, assign (.Attribute o f pos) X.env v = (do
      let ov ← holding [v] (eval o X.env)
      standAt pos.atName
      holding [v, ov] (setAttr ov f v)
      release [v, ov] []) := by intro _; rfl) : PG X (.Attribute o f pos) (gFld X.K to f) := by
  refine ⟨fun pins s σ H v u Q I r h => ?_⟩
  rw [ha]
  refine wpAny_bind (wpAny_holding (thn (ho.run pins s σ H _ I h) fun ov s1 ⟨x, H1, I1, r1, p, C, dx, fs, e, hp, c, n, l, q⟩ => ?_))
  subst e
  obtain rfl : ov = Value.ref p := r1
  refine wpAny_bind (wpAny_standAt (wpAny_bind (wpAny_holding (setattr_ok I1 hp c n l r fun s2 I2 => ?_))))
  exact wpAny_release ⟨σ, _, I2, q⟩
end
section
variable {K : PySem.W.Frag} {T : TabI} {ss : SS} {st : Sto} {Φ : Val → Sto → Prop} {Y : SS → Sto → Prop} {ta tb tc td : TE}
theorem wg_fld {f : Str} {x : Val} (h : WE K T ta ss st fun y st1 => ∃ n C fs, y = .cell n ∧ st1[n]? = some (.ins C fs) ∧ Cls K C ∧ NoAttr K C f ∧ fs.length < 1000 ∧ Y ss (st1.set n (.ins C (putG f x fs)))) : WG K T (gFld K ta f) x ss st Y := fun α F H σ v r s hv Q k =>
  h α F H σ r s _ fun α1 F1 H1 w y st1 n1 r1 v1 ⟨n, C, fs, e, hn, c, na, hl, q⟩ => by
    subst e
    obtain ⟨h1, dx, vs, h2, h3⟩ := r1.ins _ _ _ hn
    refine ⟨α1 n, C, dx, vs, v1.2, h2, c, na, by rw [← h3.len]; exact hl, ?_⟩
    refine k α1 F1 _ σ ss (st1.set n (.ins C (putG f x fs))) (by rw [List.length_set]; exact n1) (r1.writeG hn trivial h2 (fun ps z => by cases z) (fun φ z => by cases z) ⟨h1, dx, _, upd_same, ?_⟩) (by rw [List.length_set]; exact s.mono n1) q
    rw [putG_V]
    exact h3.put (hv.mono n1)
theorem we_chain3 {r r' r'' : R2} (h : WE K T ta ss st fun x st1 => WE K T tb ss st1 fun y st2 => WR K T r x y st2 fun z st3 => ∃ k, z = .pd (.bool k) ∧
      (k = true → WE K T tc ss st3 fun w st4 => WR K T r' y w st4 fun z2 st5 => ∃ k2, z2 = .pd (.bool k2) ∧ (k2 = true → WE K T td ss st5 fun u st6 => WR K T r'' w u st6 Φ) ∧ (k2 = false → Φ (.pd (.bool false)) st5)) ∧ (k = false → Φ (.pd (.bool false)) st3)) :
    WE K T (tChain3 r r' r'' ta tb tc td) ss st Φ := fun α F H σ rl s Q kk =>
  h α F H σ rl s _ fun α1 F1 H1 vx x st1 n1 r1 v1 q1 => q1 α1 F1 H1 σ r1 (s.mono n1) _ fun α2 F2 H2 vy y st2 n2 r2 v2 q2 =>
    q2 α2 F2 H2 vx vy r2 (v1.mono n2) v2 _ fun α3 F3 H3 vz z st3 n3 r3 v3 ⟨k, e, ht, hf⟩ => by
      subst e
      obtain rfl := dp_bl v3
      refine ⟨k, rfl, ?_⟩
      have nn := n1.trans (n2.trans n3)
      cases k with
      | false =>
        rw [if_neg Bool.false_ne_true]
        exact kk α3 F3 H3 (.bl false) (.pd (.bool false)) st3 nn r3 (Dp.bl _) (hf rfl)
      | true =>
        rw [if_pos rfl]
        refine ht rfl α3 F3 H3 σ r3 (s.mono nn) _ fun α4 F4 H4 vw w st4 n4 r4 v4 q4 => q4 α4 F4 H4 vy vw r4 (v2.mono (n3.trans n4)) v4 _ fun α5 F5 H5 vz2 z2 st5 n5 r5 v5 ⟨k2, e2, ht2, hf2⟩ => ?_
        subst e2
        obtain rfl := dp_bl v5
        refine ⟨k2, rfl, ?_⟩
        have nm := nn.trans (n4.trans n5)
        cases k2 with
        | false =>
          rw [if_neg Bool.false_ne_true]
          exact kk α5 F5 H5 (.bl false) (.pd (.bool false)) st5 nm r5 (Dp.bl _) (hf2 rfl)
        | true =>
          rw [if_pos rfl]
          exact ht2 rfl α5 F5 H5 σ r5 (s.mono nm) _ fun α6 F6 H6 vu u st6 n6 r6 v6 q6 => q6 α6 F6 H6 vw vu r6 (v4.mono (n5.trans n6)) v6 _ fun α7 F7 H7 v7 y7 st7 n7 => kk α7 F7 H7 v7 y7 st7 (nm.trans (n6.trans n7))
end
end Ct

/-! CtN: sorted of pairs, tuple(x), xs * n, xs.pop(i). -/
namespace L2
open PySem PySem.Spec PyProof.Rows
/-- rSortedPO, the pairs any tuples -/
def rSortedPK (K : PySem.W.Frag) : List V → Hp → VK → Prop := fun vs H Q => ∃ (a : Addr) (xs : List V) (k : V → Int × Int), vs = [V.ref a] ∧ SqL K H a xs ∧ (∀ x ∈ xs, ∃ t, x = V.ref t ∧ SqT K H t [.int (k x).1, .int (k x).2]) ∧
  ∀ ys p, SrtO.Srtd (ltP k) ys → SrtO.Stb (ltP k) ys xs → H p = none → Q (.ref p) (upd H p (.lst ys))
theorem cr_sortedPK {X : Cx} : CallR X (.builtin "sorted") (rSortedPK X.K) := by
  intro pins s σ H vs us Q I r h
  obtain ⟨a, xs, k, rfl, hs, hx, q⟩ := h
  obtain ⟨its, rv, hl, hz⟩ := I.list hs
  obtain ⟨u, rfl, ru⟩ := vals1 r
  obtain rfl : u = Value.ref a := ru
  obtain ⟨e1, e2⟩ := refs_back rv fun x m => by
    obtain ⟨t, e, _⟩ := hx x m
    exact ⟨t, e⟩
  refine SrtO.sorted_pairsO (k := fun u => k (backV u)) hl.isList (by rw [← rv.length]; exact hz) (fun v hv => ?_) fun h' d out h1 h2 kp hd hn => ?_
  · obtain ⟨t, rfl⟩ := e2 v hv
    have hm : V.ref t ∈ xs := by rw [e1]; exact List.mem_map.mpr ⟨_, hv, rfl⟩
    obtain ⟨t', e, ht⟩ := hx _ hm
    cases e
    obtain ⟨its2, r2, ⟨o, ho, hc, n, hd⟩, _⟩ := I.tuple ht
    obtain ⟨u1, u2, rfl, ri, rj⟩ := vals2 r2
    obtain ⟨t1, rfl⟩ := ri
    obtain ⟨t2, rfl⟩ := rj
    exact ⟨t, o, t1, t2, n, rfl, ho, hc, hd⟩
  · have h3 : ∀ u ∈ out, ∃ a, u = Value.ref a := fun u hu => e2 u (h2.perm.mem_iff.mp hu)
    obtain ⟨n, hn⟩ := hn
    have hb : SrtO.Stb (ltP k) (out.map backV) xs := by
      rw [e1]
      exact SrtO.Stb.map (ltP_swo k) backV h2
    refine ⟨.ref d, upd H d (.lst (out.map backV)), I.laid (t' := s.toks) kp hd ⟨?_, out, n, vals_back h3, hn⟩, rfl, q _ d (SrtO.srtd_map h1) hb (I.hok.fresh hd)⟩
    rw [hb.len]
    exact hz
end L2
namespace Ct
open PySem L2
theorem call_tupleK {X : Cx} {K : PySem.W.Frag} (h : X.K = K) : CallR X (.type "tuple") (fun xs H Q => ∃ p ys, xs = [.ref p] ∧ ((SqL K H p ys ∧ ∀ l, H l = none → Q (.ref l) (upd H l (.tup ys))) ∨ (SqT K H p ys ∧ Q (.ref p) H))) := by subst h; exact call_tuple_of
section
variable {K : PySem.W.Frag} {T : TabI} {ss : SS} {st : Sto} {Φ : Val → Sto → Prop} {Y : SS → Sto → Prop} {ta tb tc td : TE}
/-- tuple(x), x a list -/
theorem wc_tupL {x : Val} {ds : List PyData} (h : look x st = some (.list ds)) (q : Φ (.pd (.tuple ds)) st) : WC K T (fun xs H Q => ∃ p ys, xs = [.ref p] ∧ ((SqL K H p ys ∧ ∀ l, H l = none → Q (.ref l) (upd H l (.tup ys))) ∨ (SqT K H p ys ∧ Q (.ref p) H))) [x] st Φ := fun α F H vs r hv Q k => by
  obtain ⟨v, rfl, h1⟩ := vrs1 hv
  obtain ⟨a, ys, rfl, h2, h3⟩ := look_lst r h1 h
  refine ⟨a, ys, rfl, .inl ⟨h2, fun p hp => ?_⟩⟩
  have hF := none_of r hp
  exact k α (upd F p (.tup ys)) _ (.ref p) (.pd (.tuple ds)) st (Nx.new hF) (r.new hp fun ps z => by cases z) (Dp.tup (.inl (.inl upd_same)) (dpsm (same_upd hF) h3)) q
/-- tuple(x), x a tuple -/
theorem wc_tupT {ds : List PyData} (q : Φ (.pd (.tuple ds)) st) : WC K T (fun xs H Q => ∃ p ys, xs = [.ref p] ∧ ((SqL K H p ys ∧ ∀ l, H l = none → Q (.ref l) (upd H l (.tup ys))) ∨ (SqT K H p ys ∧ Q (.ref p) H))) [.pd (.tuple ds)] st Φ := fun α F H vs r hv Q k => by
  obtain ⟨v, rfl, h1⟩ := vrs1 hv
  obtain ⟨a, ys, e, h2, h3⟩ := dp_tup h1
  subst e
  exact ⟨a, ys, rfl, .inr ⟨seqT r.sub h2, k α F H (.ref a) (.pd (.tuple ds)) st Nx.refl r (Dp.tup h2 h3) q⟩⟩
theorem dps_rep {F : Hp} {vs : List V} {ds : List PyData} (h : DpAll K F vs ds) : ∀ n : Nat, DpAll K F (List.replicate n vs).flatten (List.replicate n ds).flatten
  | 0 => .nil
  | n + 1 => by
    rw [List.replicate_succ, List.replicate_succ, List.flatten_cons, List.flatten_cons]
    exact dps_app h (dps_rep h n)
/-- xs * k -/
theorem wr_rep {n : Nat} {xs : List PyData} {k : Int} (h : st[n]? = some (.mu xs)) (h1 : -(2 ^ 63) ≤ k) (h2 : k < 2 ^ 63) (hz : xs.length * k.toNat ≤ sizeLine) (q : Φ (.pd (.list (List.replicate k.toNat xs).flatten)) st) : WR K T rRep (.cell n) (.pd (.int k)) st Φ := fun α F H vx vy r hx hy Q kk => by
  obtain rfl := dp_int hy
  obtain ⟨_, rfl⟩ := hx
  obtain ⟨_, vs, e, d⟩ := r.mu n xs h
  refine ⟨_, k, vs, rfl, rfl, e, h1, h2, by rw [dps_len d]; exact hz, fun p hp => ?_⟩
  have hF := none_of r hp
  exact kk α (upd F p (.lst (List.replicate k.toNat vs).flatten)) _ (.ref p) (.pd (.list _)) st (Nx.new hF) (r.new hp fun ps z => by cases z) (Dp.lst (.inl (.inl upd_same)) (dpsm (same_upd hF) (dps_rep d _))) q
theorem dps_erase {F : Hp} : ∀ {vs : List V} {ds : List PyData} (k : Nat), DpAll K F vs ds → DpAll K F (vs.eraseIdx k) (ds.eraseIdx k)
  | _, _, _, .nil => .nil
  | _, _, 0, .cons _ t => t
  | _, _, k + 1, .cons h t => .cons h (dps_erase k t)
/-- xs.pop(i) -/
theorem we_pop {te : TE} (h : WE K T ta ss st fun o st1 => ∃ n ys, o = .cell n ∧ st1[n]? = some (.mu ys) ∧ WE K T te ss st1 fun x st2 => ∃ i xs j d, x = .pd (.int i) ∧ st2[n]? = some (.mu xs) ∧ (-(2 ^ 63) ≤ i ∧ i < 2 ^ 63) ∧ seqIndex? i xs.length = some j ∧ xs[j]? = some d ∧ Φ (.pd d) (st2.set n (.mu (xs.eraseIdx j)))) :
    WE K T (tBM K "list" rPopAt ta (tCons te tNil)) ss st Φ := fun α F H σ r s Q kk => h α F H σ r s _ fun α1 F1 H1 vo xo st1 n1 r1 v1 ⟨n, ys, eo, ey, h1⟩ => by
    subst eo
    obtain ⟨hn, rfl⟩ := v1
    obtain ⟨_, us, eu, du⟩ := r1.mu n ys ey
    refine ⟨.inl ⟨rfl, us, .inl (.inl eu)⟩, h1 α1 F1 H1 σ r1 (s.mono n1) _ fun α2 F2 H2 v x st2 n2 r2 v2 ⟨i, xs, j, d, ex, en, ⟨b1, b2⟩, hj, hd, q⟩ => ?_⟩
    subst ex
    obtain rfl := dp_int v2
    obtain ⟨_, vs, e1, d1⟩ := r2.mu n xs en
    obtain ⟨w, hw, dw⟩ := dps_get d1 hd
    have hr := r2.write en (dps_erase j d1)
    rw [n2.ag n hn] at e1 hr
    have nn := n1.trans n2
    exact ⟨_, vs, i, j, w, rfl, rfl, e1, b1, b2, by rw [dps_len d1]; exact hj, hw, kk α2 F2 _ w (.pd d) _ (by rw [List.length_set]; exact nn) hr dw q⟩
end
end Ct

/-! CtO: sorted(pairs) at the level of values. -/
namespace L2
open PySem PySem.Spec PyProof.Rows
def PairAt (K : PySem.W.Frag) (H : Hp) (x : V) (p : Int × Int) : Prop := ∃ t, x = V.ref t ∧ SqT K H t [.int p.1, .int p.2]
def rSortedPP (K : PySem.W.Frag) : List V → Hp → VK → Prop := fun vs H Q => ∃ (a : Addr) (xs : List V) (ps : List (Int × Int)), vs = [V.ref a] ∧ SqL K H a xs ∧ Paired (PairAt K H) xs ps ∧
  ∀ ys (qs : List (Int × Int)) l, ys.length = qs.length → (∀ b ∈ ys.zip qs, b ∈ xs.zip ps) → qs.Perm ps → qs.Pairwise (fun p q => SrtO.lexB q p = false) → H l = none → Q (.ref l) (upd H l (.lst ys))
open Classical in
theorem cr_sortedPP {X : Cx} : CallR X (.builtin "sorted") (rSortedPP X.K) := by
  intro pins s σ H vs us Q I r h
  obtain ⟨a, xs, ps, rfl, hs, hp, q⟩ := h
  have fn : ∀ x p p', PairAt X.K H x p → PairAt X.K H x p' → p = p' := fun x p p' ⟨t, e, h⟩ ⟨t', e', h'⟩ => by
    rw [e] at e'
    cases e'
    have := I.tuple_inj h h'
    simp at this
    exact Prod.ext this.1 this.2
  let k : V → Int × Int := fun x => if h : ∃ p, PairAt X.K H x p then h.choose else (0, 0)
  have hk : ∀ x p, PairAt X.K H x p → k x = p := fun x p h => by
    have ex : ∃ p, PairAt X.K H x p := ⟨p, h⟩
    have e : k x = ex.choose := dif_pos ex
    rw [e]
    exact fn x _ _ ex.choose_spec h
  have hall : ∀ (xs : List V) (ps : List (Int × Int)), Paired (PairAt X.K H) xs ps → ps = xs.map k ∧ ∀ x ∈ xs, PairAt X.K H x (k x) := by
    intro xs ps h
    induction h with
    | nil => exact ⟨rfl, fun x hx => by cases hx⟩
    | cons a b ih =>
      refine ⟨by rw [List.map_cons, ← ih.1, hk _ _ a], fun x hx => ?_⟩
      rcases List.mem_cons.mp hx with rfl | hx
      · rw [hk _ _ a]
        exact a
      · exact ih.2 x hx
  obtain ⟨ep, hx⟩ := hall xs ps hp
  refine cr_sortedPK pins s σ H _ us Q I r ⟨a, xs, k, rfl, hs, fun x m => hx x m, fun ys l h1 h2 hl => q ys (ys.map k) l ?_ ?_ ?_ ?_ hl⟩
  · rw [List.length_map]
  · intro b hb
    have e : ∀ zs : List V, zs.zip (zs.map k) = zs.map fun z => (z, k z) := fun zs => by
      induction zs with
      | nil => rfl
      | cons z zs ih => rw [List.map_cons, List.zip_cons_cons, ih, List.map_cons]
    rw [e] at hb
    rw [ep, e]
    obtain ⟨z, hz, rfl⟩ := List.mem_map.mp hb
    exact List.mem_map.mpr ⟨z, h2.perm.mem_iff.mp hz, rfl⟩
  · rw [ep]
    exact h2.perm.map k
  · rw [List.pairwise_map]
    exact h1
end L2
namespace Ct
open PySem L2
abbrev pairT (p : Int × Int) : PyData := .tuple [.int p.1, .int p.2]
theorem cr_sortedK {X : Cx} {K : PySem.W.Frag} (h : X.K = K) (_hc : X.calm = true) : CallR X (.builtin "sorted") (rSortedPP K) := by subst h; exact cr_sortedPP
section
variable {K : PySem.W.Frag} {T : TabI} {ss : SS} {st : Sto} {Φ : Val → Sto → Prop}
theorem pairs_at {F H : Hp} (s : Same F H) : ∀ {ps : List (Int × Int)} {vs : List V}, DpAll K F vs (ps.map pairT) → Paired (PairAt K H) vs ps
  | [], _, .nil => .nil
  | p :: ps, _, .cons h t => by
    obtain ⟨a, vs, e, h1, h2⟩ := dp_tup h
    refine .cons ⟨a, e, ?_⟩ (pairs_at s t)
    cases h2 with
    | cons x y =>
      cases y with
      | cons z w =>
        cases w
        obtain rfl := dp_int x
        obtain rfl := dp_int z
        exact seqT s h1
theorem wc_sortP {x : Val} {ps : List (Int × Int)} (h : look x st = some (.list (ps.map pairT))) (q : ∀ qs : List (Int × Int), qs.Perm ps → qs.Pairwise (fun p q => SrtO.lexB q p = false) → Φ (.pd (.list (qs.map pairT))) st) : WC K T (rSortedPP K) [x] st Φ := fun α F H vs r hv Q k => by
  obtain ⟨v, rfl, h1⟩ := vrs1 hv
  obtain ⟨a, ys, rfl, h2, h3⟩ := look_lst r h1 h
  refine ⟨a, ys, ps, rfl, h2, pairs_at r.sub h3, fun zs qs l hlen hz hperm hs hl => ?_⟩
  have hF := none_of r hl
  have old : ∀ (ys : List V) (ps : List (Int × Int)), DpAll K F ys (ps.map pairT) → ∀ b ∈ ys.zip ps, Dp K F b.1 (pairT b.2) := by
    intro ys
    induction ys with
    | nil => exact fun ps _ b hb => by simp at hb
    | cons y ys ih =>
      intro ps h b hb
      cases ps with
      | nil => simp at hb
      | cons p ps =>
        cases h with
        | cons h t =>
          rw [List.zip_cons_cons] at hb
          rcases List.mem_cons.mp hb with rfl | hb
          · exact h
          · exact ih ps t b hb
  have hd : DpAll K F zs (qs.map pairT) := by
    have key : ∀ (zs : List V) (qs : List (Int × Int)), zs.length = qs.length → (∀ b ∈ zs.zip qs, Dp K F b.1 (pairT b.2)) → DpAll K F zs (qs.map pairT) := by
      intro zs
      induction zs with
      | nil =>
        intro qs hl _
        cases qs with
        | nil => exact .nil
        | cons q qs => simp at hl
      | cons z zs ih =>
        intro qs hl h
        cases qs with
        | nil => simp at hl
        | cons q qs => exact .cons (h (z, q) (by simp)) (ih qs (by simpa using hl) fun b hb => h b (by rw [List.zip_cons_cons]; exact List.mem_cons_of_mem _ hb))
    exact key zs qs hlen fun b hb => old ys ps h3 b (hz b hb)
  exact k α (upd F l (.lst zs)) _ (.ref l) (.pd (.list (qs.map pairT))) st (Nx.new hF) (r.new hl fun ps z => by cases z) (Dp.lst (.inl (.inl upd_same)) (dpsm (same_upd hF) hd)) (q qs hperm hs)
end
end Ct

/-! CtP: isinstance with a tuple of types, with an own class. -/
namespace Ct
open PySem L2
theorem call_isiTK {X : Cx} {K : PySem.W.Frag} (h : X.K = K) : CallR X (.builtin "isinstance") (rIsiT K) := by subst h; exact call_isiT
/-- a class as a value -/
def clsO (C : Addr) : Ob := ⟨fun _ v => v = .ref C, fun _ h => h⟩
section
variable {K : PySem.W.Frag} {T : TabI} {ss : SS} {st : Sto} {Φ : Val → Sto → Prop} {te : TE}
theorem we_cls {C : Addr} (q : Φ (.ob (clsO C)) st) : WE K T (tC (.ref C)) ss st Φ := fun α F H σ r s Q k => k α F H (.ref C) (.ob (clsO C)) st Nx.refl r rfl q
theorem wc_isiC {x : Val} {d : PyData} {C : Addr} {b : Bool} (hl : look x st = some d) (hk : PySem.W.kitOne K (.type (pyTy d)) (.ref C) = some b) (q : Φ (.pd (.bool b)) st) : WC K T (rIsi K) [x, .ob (clsO C)] st Φ := fun α F H vs r hv Q k => by
  obtain ⟨v, w, rfl, h1, h2⟩ := vrs2 hv
  have h2 : w = .ref C := h2
  subst h2
  exact ⟨v, .ref C, _, .ref C, b, rfl, .own C, ty_of (look_ok r h1 hl), hk, k α F H _ (.pd _) st Nx.refl r (Dp.bl _) q⟩
theorem we_isiT {a b : String} (h : WE K T te ss st fun x st1 => ∃ d c, look x st1 = some d ∧ PySem.W.kitAny K (.type (pyTy d)) [.type a, .type b] = some c ∧ Φ (.pd (.bool c)) st1) :
    WE K T (tCB (rIsiT K) (tCons te (tCons (tTup (tCons (tC (.ty a)) (tCons (tC (.ty b)) tNil))) tNil))) ss st Φ := fun α F H σ r s Q k =>
  h α F H σ r s _ fun α1 F1 H1 v x st1 n1 r1 v1 ⟨d, c, hl, hk, q⟩ => by
    refine ⟨(show 2 ≤ sizeLine by decide), fun p hp => ?_⟩
    have hF := none_of r1 hp
    have r2 : Rel K T α1 (upd F1 p (.tup [.ty a, .ty b])) (upd H1 p (.tup [.ty a, .ty b])) st1 := r1.new hp fun ps z => by cases z
    have nn : Nx α1 F1 st1.length α1 (upd F1 p (.tup [.ty a, .ty b])) st1.length := Nx.new hF
    exact ⟨v, p, [.ty a, .ty b], _, [.type a, .type b], c, rfl, upd_same, .cons (.ty a) (.cons (.ty b) .nil), ty_of (look_ok r2 (v1.mono nn) hl), hk, k α1 _ _ _ (.pd (.bool c)) st1 (n1.trans nn) r2 (Dp.bl _) q⟩
end
end Ct

/-! CtQ: comprehensions over tuples. -/
namespace Ct
open PySem L2
/-- over a list or a tuple -/
def iOr (t u : TI) : TI := fun σ H R => t σ H R ∨ u σ H R
theorem pi_or {X : Cx} {tg l : Expr} {t u : TI} (h : PI X tg l t) (h' : PI X tg l u) : PI X tg l (iOr t u) := ⟨fun pins s σ H R I q => q.elim (h.run pins s σ H R I) (h'.run pins s σ H R I)⟩
section
variable {K : PySem.W.Frag} {T : TabI} {ss : SS} {st : Sto} {Φ : Val → Sto → Prop} {te ta tb tc tl : TE} {tt tu : TT} {P : Po} {g : TG} {bd : TS}
theorem we_lcT {vs : List Nat} (hG : GW g vs) (h : WE K T tl ss st fun x st1 => ∃ xs, x = .pd (.tuple xs) ∧ xs.length < sizeLine ∧ ∃ f : PyData → Option PyData,
      (∀ (i : Nat) (d : PyData) (acc : List PyData), xs[i]? = some d → WG K T g (.pd d) (wipeS ss vs) (st1 ++ [.mu acc]) fun ss2 st2 => WT K T tt ss2 st2 fun b st3 =>
        (b = true → WE K T te ss2 st3 fun y st4 => ∃ dy st5, pur y st4 = some (dy, st5) ∧ st5.take (st1.length + 1) = st1 ++ [.mu acc] ∧ f d = some dy) ∧ (b = false → st3.take (st1.length + 1) = st1 ++ [.mu acc] ∧ f d = none)) ∧
      Φ (.pd (.list (xs.filterMap f))) st1) :
    WE K T (tLc (iTup K tl) g tt te vs) ss st Φ := fun α F H σ r s Q k => h α F H σ r s _ fun α1 F1 H1 v x st1 n1 r1 v1 ⟨xs, e, hsz, f, hs, hq⟩ => by
  subst e
  obtain ⟨a, ws, rfl, h1, h2⟩ := dp_tup v1
  refine ⟨a, rfl, ⟨ws, seqT r1.sub h1⟩, fun D hD => ?_⟩
  have len1 : ∀ acc : List PyData, (st1 ++ [Cell.mu acc]).length = st1.length + 1 := fun acc => by simp
  refine lc_tup (xs := ws) (fun i H' => ∃ α' F', Nx α1 F1 st1.length α' F' st1.length ∧ Rel K T α' F' H' (st1 ++ [.mu ((xs.take i).filterMap f)]) ∧ α' st1.length = D)
    ⟨ext α1 st1.length D, F1, ⟨Same.refl _, Nat.le_refl _, fun n hn => ext_ne (Nat.ne_of_lt hn)⟩, r1.cell hD .nil, ext_same⟩ (fun i H' _ ⟨α', F', n', r', _⟩ => seqT r'.sub (seqT n'.sub h1)) (fun i y H' hy ⟨α', F', n', r', eD⟩ => ?_) (fun H' ⟨α', F', n', r', eD⟩ => ?_)
  · obtain ⟨d, hd1, dd⟩ := dps_getV h2 hy
    have hi : i < xs.length := (List.getElem?_eq_some_iff.mp hd1).1
    have nn : Nx α1 F1 st1.length α' F' (st1.length + 1) := ⟨n'.sub, Nat.le_succ _, n'.ag⟩
    have s1 : SR K α' F' (st1 ++ [Cell.mu ((xs.take i).filterMap f)]).length (wipeS ss vs) (L2.wipe σ vs) := by
      rw [len1]
      exact ((s.mono n1).mono nn).wipe vs
    have ez : L2.wipe (L2.wipe σ vs) vs = L2.wipe σ vs := wipe_wipe
    have base := hs i d ((xs.take i).filterMap f) hd1 α' F' H' (L2.wipe σ vs) y r' s1 (dpm n'.sub dd) (fun σ2 H2 => tt σ2 H2 fun b H3 => if b = true then te σ2 H3 fun y H4 => ∃ acc, H4 D = some (.lst acc) ∧ acc.length < sizeLine ∧
        (∃ α' F', Nx α1 F1 st1.length α' F' st1.length ∧ Rel K T α' F' (upd H4 D (.lst (acc ++ [y]))) (st1 ++ [.mu ((xs.take (i + 1)).filterMap f)]) ∧ α' st1.length = D) else
        ∃ α' F', Nx α1 F1 st1.length α' F' st1.length ∧ Rel K T α' F' H3 (st1 ++ [.mu ((xs.take (i + 1)).filterMap f)]) ∧ α' st1.length = D) fun α2 F2 H2 σ2 ss2 st2 n2 r2 s2 q => q α2 F2 H2 σ2 r2 s2 _ fun α3 F3 H3 b st3 n3 r3 ⟨ht, hf⟩ => ?_
    · have := hG _ _ _ _ base
      rw [ez] at this
      exact this
    · have cut : ∀ {α4 : Nat → Addr} {F4 : Hp} {st4 : Sto}, Nx α' F' (st1 ++ [Cell.mu ((xs.take i).filterMap f)]).length α4 F4 st4.length → Nx α1 F1 st1.length α4 F4 st1.length ∧ α4 st1.length = D := fun {α4 F4 st4} n4 => by
        rw [len1] at n4
        exact ⟨⟨n'.sub.trans n4.sub, Nat.le_refl _, fun n hn => (n4.ag n (Nat.lt_succ_of_lt hn)).trans (n'.ag n hn)⟩, (n4.ag _ (Nat.lt_succ_self _)).trans eD⟩
      cases b with
      | true =>
        rw [if_pos rfl]
        refine ht rfl α3 F3 H3 σ2 r3 (s2.mono n3) _ fun α4 F4 H4 vy z st4 n4 r4 v4 ⟨dy, st5, ep, et, ef⟩ => ?_
        obtain ⟨F5, r5, n5, d5⟩ := pur_ok r4 v4 ep
        have nA := n2.trans (n3.trans (n4.trans n5))
        obtain ⟨c1, c2⟩ := cut nA
        have h5 : st5[st1.length]? = some (.mu ((xs.take i).filterMap f)) := by
          have : (st5.take (st1.length + 1))[st1.length]? = some (.mu ((xs.take i).filterMap f)) := by rw [et]; simp
          rw [List.getElem?_take] at this
          simpa using this
        obtain ⟨_, us, e1, d1⟩ := r5.mu _ _ h5
        rw [c2] at e1
        have h6 : (st1 ++ [Cell.mu ((xs.take i).filterMap f)])[st1.length]? = some (.mu ((xs.take i).filterMap f)) := by simp
        have rw5 := (r5.back r' (by rw [len1]; exact et)).write h6 (dps_app d1 (.cons d5 .nil))
        rw [c2] at rw5
        have es : (st1 ++ [Cell.mu ((xs.take i).filterMap f)]).set st1.length (.mu ((xs.take i).filterMap f ++ [dy])) = st1 ++ [.mu ((xs.take (i + 1)).filterMap f)] := by
          rw [fm_take hd1, ef]
          simp
        rw [es] at rw5
        refine ⟨us, e1, ?_, α4, F5, c1, rw5, c2⟩
        rw [dps_len d1]
        have := List.length_filterMap_le f (xs.take i)
        rw [List.length_take] at this
        omega
      | false =>
        rw [if_neg Bool.false_ne_true]
        obtain ⟨et, ef⟩ := hf rfl
        obtain ⟨c1, c2⟩ := cut (n2.trans n3)
        have r3' := r3.back r' (by rw [len1]; exact et)
        refine ⟨α3, F3, c1, ?_, c2⟩
        rw [fm_take hd1, ef]
        simpa using r3'
  · have ea : (xs.take ws.length).filterMap f = xs.filterMap f := by rw [dps_len h2, List.take_length]
    rw [ea] at r'
    have hg : (st1 ++ [Cell.mu (xs.filterMap f)])[st1.length]? = some (.mu (xs.filterMap f)) := by simp
    obtain ⟨F2, r2, n2, d2⟩ := r'.freeze hg
    have et : ((st1 ++ [Cell.mu (xs.filterMap f)]).set st1.length (.fr (xs.filterMap f))).take st1.length = st1 := by simp
    have r3 := r2.back r1 et
    rw [eD] at d2
    exact k α' F2 H' (.ref D) (.pd _) st1 (n1.trans ⟨n'.sub.trans n2.sub, Nat.le_refl _, n'.ag⟩) r3 d2 hq
theorem ws_forO1 {t u : TI} (h : WS K T (tFor t g bd) ss st P) : WS K T (tFor (iOr t u) g bd) ss st P := fun α F H σ r s D o => .inl (h α F H σ r s D o)
theorem ws_forO2 {t u : TI} (h : WS K T (tFor u g bd) ss st P) : WS K T (tFor (iOr t u) g bd) ss st P := fun α F H σ r s D o => .inr (h α F H σ r s D o)
theorem we_lcO1 {t u : TI} {vs : List Nat} (h : WE K T (tLc t g tt te vs) ss st Φ) : WE K T (tLc (iOr t u) g tt te vs) ss st Φ := fun α F H σ r s Q k => .inl (h α F H σ r s Q k)
theorem we_lcO2 {t u : TI} {vs : List Nat} (h : WE K T (tLc u g tt te vs) ss st Φ) : WE K T (tLc (iOr t u) g tt te vs) ss st Φ := fun α F H σ r s Q k => .inr (h α F H σ r s Q k)
end
section
variable {K : PySem.W.Frag} {T : TabI} {st : Sto} {Φ : Val → Sto → Prop}
theorem op_notInK {X : Cx} (h : X.K = K) : OpR X (compareOp .NotIn) (rIn K true) := by subst h; exact op_notIn_seq
theorem wr_nin {y : Val} {d : PyData} {ds : List PyData} (hl : look y st = some (.list ds)) (f : flatD d = true) (f2 : ds.all flatD = true) (q : Φ (.pd (.bool (!inD d ds))) st) : WR K T (rIn K true) (.pd d) y st Φ := fun α F H vx vy r hx hy Q k => by
  obtain ⟨a, vs, rfl, h1, h2⟩ := look_lst r hy hl
  refine ⟨a, vs, rfl, .inl h1, flat_ok hx f, flats_ok h2 f2, k α F H _ (.pd (.bool (!inD d ds))) st Nx.refl r ?_ q⟩
  rw [inV_ok hx f h2 f2]
  exact Dp.bl _
theorem wc_lenT {ds : List PyData} (q : Φ (.pd (.int (ds.length : Int))) st) : WC K T (fun xs H Q => ∃ p ys, xs = [.ref p] ∧ (SqL K H p ys ∨ SqT K H p ys) ∧ Q (.int ys.length) H) [.pd (.tuple ds)] st Φ := fun α F H vs r hv Q k => by
  obtain ⟨v, rfl, h1⟩ := vrs1 hv
  obtain ⟨a, ys, e, h2, h3⟩ := dp_tup h1
  subst e
  refine ⟨a, ys, rfl, .inr (seqT r.sub h2), ?_⟩
  rw [dps_len h3]
  exact k α F H _ (.pd _) st Nx.refl r (Dp.int _) q
end
end Ct

/-! CtR: comprehensions whose items write the store; lists of lists; short names of slots. -/
namespace Ct
open PySem L2
abbrev vI (i : Int) : Option Val := some (.pd (.int i))
abbrev vD (d : PyData) : Option Val := some (.pd d)
abbrev vC (n : Nat) : Option Val := some (.cell n)
abbrev vL (ds : List PyData) : Option Val := some (.pd (.list ds))
abbrev vT (ds : List PyData) : Option Val := some (.pd (.tuple ds))
abbrev vO (o : Ob) : Option Val := some (.ob o)
def tDead : TE := fun _ _ _ => False
theorem pe_dead {X : Cx} {e : Expr} : PE X e tDead := ⟨fun _ _ _ _ _ _ h => h.elim⟩
section
variable {K : PySem.W.Frag} {T : TabI} {ss : SS} {st : Sto} {Φ : Val → Sto → Prop} {te ta tb tc tl : TE} {tt tu : TT} {P : Po} {g : TG} {bd : TS}
theorem VRs.app1 {α : Nat → Addr} {F : Hp} {L : Nat} {xs : List Val} {vs : List V} {x : Val} {v : V} (h : VRs K α F L xs vs) (r : VR K α F L x v) : VRs K α F L (xs ++ [x]) (vs ++ [v]) := h.app (.cons r .nil)
/-- items that are plain, the store written meanwhile -/
theorem lc_rngS {vs : List Nat} {lo : Int} {n : Nat} {α1 : Nat → Addr} {F1 H1 : Hp} {st1 : Sto} {σ : L2.St} {Q : VK} (hG : GW g vs) (s1 : SR K α1 F1 st1.length ss σ) (r1 : Rel K T α1 F1 H1 st1) (I : Nat → Sto → Prop) (h0 : I 0 (st1 ++ [.mu []]))
    (hs : ∀ (i : Nat) (st' : Sto), i < n → I i st' → WG K T g (.pd (.int (lo + (i : Int)))) (wipeS ss vs) st' fun ss2 st2 => WT K T tt ss2 st2 fun b st3 =>
        (b = true → WE K T te ss2 st3 fun y st4 => ∃ dy st5 acc, pur y st4 = some (dy, st5) ∧ st5[st1.length]? = some (.mu acc) ∧ acc.length < sizeLine ∧ I (i + 1) (st5.set st1.length (.mu (acc ++ [dy])))) ∧ (b = false → I (i + 1) st3))
    (k : ∀ α2 F2 H2 st2, Nx α1 F1 st1.length α2 F2 (List.length st2) → Rel K T α2 F2 H2 st2 → st1.length < st2.length → I n st2 → Q (.ref (α2 st1.length)) H2) (D : Addr) (hD : H1 D = none) :
    ∃ W : Nat → Nat → Hp → Prop, (∃ m, W 0 m (upd H1 D (.lst []))) ∧ ∀ i m H, W i m H → ((Itr lo n).stop i H ∧ Q (.ref D) H) ∨ ((Itr lo n).go i H ∧ ∃ Nx : Hp → Prop, (∀ H', Nx H' → ∃ m', m' < m ∧ W (i + 1) m' H') ∧ ∀ x H', (Itr lo n).yld i H x H' → g x (L2.wipe σ vs) H' fun σ2 H2 => L2.wipe σ2 vs = L2.wipe σ vs ∧ tt σ2 H2 fun b H3 =>
        if b = true then te σ2 H3 fun y H4 => ∃ acc, H4 D = some (.lst acc) ∧ acc.length < sizeLine ∧ Nx (upd H4 D (.lst (acc ++ [y]))) else Nx H3) := by
  have len1 : (st1 ++ [Cell.mu []]).length = st1.length + 1 := by simp
  refine lc_range (lo := lo) (n := n) (fun i H' => ∃ α' F' st', Nx (ext α1 st1.length D) F1 (st1.length + 1) α' F' (List.length st') ∧ Rel K T α' F' H' st' ∧ I i st')
    ⟨ext α1 st1.length D, F1, _, by rw [← len1]; exact Nx.refl, r1.cell hD .nil, h0⟩ (fun i H' hi ⟨α', F', st', n', r', hI⟩ => ?_) (fun H' ⟨α', F', st', n', r', hI⟩ => ?_)
  · have s2 : SR K α' F' st'.length (wipeS ss vs) (L2.wipe σ vs) := ((s1.mono Nx.ext).mono n').wipe vs
    have ez : L2.wipe (L2.wipe σ vs) vs = L2.wipe σ vs := wipe_wipe
    have base := hs i st' hi hI α' F' H' (L2.wipe σ vs) (.int (lo + (i : Int))) r' s2 (Dp.int _) (fun σ2 H2 => tt σ2 H2 fun b H3 => if b = true then te σ2 H3 fun y H4 => ∃ acc, H4 D = some (.lst acc) ∧ acc.length < sizeLine ∧
        (∃ α' F' st', Nx (ext α1 st1.length D) F1 (st1.length + 1) α' F' (List.length st') ∧ Rel K T α' F' (upd H4 D (.lst (acc ++ [y]))) st' ∧ I (i + 1) st') else
        ∃ α' F' st', Nx (ext α1 st1.length D) F1 (st1.length + 1) α' F' (List.length st') ∧ Rel K T α' F' H3 st' ∧ I (i + 1) st') fun α2 F2 H2 σ2 ss2 st2 n2 r2 s2 q => q α2 F2 H2 σ2 r2 s2 _ fun α3 F3 H3 b st3 n3 r3 ⟨ht, hf⟩ => ?_
    · have := hG _ _ _ _ base
      rw [ez] at this
      exact this
    · cases b with
      | true =>
        rw [if_pos rfl]
        refine ht rfl α3 F3 H3 σ2 r3 (s2.mono n3) _ fun α4 F4 H4 vy z st4 n4 r4 v4 ⟨dy, st5, acc, ep, e5, hl, hI5⟩ => ?_
        obtain ⟨F5, r5, n5, d5⟩ := pur_ok r4 v4 ep
        have nA := n'.trans (n2.trans (n3.trans (n4.trans n5)))
        have eD : α4 st1.length = D := (nA.ag _ (Nat.lt_succ_self _)).trans ext_same
        obtain ⟨_, us, e1, d1⟩ := r5.mu _ _ e5
        have rw5 := r5.write e5 (dps_app d1 (.cons d5 .nil))
        rw [eD] at e1 rw5
        exact ⟨us, e1, by rw [dps_len d1]; exact hl, α4, F5, _, by rw [List.length_set]; exact nA, rw5, hI5⟩
      | false =>
        rw [if_neg Bool.false_ne_true]
        exact ⟨α3, F3, st3, n'.trans (n2.trans n3), r3, hf rfl⟩
  · have eD : α' st1.length = D := (n'.ag _ (Nat.lt_succ_self _)).trans ext_same
    have := k α' F' H' st' (Nx.ext.trans n') r' n'.le hI
    rw [eD] at this
    exact this
theorem we_lcR1S {t : TA} {vs : List Nat} (hG : GW g vs) (h : WA K T t ss st fun xs st1 => ∃ n, xs = [.pd (.int n)] ∧ -(2 ^ 62) ≤ n ∧ n < 2 ^ 62 ∧ ∃ I : Nat → Sto → Prop, I 0 (st1 ++ [.mu []]) ∧
      (∀ (i : Nat) (st' : Sto), i < n.toNat → I i st' → WG K T g (.pd (.int (0 + (i : Int)))) (wipeS ss vs) st' fun ss2 st2 => WT K T tt ss2 st2 fun b st3 =>
        (b = true → WE K T te ss2 st3 fun y st4 => ∃ dy st5 acc, pur y st4 = some (dy, st5) ∧ st5[st1.length]? = some (.mu acc) ∧ acc.length < sizeLine ∧ I (i + 1) (st5.set st1.length (.mu (acc ++ [dy])))) ∧ (b = false → I (i + 1) st3)) ∧
      ∀ st', I n.toNat st' → Φ (.cell st1.length) st') :
    WE K T (tLc (iRng1 t) g tt te vs) ss st Φ := fun α F H σ r s Q k => h α F H σ r s _ fun α1 F1 H1 vs1 xs st1 n1 r1 v1 ⟨n, e, b1, b2, I, h0, hs, hq⟩ => by
  subst e
  obtain ⟨v, rfl, hv⟩ := vrs1 v1
  obtain rfl := dp_int hv
  exact ⟨n, rfl, b1, b2, fun D hD => lc_rngS hG (s.mono n1) r1 I h0 hs (fun α2 F2 H2 st2 n2 r2 hl hI => k α2 F2 H2 _ (.cell st1.length) st2 (n1.trans n2) r2 ⟨hl, rfl⟩ (hq st2 hI)) D hD⟩
theorem we_lcR2S {t : TA} {vs : List Nat} (hG : GW g vs) (h : WA K T t ss st fun xs st1 => ∃ lo n, xs = [.pd (.int lo), .pd (.int n)] ∧ (-(2 ^ 62) ≤ lo ∧ lo < 2 ^ 62 ∧ -(2 ^ 62) ≤ n ∧ n < 2 ^ 62) ∧ ∃ I : Nat → Sto → Prop, I 0 (st1 ++ [.mu []]) ∧
      (∀ (i : Nat) (st' : Sto), i < (n - lo).toNat → I i st' → WG K T g (.pd (.int (lo + (i : Int)))) (wipeS ss vs) st' fun ss2 st2 => WT K T tt ss2 st2 fun b st3 =>
        (b = true → WE K T te ss2 st3 fun y st4 => ∃ dy st5 acc, pur y st4 = some (dy, st5) ∧ st5[st1.length]? = some (.mu acc) ∧ acc.length < sizeLine ∧ I (i + 1) (st5.set st1.length (.mu (acc ++ [dy])))) ∧ (b = false → I (i + 1) st3)) ∧
      ∀ st', I (n - lo).toNat st' → Φ (.cell st1.length) st') :
    WE K T (tLc (iRng2 t) g tt te vs) ss st Φ := fun α F H σ r s Q k => h α F H σ r s _ fun α1 F1 H1 vs1 xs st1 n1 r1 v1 ⟨lo, n, e, b, I, h0, hs, hq⟩ => by
  subst e
  obtain ⟨v, w, rfl, hv, hw⟩ := vrs2 v1
  obtain rfl := dp_int hv
  obtain rfl := dp_int hw
  exact ⟨lo, n, rfl, b, fun D hD => lc_rngS hG (s.mono n1) r1 I h0 hs (fun α2 F2 H2 st2 n2 r2 hl hI => k α2 F2 H2 _ (.cell st1.length) st2 (n1.trans n2) r2 ⟨hl, rfl⟩ (hq st2 hI)) D hD⟩
/-- items that are any values -/
theorem lc_rngM {vs : List Nat} {lo : Int} {n : Nat} {α1 : Nat → Addr} {F1 H1 : Hp} {st1 : Sto} {σ : L2.St} {Q : VK} (hG : GW g vs) (s1 : SR K α1 F1 st1.length ss σ) (r1 : Rel K T α1 F1 H1 st1) (I : Nat → Sto → Prop) (h0 : I 0 (st1 ++ [.ml []]))
    (hs : ∀ (i : Nat) (st' : Sto), i < n → I i st' → WG K T g (.pd (.int (lo + (i : Int)))) (wipeS ss vs) st' fun ss2 st2 => WT K T tt ss2 st2 fun b st3 =>
        (b = true → WE K T te ss2 st3 fun y st4 => ∃ acc, st4[st1.length]? = some (.ml acc) ∧ acc.length < sizeLine ∧ I (i + 1) (st4.set st1.length (.ml (acc ++ [y])))) ∧ (b = false → I (i + 1) st3))
    (k : ∀ α2 F2 H2 st2, Nx α1 F1 st1.length α2 F2 (List.length st2) → Rel K T α2 F2 H2 st2 → st1.length < st2.length → I n st2 → Q (.ref (α2 st1.length)) H2) (D : Addr) (hD : H1 D = none) :
    ∃ W : Nat → Nat → Hp → Prop, (∃ m, W 0 m (upd H1 D (.lst []))) ∧ ∀ i m H, W i m H → ((Itr lo n).stop i H ∧ Q (.ref D) H) ∨ ((Itr lo n).go i H ∧ ∃ Nx : Hp → Prop, (∀ H', Nx H' → ∃ m', m' < m ∧ W (i + 1) m' H') ∧ ∀ x H', (Itr lo n).yld i H x H' → g x (L2.wipe σ vs) H' fun σ2 H2 => L2.wipe σ2 vs = L2.wipe σ vs ∧ tt σ2 H2 fun b H3 =>
        if b = true then te σ2 H3 fun y H4 => ∃ acc, H4 D = some (.lst acc) ∧ acc.length < sizeLine ∧ Nx (upd H4 D (.lst (acc ++ [y]))) else Nx H3) := by
  have len1 : (st1 ++ [Cell.ml []]).length = st1.length + 1 := by simp
  refine lc_range (lo := lo) (n := n) (fun i H' => ∃ α' F' st', Nx (ext α1 st1.length D) F1 (st1.length + 1) α' F' (List.length st') ∧ Rel K T α' F' H' st' ∧ I i st')
    ⟨ext α1 st1.length D, F1, _, by rw [← len1]; exact Nx.refl, r1.cellG (c := .ml []) hD ⟨none_of r1 hD, [], upd_same, .nil⟩ (fun ps z => by cases z), h0⟩ (fun i H' hi ⟨α', F', st', n', r', hI⟩ => ?_) (fun H' ⟨α', F', st', n', r', hI⟩ => ?_)
  · have s2 : SR K α' F' st'.length (wipeS ss vs) (L2.wipe σ vs) := ((s1.mono Nx.ext).mono n').wipe vs
    have ez : L2.wipe (L2.wipe σ vs) vs = L2.wipe σ vs := wipe_wipe
    have base := hs i st' hi hI α' F' H' (L2.wipe σ vs) (.int (lo + (i : Int))) r' s2 (Dp.int _) (fun σ2 H2 => tt σ2 H2 fun b H3 => if b = true then te σ2 H3 fun y H4 => ∃ acc, H4 D = some (.lst acc) ∧ acc.length < sizeLine ∧
        (∃ α' F' st', Nx (ext α1 st1.length D) F1 (st1.length + 1) α' F' (List.length st') ∧ Rel K T α' F' (upd H4 D (.lst (acc ++ [y]))) st' ∧ I (i + 1) st') else
        ∃ α' F' st', Nx (ext α1 st1.length D) F1 (st1.length + 1) α' F' (List.length st') ∧ Rel K T α' F' H3 st' ∧ I (i + 1) st') fun α2 F2 H2 σ2 ss2 st2 n2 r2 s2 q => q α2 F2 H2 σ2 r2 s2 _ fun α3 F3 H3 b st3 n3 r3 ⟨ht, hf⟩ => ?_
    · have := hG _ _ _ _ base
      rw [ez] at this
      exact this
    · cases b with
      | true =>
        rw [if_pos rfl]
        refine ht rfl α3 F3 H3 σ2 r3 (s2.mono n3) _ fun α4 F4 H4 vy z st4 n4 r4 v4 ⟨acc, e5, hl, hI5⟩ => ?_
        have nA := n'.trans (n2.trans (n3.trans n4))
        have eD : α4 st1.length = D := (nA.ag _ (Nat.lt_succ_self _)).trans ext_same
        obtain ⟨h1, us, e1, d1⟩ := r4.ml _ _ e5
        have rw5 := r4.writeG (c := .ml (acc ++ [z])) (o := .lst (us ++ [vy])) e5 trivial e1 (fun ps z => by cases z) (fun ps z => by cases z) ⟨h1, _, upd_same, d1.app1 v4⟩
        rw [eD] at e1 rw5
        exact ⟨us, e1, by rw [← d1.len]; exact hl, α4, F4, _, by rw [List.length_set]; exact nA, rw5, hI5⟩
      | false =>
        rw [if_neg Bool.false_ne_true]
        exact ⟨α3, F3, st3, n'.trans (n2.trans n3), r3, hf rfl⟩
  · have eD : α' st1.length = D := (n'.ag _ (Nat.lt_succ_self _)).trans ext_same
    have := k α' F' H' st' (Nx.ext.trans n') r' n'.le hI
    rw [eD] at this
    exact this
theorem we_lcR1M {t : TA} {vs : List Nat} (hG : GW g vs) (h : WA K T t ss st fun xs st1 => ∃ n, xs = [.pd (.int n)] ∧ -(2 ^ 62) ≤ n ∧ n < 2 ^ 62 ∧ ∃ I : Nat → Sto → Prop, I 0 (st1 ++ [.ml []]) ∧
      (∀ (i : Nat) (st' : Sto), i < n.toNat → I i st' → WG K T g (.pd (.int (0 + (i : Int)))) (wipeS ss vs) st' fun ss2 st2 => WT K T tt ss2 st2 fun b st3 =>
        (b = true → WE K T te ss2 st3 fun y st4 => ∃ acc, st4[st1.length]? = some (.ml acc) ∧ acc.length < sizeLine ∧ I (i + 1) (st4.set st1.length (.ml (acc ++ [y])))) ∧ (b = false → I (i + 1) st3)) ∧
      ∀ st', I n.toNat st' → Φ (.cell st1.length) st') :
    WE K T (tLc (iRng1 t) g tt te vs) ss st Φ := fun α F H σ r s Q k => h α F H σ r s _ fun α1 F1 H1 vs1 xs st1 n1 r1 v1 ⟨n, e, b1, b2, I, h0, hs, hq⟩ => by
  subst e
  obtain ⟨v, rfl, hv⟩ := vrs1 v1
  obtain rfl := dp_int hv
  exact ⟨n, rfl, b1, b2, fun D hD => lc_rngM hG (s.mono n1) r1 I h0 hs (fun α2 F2 H2 st2 n2 r2 hl hI => k α2 F2 H2 _ (.cell st1.length) st2 (n1.trans n2) r2 ⟨hl, rfl⟩ (hq st2 hI)) D hD⟩
/-- a list of lists becomes plain -/
theorem we_purM (h : WE K T te ss st fun x st1 => ∃ n xs ds st2, x = .cell n ∧ st1[n]? = some (.ml xs) ∧ purs xs st1 = some (ds, st2) ∧ st2[n]? = some (.ml xs) ∧ Φ (.pd (.list ds)) (st2.set n (.fr ds))) : WE K T te ss st Φ := fun α F H σ r s Q k =>
  h α F H σ r s Q fun α1 F1 H1 v x st1 n1 r1 v1 ⟨n, xs, ds, st2, ex, en, ep, en2, q⟩ => by
    subst ex
    obtain ⟨_, rfl⟩ := v1
    obtain ⟨_, vs, e1, d1⟩ := r1.ml _ _ en
    obtain ⟨F2, r2, n2, d2⟩ := purs_ok r1 d1 ep
    have h1 := (r2.ml _ _ en2).1
    have sF : Same F2 (upd F2 (α1 n) (.lst vs)) := same_upd h1
    have at_ : upd F2 (α1 n) (HO.lst vs) (α1 n) = some (.lst vs) := upd_same
    have r3 := r2.freezeG (c := .fr ds) en2 trivial e1 (fun ps z => by cases z) (fun z => z) fun F' s e => ⟨vs, e, dpsm s d2⟩
    exact k α1 _ H1 (.ref (α1 n)) (.pd (.list ds)) (st2.set n (.fr ds)) (n1.trans (n2.trans ⟨sF, by rw [List.length_set]; exact Nat.le_refl _, fun _ _ => rfl⟩)) r3 (.lst (.inl (.inl at_)) (dpsm sF d2)) q
end
end Ct

/-! CtS: defs that make functions: what stands behind the top. -/
namespace Ct
open PySem PySem.Spec PyProof.Rows L2 NdefX
def inDef (s : Stmt) (j : Nat) : Stmt := (defBody s).getD j (.Pass ⟨0, 0, 0, 0⟩)
def lineOf : Stmt → Nat
  | .FunctionDef _ _ _ _ _ _ _ _ _ p => p.line
  | _ => 0
/-- a def with nested defs, its table among TN -/
structure GathN (K : PySem.W.Frag) (base : Heap) (mg : Str → Option Value) (TN : List NTab) (x : Str) (st : Stmt) (nm : Nat → Nat → Str) : Prop where
  ex : ∃ (f c P : Addr) (oc : Value) (od : Option Addr) (kV doc pm : Value) (an : Option Addr) (ct : Value) (osl : Array (Option Value)), K.lookup f = some ⟨oc, od, .func (PySem.W.fnOf x x (defArgs st) (defBody st) (defScope st) .none kV doc pm an (.ref c) ct), osl⟩ ∧
    PySem.W.codeIn K (.ref c) x = true ∧ PySem.W.keepIn K (.ref f) = true ∧ mg x = some (.ref f) ∧ LamX.TabB base mg c P ∧ (P, nm) ∈ TN ∧ ∀ p ∈ TN, p.1 = P → p.2 = nm
theorem hin_by {names : List (Str × NameKind)} {fr : List Str} (h : (names.all (fun y => !decide (y.2 = .free) || decide (y.1 ∈ fr)) && fr.all fun y => decide ((y, NameKind.free) ∈ names)) = true) (y : Str) : (y, NameKind.free) ∈ names ↔ y ∈ fr := by
  rw [Bool.and_eq_true, List.all_eq_true, List.all_eq_true] at h
  refine ⟨fun hy => ?_, fun hy => of_decide_eq_true (h.2 y hy)⟩
  have := h.1 _ hy
  simpa using this
theorem mk_cal {P : Program} {w : World} {K : PySem.W.Frag} {mg : Str → Option Value} {base : Heap} {TN : List NTab} {k : Nat} {x : Str} {st : Stmt} {nm : Nat → Nat → Str} {N ps : List Str} {sp : Sp} (g : GathN K base mg TN x st nm) (S : FnScope N ps (defScope st)) (len : ∀ vs H Q E, sp vs H Q E → vs.length = ps.length)
    (b : ∀ (kV doc pm : Value) (an : Option Addr) (cdv ct : Value) (us : List Value), us.length = ps.length → bindArgs (PySem.W.fnOf x x (defArgs st) (defBody st) (defScope st) .none kV doc pm an cdv ct) ⟨us, []⟩ = pure (ps.zip us))
    (hbody : ∀ (f c P1 : Addr), LamX.TabB base mg c P1 → (P1, nm) ∈ TN → (∀ p ∈ TN, p.1 = P1 → p.2 = nm) → ∀ (A : Around) (outer : List Env) (s : Shared) (H : Hp) (vs : List V) (Q : VK) (E : XK), Room k (A.deeper (envOfC x (defScope st) s.heap.objs.size f (.ref c))) → sp vs H Q E →
      ∃ t, PSC (cxOf CX0 P w K mg base N x (defScope st) f (.ref c) A outer s H E).nox (defBody st) t ∧ t (fun v σ H1 => ∀ H2, Told (envOfC x (defScope st) s.heap.objs.size f (.ref c)).cells N (defScope st) σ H1 H2 → Q v H2) (L2.start N vs) H) : Cal P w K mg base (k + 1) x ps sp := by
  obtain ⟨f, c, P1, oc, od, kV, doc, pm, an, ct, osl, lk, hcd, kp, hm, TB, hT, hu⟩ := g.ex
  exact ⟨f, _, fn_ofC lk hcd S len fun A outer s H vs Q E hr h => hbody f c P1 TB hT hu A outer s H vs Q E hr h, hm, kp, .all (b kV doc pm an (.ref c) ct)⟩
end Ct
namespace Ct
open PySem L2
theorem room_u65 {k : Nat} {A : Around} (hr : Room k A) : A.units + 65 < cLine := by
  have := hr.un
  omega
theorem op_inDK {X : Cx} {K : PySem.W.Frag} (h : X.K = K) (hu : X.A.units + 65 < cLine) : OpR X (compareOp .In) (rInD K) := by subst h; exact op_inD hu
theorem op_notInDK {X : Cx} {K : PySem.W.Frag} (h : X.K = K) (hu : X.A.units + 65 < cLine) : OpR X (compareOp .NotIn) (rNotInD K) := by subst h; exact op_notInD hu
section
variable {K : PySem.W.Frag} {T : TabI} {ss : SS} {st : Sto} {Φ : Val → Sto → Prop}
theorem wr_inD {x y : Val} {d : PyData} {ds : List PyData} (hx : look x st = some d) (hl : look y st = some (.list ds)) (f : SeqAt.shaped d = true) (f2 : SeqAt.shaped (.list ds) = true) (q : Φ (.pd (.bool (ds.any fun z => PyData.eqv z d))) st) : WR K T (rInD K) x y st Φ := fun α F H vx vy r hvx hvy Q k =>
  ⟨d, ds, look_ok r hvx hx, look_ok r hvy hl, f, f2, k α F H _ (.pd (.bool _)) st Nx.refl r (Dp.bl _) q⟩
theorem wr_ninD {x y : Val} {d : PyData} {ds : List PyData} (hx : look x st = some d) (hl : look y st = some (.list ds)) (f : SeqAt.shaped d = true) (f2 : SeqAt.shaped (.list ds) = true) (q : Φ (.pd (.bool (!ds.any fun z => PyData.eqv z d))) st) : WR K T (rNotInD K) x y st Φ := fun α F H vx vy r hvx hvy Q k =>
  ⟨d, ds, look_ok r hvx hx, look_ok r hvy hl, f, f2, k α F H _ (.pd (.bool _)) st Nx.refl r (Dp.bl _) q⟩
end
theorem eqv_pair (p q : Int × Int) : PyData.eqv (pairT p) (pairT q) = decide (p = q) := by
  obtain ⟨a, b⟩ := p
  obtain ⟨c, d⟩ := q
  rw [eqv_tuple, eqvAll_cons, eqvAll_cons, eqvAll_nil, eqv_int, eqv_int]
  by_cases h1 : a = c <;> by_cases h2 : b = d <;> simp [h1, h2]
theorem any_pair (ps : List (Int × Int)) (p : Int × Int) : ((ps.map pairT).any fun z => PyData.eqv z (pairT p)) = decide (p ∈ ps) := by
  induction ps with
  | nil => simp
  | cons q ps ih =>
    rw [List.map_cons, List.any_cons, ih, eqv_pair]
    by_cases h : p = q
    · subst h
      simp
    · have h' : ¬ q = p := fun e => h e.symm
      simp [h, h']
theorem sh_pair {k : Nat} (p : Int × Int) : Sh (k + 1) (pairT p) := sh_tuple fun e he => by
  rcases List.mem_cons.mp he with rfl | he
  · exact sh_int _
  · rw [List.mem_singleton.mp he]
    exact sh_int _
theorem sh_pairs {k : Nat} (ps : List (Int × Int)) : Sh (k + 2) (.list (ps.map pairT)) := sh_list fun d hd => by
  obtain ⟨p, _, rfl⟩ := List.mem_map.mp hd
  exact sh_pair p
end Ct

/-! CtT: loops and comprehensions over lists that are still written; small rules. -/
namespace Ct
open PySem L2
section
variable {K : PySem.W.Frag} {T : TabI} {ss : SS} {st : Sto} {Φ : Val → Sto → Prop} {te ta tb tc tl : TE} {tt tu : TT} {P : Po} {g : TG} {bd : TS}
theorem set_id {st : Sto} {n : Nat} {c : Cell} (h : st[n]? = some c) : st.set n c = st := by
  obtain ⟨hn, e⟩ := List.getElem?_eq_some_iff.mp h
  rw [← e]
  exact List.set_getElem_self hn
theorem unpin {α : Nat → Addr} {F H : Hp} {n : Nat} {vs : List V} {xs : List PyData} (r : Rel K T α F H st) (h : st[n]? = some (.pin vs xs)) : Rel K T α F H (st.set n (.mu xs)) := by
  obtain ⟨h1, h2, h3⟩ := r.at_ n _ h
  exact r.relabel h trivial ⟨h1, vs, h2, h3⟩
theorem ws_forC (h : WE K T tl ss st fun x st1 => ∃ n xs, x = .cell n ∧ st1[n]? = some (.mu xs) ∧ ∃ I : Nat → SS → Sto → Prop, I 0 ss st1 ∧ (∀ i ss' st', I i ss' st' → st'[n]? = some (.mu xs)) ∧
    (∀ (vs : List V) (i : Nat) (d : PyData) (ss' : SS) (st' : Sto), xs[i]? = some d → I i ss' st' → WG K T g (.pd d) ss' (st'.set n (.pin vs xs)) fun ss2 st2 => WS K T bd ss2 st2
      { nx := fun ss3 st3 => st3[n]? = some (.pin vs xs) ∧ I (i + 1) ss3 (st3.set n (.mu xs)), rt := fun x st3 => st3[n]? = some (.pin vs xs) ∧ P.rt x (st3.set n (.mu xs)), bk := fun ss3 st3 => st3[n]? = some (.pin vs xs) ∧ P.nx ss3 (st3.set n (.mu xs)), ct := fun ss3 st3 => st3[n]? = some (.pin vs xs) ∧ I (i + 1) ss3 (st3.set n (.mu xs)) }) ∧
    ∀ (ss' : SS) (st' : Sto), I xs.length ss' st' → P.nx ss' st') : WS K T (tFor (iList K tl) g bd) ss st P := fun α F H σ r s D o => h α F H σ r s _ fun α1 F1 H1 v x st1 n1 r1 v1 ⟨n, xs, e, en, I, i0, hI, hs, hd⟩ => by
  subst e
  obtain ⟨hn, rfl⟩ := v1
  obtain ⟨hf, vs, h2, h3⟩ := r1.mu n xs en
  have o1 := o.mono n1
  have rp : Rel K T α1 F1 H1 (st1.set n (.pin vs xs)) := r1.relabel en trivial ⟨hf, h2, h3⟩
  refine ⟨_, rfl, ⟨vs, .inl (.inl h2)⟩, for_list (xs := vs) (fun i σ' H' => ∃ α' F' ss' st', Nx α1 F1 st1.length α' F' (List.length st') ∧ Rel K T α' F' H' (st'.set n (.pin vs xs)) ∧ SR K α' F' st'.length ss' σ' ∧ I i ss' st')
    ⟨α1, F1, ss, st1, Nx.refl, rp, s.mono n1, i0⟩ (fun i σ' H' _ ⟨α', F', ss', st', n', r', _, hi⟩ => ?_) (fun i y σ' H' hy ⟨α', F', ss', st', n', r', s', hi⟩ => ?_) (fun σ' H' ⟨α', F', ss', st', n', r', s', hi⟩ => ?_)⟩
  · obtain ⟨_, h, _⟩ := r'.at_ n _ (get_setSelf (hI _ _ _ hi))
    rw [n'.ag n hn] at h
    exact .inl (.inl h)
  · obtain ⟨d, hd1, dd⟩ := dps_getV h3 hy
    have ll : ∀ {c : Cell}, (st'.set n c).length = st'.length := List.length_set
    have back : ∀ {st3 : Sto}, st3[n]? = some (.pin vs xs) → (st3.set n (.mu xs)).set n (.pin vs xs) = st3 := fun {st3} e => by rw [List.set_set]; exact set_id e
    have fin : ∀ {α2 : Nat → Addr} {F2 : Hp} {st2 st3 : Sto} {α3 : Nat → Addr} {F3 : Hp}, Nx α' F' (st'.set n (.pin vs xs)).length α2 F2 st2.length → Nx α2 F2 st2.length α3 F3 st3.length → Nx α1 F1 st1.length α3 F3 (st3.set n (.mu xs)).length := fun {α2 F2 st2 st3 α3 F3} a b => by
      rw [List.length_set]
      rw [ll] at a
      exact n'.trans (a.trans b)
    exact hs vs i d ss' st' hd1 hi α' F' H' σ' y r' (by rw [ll]; exact s') (dpm n'.sub dd) _ fun α2 F2 H2 σ2 ss2 st2 n2 r2 s2 q => q α2 F2 H2 σ2 r2 s2 _
      ⟨fun α3 F3 H3 σ3 ss3 st3 n3 r3 s3 ⟨ep, q3⟩ => ⟨α3, F3, ss3, _, fin n2 n3, by rw [back ep]; exact r3, by rw [List.length_set]; exact s3, q3⟩,
        fun α3 F3 H3 v3 x3 st3 n3 r3 v3' ⟨ep, q3⟩ => o1.rt α3 F3 H3 v3 x3 _ (fin n2 n3) (unpin r3 ep) (by rw [List.length_set]; exact v3') q3,
        fun α3 F3 H3 σ3 ss3 st3 n3 r3 s3 ⟨ep, q3⟩ => o1.nx α3 F3 H3 σ3 ss3 _ (fin n2 n3) (unpin r3 ep) (by rw [List.length_set]; exact s3) q3,
        fun α3 F3 H3 σ3 ss3 st3 n3 r3 s3 ⟨ep, q3⟩ => ⟨α3, F3, ss3, _, fin n2 n3, by rw [back ep]; exact r3, by rw [List.length_set]; exact s3, q3⟩⟩
  · have en' := hI _ _ _ hi
    have r3 := unpin r' (get_setSelf en')
    rw [List.set_set, set_id en'] at r3
    exact o1.nx α' F' H' σ' ss' st' n' r3 s' (hd ss' st' (by rw [← dps_len h3]; exact hi))
/-- a comprehension over a list whose items are known while it runs -/
theorem lc_lstX {vs : List Nat} {a : Addr} {ws : List V} {xs : List PyData} {α1 : Nat → Addr} {F1 H1 : Hp} {st1 : Sto} {σ : L2.St} {Q : VK} (hG : GW g vs) (s : SR K α1 F1 st1.length ss σ) (r1 : Rel K T α1 F1 H1 st1) (h2 : DpAll K F1 ws xs) (hsz : xs.length < sizeLine)
    (hq1 : ∀ (α' : Nat → Addr) (F' H' : Hp) (acc : List PyData), Nx α1 F1 st1.length α' F' st1.length → Rel K T α' F' H' (st1 ++ [.mu acc]) → SqL K H' a ws) (f : PyData → Option PyData)
    (hs : ∀ (i : Nat) (d : PyData) (acc : List PyData), xs[i]? = some d → WG K T g (.pd d) (wipeS ss vs) (st1 ++ [.mu acc]) fun ss2 st2 => WT K T tt ss2 st2 fun b st3 =>
        (b = true → WE K T te ss2 st3 fun y st4 => ∃ dy st5, pur y st4 = some (dy, st5) ∧ st5.take (st1.length + 1) = st1 ++ [.mu acc] ∧ f d = some dy) ∧ (b = false → st3.take (st1.length + 1) = st1 ++ [.mu acc] ∧ f d = none))
    (k : ∀ α2 F2 H2 D, Nx α1 F1 st1.length α2 F2 st1.length → Rel K T α2 F2 H2 st1 → Dp K F2 (.ref D) (.list (xs.filterMap f)) → Q (.ref D) H2) (D : Addr) (hD : H1 D = none) :
    ∃ W : Nat → Nat → Hp → Prop, (∃ m, W 0 m (upd H1 D (.lst []))) ∧ ∀ i m H, W i m H → ((Itl K a).stop i H ∧ Q (.ref D) H) ∨ ((Itl K a).go i H ∧ ∃ Nx : Hp → Prop, (∀ H', Nx H' → ∃ m', m' < m ∧ W (i + 1) m' H') ∧ ∀ x H', (Itl K a).yld i H x H' → g x (L2.wipe σ vs) H' fun σ2 H2 => L2.wipe σ2 vs = L2.wipe σ vs ∧ tt σ2 H2 fun b H3 =>
        if b = true then te σ2 H3 fun y H4 => ∃ acc, H4 D = some (.lst acc) ∧ acc.length < sizeLine ∧ Nx (upd H4 D (.lst (acc ++ [y]))) else Nx H3) := by
  have len1 : ∀ acc : List PyData, (st1 ++ [Cell.mu acc]).length = st1.length + 1 := fun acc => by simp
  refine lc_list (xs := ws) (fun i H' => ∃ α' F', Nx α1 F1 st1.length α' F' st1.length ∧ Rel K T α' F' H' (st1 ++ [.mu ((xs.take i).filterMap f)]) ∧ α' st1.length = D)
    ⟨ext α1 st1.length D, F1, ⟨Same.refl _, Nat.le_refl _, fun n hn => ext_ne (Nat.ne_of_lt hn)⟩, r1.cell hD .nil, ext_same⟩ (fun i H' _ ⟨α', F', n', r', _⟩ => hq1 α' F' H' _ n' r') (fun i y H' hy ⟨α', F', n', r', eD⟩ => ?_) (fun H' ⟨α', F', n', r', eD⟩ => ?_)
  · obtain ⟨d, hd1, dd⟩ := dps_getV h2 hy
    have hi : i < xs.length := (List.getElem?_eq_some_iff.mp hd1).1
    have nn : Nx α1 F1 st1.length α' F' (st1.length + 1) := ⟨n'.sub, Nat.le_succ _, n'.ag⟩
    have s1 : SR K α' F' (st1 ++ [Cell.mu ((xs.take i).filterMap f)]).length (wipeS ss vs) (L2.wipe σ vs) := by
      rw [len1]
      exact (s.mono nn).wipe vs
    have ez : L2.wipe (L2.wipe σ vs) vs = L2.wipe σ vs := wipe_wipe
    have base := hs i d ((xs.take i).filterMap f) hd1 α' F' H' (L2.wipe σ vs) y r' s1 (dpm n'.sub dd) (fun σ2 H2 => tt σ2 H2 fun b H3 => if b = true then te σ2 H3 fun y H4 => ∃ acc, H4 D = some (.lst acc) ∧ acc.length < sizeLine ∧
        (∃ α' F', Nx α1 F1 st1.length α' F' st1.length ∧ Rel K T α' F' (upd H4 D (.lst (acc ++ [y]))) (st1 ++ [.mu ((xs.take (i + 1)).filterMap f)]) ∧ α' st1.length = D) else
        ∃ α' F', Nx α1 F1 st1.length α' F' st1.length ∧ Rel K T α' F' H3 (st1 ++ [.mu ((xs.take (i + 1)).filterMap f)]) ∧ α' st1.length = D) fun α2 F2 H2 σ2 ss2 st2 n2 r2 s2 q => q α2 F2 H2 σ2 r2 s2 _ fun α3 F3 H3 b st3 n3 r3 ⟨ht, hf⟩ => ?_
    · have := hG _ _ _ _ base
      rw [ez] at this
      exact this
    · have cut : ∀ {α4 : Nat → Addr} {F4 : Hp} {st4 : Sto}, Nx α' F' (st1 ++ [Cell.mu ((xs.take i).filterMap f)]).length α4 F4 st4.length → Nx α1 F1 st1.length α4 F4 st1.length ∧ α4 st1.length = D := fun {α4 F4 st4} n4 => by
        rw [len1] at n4
        exact ⟨⟨n'.sub.trans n4.sub, Nat.le_refl _, fun n hn => (n4.ag n (Nat.lt_succ_of_lt hn)).trans (n'.ag n hn)⟩, (n4.ag _ (Nat.lt_succ_self _)).trans eD⟩
      cases b with
      | true =>
        rw [if_pos rfl]
        refine ht rfl α3 F3 H3 σ2 r3 (s2.mono n3) _ fun α4 F4 H4 vy z st4 n4 r4 v4 ⟨dy, st5, ep, et, ef⟩ => ?_
        obtain ⟨F5, r5, n5, d5⟩ := pur_ok r4 v4 ep
        have nA := n2.trans (n3.trans (n4.trans n5))
        obtain ⟨c1, c2⟩ := cut nA
        have h5 : st5[st1.length]? = some (.mu ((xs.take i).filterMap f)) := by
          have : (st5.take (st1.length + 1))[st1.length]? = some (.mu ((xs.take i).filterMap f)) := by rw [et]; simp
          rw [List.getElem?_take] at this
          simpa using this
        obtain ⟨_, us, e1, d1⟩ := r5.mu _ _ h5
        rw [c2] at e1
        have h6 : (st1 ++ [Cell.mu ((xs.take i).filterMap f)])[st1.length]? = some (.mu ((xs.take i).filterMap f)) := by simp
        have rw5 := (r5.back r' (by rw [len1]; exact et)).write h6 (dps_app d1 (.cons d5 .nil))
        rw [c2] at rw5
        have es : (st1 ++ [Cell.mu ((xs.take i).filterMap f)]).set st1.length (.mu ((xs.take i).filterMap f ++ [dy])) = st1 ++ [.mu ((xs.take (i + 1)).filterMap f)] := by
          rw [fm_take hd1, ef]
          simp
        rw [es] at rw5
        refine ⟨us, e1, ?_, α4, F5, c1, rw5, c2⟩
        rw [dps_len d1]
        have := List.length_filterMap_le f (xs.take i)
        rw [List.length_take] at this
        omega
      | false =>
        rw [if_neg Bool.false_ne_true]
        obtain ⟨et, ef⟩ := hf rfl
        obtain ⟨c1, c2⟩ := cut (n2.trans n3)
        have r3' := r3.back r' (by rw [len1]; exact et)
        refine ⟨α3, F3, c1, ?_, c2⟩
        rw [fm_take hd1, ef]
        simpa using r3'
  · have ea : (xs.take ws.length).filterMap f = xs.filterMap f := by rw [dps_len h2, List.take_length]
    rw [ea] at r'
    have hg : (st1 ++ [Cell.mu (xs.filterMap f)])[st1.length]? = some (.mu (xs.filterMap f)) := by simp
    obtain ⟨F2, r2, n2, d2⟩ := r'.freeze hg
    have et : ((st1 ++ [Cell.mu (xs.filterMap f)]).set st1.length (.fr (xs.filterMap f))).take st1.length = st1 := by simp
    have r3 := r2.back r1 et
    rw [eD] at d2
    exact k α' F2 H' D ⟨n'.sub.trans n2.sub, Nat.le_refl _, n'.ag⟩ r3 d2
theorem we_lcC {vs : List Nat} (hG : GW g vs) (h : WE K T tl ss st fun x st1 => ∃ n xs, x = .cell n ∧ st1[n]? = some (.mu xs) ∧ xs.length < sizeLine ∧ ∃ f : PyData → Option PyData,
      (∀ (ws : List V) (i : Nat) (d : PyData) (acc : List PyData), xs[i]? = some d → WG K T g (.pd d) (wipeS ss vs) (st1.set n (.pin ws xs) ++ [.mu acc]) fun ss2 st2 => WT K T tt ss2 st2 fun b st3 =>
        (b = true → WE K T te ss2 st3 fun y st4 => ∃ dy st5, pur y st4 = some (dy, st5) ∧ st5.take (st1.length + 1) = st1.set n (.pin ws xs) ++ [.mu acc] ∧ f d = some dy) ∧ (b = false → st3.take (st1.length + 1) = st1.set n (.pin ws xs) ++ [.mu acc] ∧ f d = none)) ∧
      Φ (.pd (.list (xs.filterMap f))) st1) :
    WE K T (tLc (iList K tl) g tt te vs) ss st Φ := fun α F H σ r s Q k => h α F H σ r s _ fun α1 F1 H1 v x st1 n1 r1 v1 ⟨n, xs, e, en, hsz, f, hs, hq⟩ => by
  subst e
  obtain ⟨hn, rfl⟩ := v1
  obtain ⟨hf, ws, h2, h3⟩ := r1.mu n xs en
  have ll : ∀ {c : Cell}, (st1.set n c).length = st1.length := List.length_set
  have rp : Rel K T α1 F1 H1 (st1.set n (.pin ws xs)) := r1.relabel en trivial ⟨hf, h2, h3⟩
  have ep : (st1.set n (.pin ws xs))[n]? = some (.pin ws xs) := get_setSelf en
  refine ⟨_, rfl, ⟨ws, .inl (.inl h2)⟩, fun D hD => lc_lstX hG (by rw [ll]; exact s.mono n1) rp h3 hsz (fun α' F' H' acc n' r' => ?_) f (by rw [ll]; exact hs ws) (fun α2 F2 H2 D n2 r2 d2 => ?_) D hD⟩
  · obtain ⟨_, h, _⟩ := r'.at_ n (.pin ws xs) (by rw [List.getElem?_append_left (by rw [ll]; exact hn)]; exact ep)
    rw [n'.ag n (by rw [ll]; exact hn)] at h
    exact .inl (.inl h)
  · have r3 := unpin r2 ep
    rw [List.set_set, set_id en] at r3
    rw [ll] at n2
    exact k α2 F2 H2 (.ref D) (.pd _) st1 (n1.trans n2) r3 d2 hq
end
/-! ### small things -/
theorem allP_nil : ∀ x ∈ ([] : List Val), x.Plain := fun x h => by cases h
theorem allP_cons {x : Val} {xs : List Val} (h : x.Plain) (t : ∀ y ∈ xs, y.Plain) : ∀ y ∈ x :: xs, y.Plain := fun y hy => by
  rcases List.mem_cons.mp hy with rfl | hy
  · exact h
  · exact t y hy
theorem putG_len {β : Type} (f : Str) (v : β) : ∀ fs : List (Str × β), (putG f v fs).length ≤ fs.length + 1
  | [] => Nat.le_refl _
  | (g, x) :: r => by
    show (if g = f then (g, v) :: r else (g, x) :: putG f v r).length ≤ _
    split
    · exact Nat.le_succ _
    · exact Nat.succ_le_succ (putG_len f v r)
theorem putG_lt {β : Type} {f : Str} {v : β} {fs : List (Str × β)} {n : Nat} (h : fs.length < n) : (putG f v fs).length < n + 1 := Nat.lt_of_le_of_lt (putG_len f v fs) (Nat.succ_lt_succ h)
theorem set_app {st jk : Sto} {n : Nat} {c c' : Cell} (h : st[n]? = some c) : (st ++ jk).set n c' = st.set n c' ++ jk := List.set_append_left n c' (List.getElem?_eq_some_iff.mp h).1
theorem get_app_l {st jk : Sto} {n : Nat} {c : Cell} (h : st[n]? = some c) : (st ++ jk)[n]? = some c := by
  rw [List.getElem?_append_left (List.getElem?_eq_some_iff.mp h).1]
  exact h
theorem take_set {st : Sto} {n k : Nat} {c : Cell} (h : k ≤ n) : (st.set n c).take k = st.take k := by
  apply List.ext_getElem?
  intro i
  rw [List.getElem?_take, List.getElem?_take]
  split
  · rw [List.getElem?_set_ne (by omega)]
  · rfl
theorem take_app {st0 st jk : Sto} (h : st.take st0.length = st0) : (st ++ jk).take st0.length = st0 := by
  have hl := congrArg List.length h
  rw [List.length_take] at hl
  rw [List.take_append_of_le_length (by omega)]
  exact h
theorem get_take {st0 st : Sto} (h : st.take st0.length = st0) {n : Nat} {c : Cell} (e : st0[n]? = some c) : st[n]? = some c := by
  rw [← h, List.getElem?_take] at e
  split at e
  · exact e
  · cases e
theorem take_le {st0 st : Sto} (h : st.take st0.length = st0) : st0.length ≤ st.length := by
  have hl := congrArg List.length h
  rw [List.length_take] at hl
  omega
theorem get_ge {st0 st : Sto} {n : Nat} {c : Cell} (e : (st0 ++ st)[n]? = some c) (h : st0.length ≤ n) : st[n - st0.length]? = some c := by
  rw [List.getElem?_append_right h] at e
  exact e
end Ct
namespace Ct
open PySem PySem.Spec PyProof.Rows L2 NdefX
theorem mk_fin {K : PySem.W.Frag} {T : TabI} {X : Cx} {body : List Stmt} {cells : List (Str × Addr)} {N : List Str} {sc : Scope} {n : Nat} {p : Pre} {tt : (V → L2.St → Hp → Prop) → L2.St → Hp → Prop} {vs : List V} {H : Hp} {Q : VK} {E : XK} (hp : PSC X body tt) (h : spP K T n p vs H Q E)
    (hw : ∀ (xs : List Val) (st : Sto) (Φ : Val → Sto → Prop), xs.length = n → p xs st Φ → WK K T tt (startS N xs) st (EndC K cells N sc Φ)) :
    ∃ t, PSC X body t ∧ t (fun v σ H1 => ∀ H2, Told cells N sc σ H1 H2 → Q v H2) (L2.start N vs) H := ⟨tt, hp, mk_run h hw⟩
end Ct

/-! KP: plans on pages, houses as values, plays: plain mirrors and promises (for every law). -/
namespace Kp
open PySem L2 Ct PyProof.Rows NdefX

abbrev Sec := Int × Int × Int
abbrev secD (s : Sec) : PyData := .tuple [.int s.1, .int s.2.1, .int s.2.2]
def SecOk (s : Sec) : Prop := 0 ≤ s.1 ∧ s.1 ≤ s.2.1 ∧ 0 ≤ s.2.2 ∧ s.2.2 ≤ s.2.1 - s.1 ∧ s.2.1 ≤ 10000
/-- a plan on pages: start, page, range, sections, tells -/
structure PlanR where
  s : Int
  H : Int
  r : Int
  ss : List Sec
  ts : List (Int × Int)
def planF (p : PlanR) : List (Str × Val) := [("start_line", .pd (.int p.s)), ("page_height", .pd (.int p.H)), ("ruler_told", .pd .none), ("range_most", .pd (.int p.r)), ("section_rows", .pd (.list (p.ss.map secD))), ("tell_rows", .pd (.list (p.ts.map pairT)))]
abbrev pagesD (H : Int) : PyData := .tuple [.str "pages", .int H]
abbrev worldD (p : PlanR) : PyData := .list [.int p.s, pagesD p.H, .int p.r, .list (p.ss.map secD), .list (p.ts.map pairT)]
structure PlanOk (p : PlanR) : Prop where
  s0 : 0 ≤ p.s
  s1 : p.s ≤ 1000000
  H1 : 1 ≤ p.H
  H2 : p.H ≤ 10000
  r1 : 1 ≤ p.r
  r2 : p.r ≤ 10
  sn : p.ss.length ≤ 60
  tn : p.ts.length ≤ 60
  sec : ∀ s ∈ p.ss, SecOk s
  tel : ∀ t ∈ p.ts, 0 ≤ t.1 ∧ t.1 < t.2 ∧ t.2 ≤ p.ss.length
  srt : p.ts.Pairwise fun a b => a.1 < b.1 ∨ (a.1 = b.1 ∧ a.2 < b.2)
abbrev planO (K : PySem.W.Frag) (C : Addr) (p : PlanR) : Val := .ob (insO K C (planF p))
theorem planO_plain (K : PySem.W.Frag) (C : Addr) (p : PlanR) : (planO K C p).Plain := insO_plain fun x hx => by
  unfold planF at hx
  simp only [List.mem_cons, List.not_mem_nil, or_false] at hx
  rcases hx with rfl | rfl | rfl | rfl | rfl | rfl <;> exact trivial
/-! ### marks -/
def firstTell (ts : List (Int × Int)) (mark : Int) : Option Int := (ts.find? fun t => decide (t.2 = mark)).map Prod.fst
def marksAt (p : PlanR) (t : Int) : List Int := ((List.range p.ss.length).map fun (i : Nat) => 1 + (i : Int)).filter fun j => decide (firstTell p.ts j = some t)
/-! ### houses -/
structure HS where
  b : PyData
  t : PyData → Int → Int → Int → Option (PyData × Int × Int)
  s : PyData → Int → Int → Option (PyData × Int)
abbrev Rng := Int × Int × Int × Int
abbrev rngD (x : Rng) : PyData := .tuple [.int x.1, .int x.2.1, .int x.2.2.1, .int x.2.2.2]
def rightR (r f l : Int) : Bool := decide (1 ≤ f ∧ f ≤ l ∧ l < f + r)
def tellsG (hs : HS) (r k line : Int) : List Int → PyData → List Rng → Option (Sum PyData (PyData × List Rng))
  | [], s, told => some (.inr (s, told))
  | j :: js, s, told => match hs.t s k line j with
    | none => none
    | some (s', f, l) => if rightR r f l = true then tellsG hs r k line js s' (told ++ [(k, j, f, l)]) else some (.inl (.tuple [.str "range", .int k, .int j]))
def wrongIn (k cell : Int) (told : List Rng) : Option Rng := told.find? fun x => decide (x.2.1 = k ∧ ¬ (x.2.2.1 ≤ cell ∧ cell ≤ x.2.2.2))
def trueD (lines : List Int) (told : List Rng) : PyData := .tuple [.str "true", .list (lines.map PyData.int), .list (told.map rngD)]
def falseD (k f l cell : Int) : PyData := .tuple [.str "false", .int k, .int f, .int l, .int cell]
def padD (k : Int) : PyData := .tuple [.str "pad", .int k]
/-- one section: the state, the line, what is told -/
def stepG (hs : HS) (p : PlanR) (c k L : Int) (s : PyData) (line : Int) (told : List Rng) : Option (Sum PyData (PyData × Int × List Rng)) :=
  match hs.s s k L with
  | none => none
  | some (s', pad) => if ¬ (0 ≤ pad ∧ pad ≤ c) then some (.inl (padD k)) else
    match wrongIn k ((line + (L + pad)) / p.H + 1) told with
    | some x => some (.inl (falseD k x.2.2.1 x.2.2.2 ((line + (L + pad)) / p.H + 1)))
    | none => match tellsG hs p.r k (line + (L + pad)) (marksAt p k) s' told with
      | none => none
      | some (.inl e) => some (.inl e)
      | some (.inr (s'', told')) => some (.inr (s'', line + (L + pad), told'))
def playG (hs : HS) (src : Int → Int → List Rng → Option Int) (p : PlanR) : List Sec → Int → PyData → Int → List Int → List Rng → List Int → Option (PyData × List Int)
  | [], _, _, _, lines, told, lens => some (trueD lines told, lens)
  | x :: rest, k, s, line, lines, told, lens => match src k line told with
    | none => none
    | some L => match stepG hs p x.2.2 k L s line told with
      | none => none
      | some (.inl e) => some (e, lens ++ [L])
      | some (.inr (s', line', told')) => playG hs src p rest (k + 1) s' line' (lines ++ [line']) told' (lens ++ [L])
def lawPlay (hs : HS) (src : Int → Int → List Rng → Option Int) (p : PlanR) : Option (PyData × List Int) := match tellsG hs p.r 0 p.s (marksAt p 0) hs.b [] with
  | none => none
  | some (.inl e) => some (e, [])
  | some (.inr (s, told)) => playG hs src p p.ss 1 s p.s [p.s] told []
def playedG (hs : HS) (p : PlanR) : List Sec → List Int → Int → PyData → Int → List Int → List Rng → Option PyData
  | x :: rest, L :: Ls, k, s, line, lines, told => match stepG hs p x.2.2 k L s line told with
    | none => none
    | some (.inl e) => some e
    | some (.inr (s', line', told')) => playedG hs p rest Ls (k + 1) s' line' (lines ++ [line']) told'
  | _, _, _, _, _, lines, told => some (trueD lines told)
def played (hs : HS) (p : PlanR) (lens : List Int) : Option PyData := match tellsG hs p.r 0 p.s (marksAt p 0) hs.b [] with
  | none => none
  | some (.inl e) => some e
  | some (.inr (s, told)) => playedG hs p p.ss lens 1 s p.s [p.s] told
/-! ### functions as values, by what they promise -/
structure FnV (P : Program) (w : World) (K : PySem.W.Frag) (mg : Str → Option Value) (base : Heap) (T : TabI) (k : Nat) (x : Val) (n : Nat) (q : Pre) : Prop where
  ex : ∃ (st : Stmt) (name qual : Str) (fr ps : List Str) (m : Nat) (p : Pre) (ws : List Val), x = .ob (cloO K st name qual fr ws) ∧ (∀ y ∈ ws, y.Plain) ∧ (∀ (f : Addr) (cl : List (Str × Addr)) (c : Addr), NOk P w K mg base CX0 k f (NF.of st name qual cl c) ps fr (spN K T n m p)) ∧ fr.length = m ∧
    ∀ (xs : List Val) (Φ : Val → Sto → Prop), xs.length = n → q xs [] Φ → p (xs ++ ws) [] Φ
theorem we_callF {P : Program} {w : World} {K : PySem.W.Frag} {mg : Str → Option Value} {base : Heap} {T : TabI} {k n : Nat} {ss : SS} {sto : Sto} {Φ : Val → Sto → Prop} {tf : TE} {t : TA} (q : Pre)
    (h : WE K T tf ss sto fun x st1 => FnV P w K mg base T k x n q ∧ WA K T t ss st1 fun xs st2 => (∀ x ∈ xs, x.Plain) ∧ xs.length = n ∧ q xs [] fun y _ => y.Plain ∧ Φ y st2) :
    WE K T (tCallV P w K mg base k tf t) ss sto Φ := we_callX (we_mono h fun x st1 ⟨⟨st, name, qual, fr, ps, m, p, ws, ex, pl, nok, hm, imp⟩, ha⟩ =>
  ⟨n, m, st, name, qual, fr, ps, p, ws, nok, hm, ex, pl, fun α F H σ r s Q k => ha α F H σ r s Q fun α1 F1 H1 vs xs st2 n1 r1 v1 ⟨h1, h2, h3⟩ => k α1 F1 H1 vs xs st2 n1 r1 v1 ⟨h1, h2, imp xs _ h2 h3⟩⟩)
/-! ### a house's parts, a source of lengths -/
def qB (b : PyData) (plan : Val) : Pre := fun xs st Φ => xs = [plan] ∧ Φ (.pd b) st
def qT (hs : HS) : Pre := fun xs st Φ => ∃ (s : PyData) (k line j : Int) (s' : PyData) (f l : Int), xs = [.pd s, .pd (.int k), .pd (.int line), .pd (.int j)] ∧ hs.t s k line j = some (s', f, l) ∧ Φ (.pd (.tuple [s', .int f, .int l])) st
def qS (hs : HS) : Pre := fun xs st Φ => ∃ (s : PyData) (k L : Int) (s' : PyData) (pad : Int), xs = [.pd s, .pd (.int k), .pd (.int L)] ∧ hs.s s k L = some (s', pad) ∧ Φ (.pd (.tuple [s', .int pad])) st
def qSrc (src : Int → Int → List Rng → Option Int) : Pre := fun xs st Φ => ∃ (k line : Int) (told : List Rng) (L : Int), xs = [.pd (.int k), .pd (.int line), .pd (.list (told.map rngD))] ∧ src k line told = some L ∧ Φ (.pd (.int L)) st
structure HouseV (P : Program) (w : World) (K : PySem.W.Frag) (mg : Str → Option Value) (base : Heap) (T : TabI) (k : Nat) (hs : HS) (plan f0 f1 f2 : Val) : Prop where
  b : FnV P w K mg base T k f0 1 (qB hs.b plan)
  t : FnV P w K mg base T k f1 4 (qT hs)
  s : FnV P w K mg base T k f2 3 (qS hs)
end Kp

/-! KM: what the defs of k80 compute, as plain functions; how they lie as data. -/
namespace K77
open PySem Ct Kp

abbrev Arc := Int × Option Int
def lesserEnd : Option Int → Option Int → Option Int
  | none, b => b
  | some a, none => some a
  | some a, some b => if a < b then some a else some b
def meetN : Nat → List Arc → List Arc → List Arc
  | 0, _, _ => []
  | _ + 1, [], _ => []
  | _ + 1, _ :: _, [] => []
  | n + 1, a :: r, b :: s =>
    match lesserEnd a.2 b.2 with
    | none => [(if b.1 > a.1 then b.1 else a.1, none)]
    | some l => (if (if b.1 > a.1 then b.1 else a.1) ≤ l then [(if b.1 > a.1 then b.1 else a.1, some l)] else []) ++ (if a.2 = some l then meetN n r (b :: s) else meetN n (a :: r) s)
def arcsMeet (r s : List Arc) : List Arc := meetN (r.length + s.length) r s
def otherF : Int → List Arc → List Arc
  | line, [] => [(line, none)]
  | line, (f, none) :: _ => if f > line then [(line, some (f - 1))] else []
  | line, (f, some l) :: r => (if f > line then [(line, some (f - 1))] else []) ++ otherF (l + 1) r
def arcsMinus (r s : List Arc) : List Arc := arcsMeet r (otherF 0 s)
def arcLe (a b : Arc) : Bool := decide (a.1 ≤ b.1)
def gStep (made : List Arc) (a : Arc) : List Arc := match made.getLast? with
  | none => made ++ [a]
  | some (_, none) => made
  | some (b, some e) => if a.1 > e + 1 then made ++ [a] else match a.2 with
    | none => made.set (made.length - 1) (b, none)
    | some l => if l > e then made.set (made.length - 1) (b, some l) else made
def arcsGathered (rows : List Arc) : List Arc := (rows.mergeSort arcLe).foldl gStep []
def arcsUnion (r s : List Arc) : List Arc := arcsGathered (r ++ s)
abbrev Hole := Int × Int
/-- none: a hole goes all round -/
def pieces (H : Int) : List Hole → Option (List Arc)
  | [] => some []
  | (f, l) :: r => if l ≥ H then none else (pieces H r).map fun t => (if f % H + l ≤ H then [(f % H, some (f % H + l - 1))] else [(f % H, some (H - 1)), (0, some (f % H + l - H - 1))]) ++ t
def roundArcs (holes : List Hole) (H : Int) : List Arc := match pieces H holes with
  | none => [(0, some (H - 1))]
  | some made => arcsUnion made []
def toHole (a : Arc) : Hole := (a.1, a.2.getD 0 - a.1 + 1)
def roundHoles (arcs : List Arc) (H : Int) : List Hole :=
  match arcs.head?, arcs.getLast? with
  | some x, some y => if 1 < arcs.length ∧ x.1 = 0 ∧ y.2 = some (H - 1) then ((arcs.drop 1).take (arcs.length - 1 - 1)).map toHole ++ [(y.1, H - y.1 + x.2.getD 0 + 1)] else arcs.map toHole
  | _, _ => arcs.map toHole
def grow (a b c : Int) (hs : List Hole) : List Hole := (hs.filter fun h => decide (h.2 > c)).map fun h => (h.1 - b, h.2 + b - a - c)
def nextShut (a b c H : Int) (gap : List Hole) (shut : List Arc) : List Arc := roundArcs (grow a b c (roundHoles shut H) ++ gap) H
def leftOf (H : Int) (shut : List Arc) : List Arc := arcsMinus [(0, some (H - 1))] shut
def okShut (s : List Arc) : Bool := decide (s.length ≤ 1000) && s.all fun a => a.2.isSome
def ranksGo (a b c H : Int) (gap : List Hole) : Nat → List Arc → List Arc → Option (List (List Arc))
  | 0, _, _ => none
  | n + 1, shut, last => if last = [] then some [] else if okShut (nextShut a b c H gap shut) = true then
    (if leftOf H (nextShut a b c H gap shut) = last then some [] else
      (ranksGo a b c H gap n (nextShut a b c H gap shut) (leftOf H (nextShut a b c H gap shut))).map fun t => leftOf H (nextShut a b c H gap shut) :: t) else none

/-! the verdicts -/
inductive Way where
  | gap
  | short (k : Int)
  | over (k : Int)
  deriving DecidableEq
inductive Ver where
  | covered
  | jumped
  | page (m : Int)
  | caught (n : Int) (w : Way)
  deriving DecidableEq
def isC : Ver → Bool
  | .page _ => true
  | .caught _ _ => true
  | _ => false
def overOf (a b c H m r : Int) : Int := m * (b - a - c) - (r - 1) * H
def partsUp (many part : Int) : Int := (many + part - 1) / part
def rems (a b c H m : Int) : List (Int × Int) := (List.range m.toNat).map fun (i : Nat) => ((1 + (i : Int)) * (a + c) % H, (1 + (i : Int)) * b % H)
def waysS (H m over : Int) : Int → List (Int × Int) → List (Int × Way)
  | _, [] => []
  | k, (s, _) :: t => (if s ≥ H - over then [(m + k * partsUp (H - over) (H - s), Way.short k)] else []) ++ waysS H m over (k + 1) t
def waysO (H m over : Int) : Int → List (Int × Int) → List (Int × Way)
  | _, [] => []
  | k, (_, y) :: t => (if 1 ≤ y ∧ y ≤ over then [(m + k * partsUp (H - over) y, Way.over k)] else []) ++ waysO H m over (k + 1) t
def caughtWays (a b c H m over : Int) : List (Int × Way) :=
  (if over > c then [(m + partsUp (H - over) (b - a - c), Way.gap)] else []) ++ waysS H m over 1 (rems a b c H m) ++ waysO H m over 1 (rems a b c H m)
def bestOf : Int × Way → List (Int × Way) → Int × Way
  | best, [] => best
  | best, x :: t => bestOf (if x.1 < best.1 then x else best) t
def forEver (a b c H m r : Int) : Ver :=
  if overOf a b c H m r ≤ 0 then .covered else if overOf a b c H m r ≥ H then .page m else
    match caughtWays a b c H m (overOf a b c H m r) with
    | [] => .jumped
    | x :: t => .caught (bestOf x (x :: t)).1 (bestOf x (x :: t)).2
def gapAt (a b c H m r : Int) : Option Hole :=
  if overOf a b c H m r ≤ 0 then none else if overOf a b c H m r ≥ H then some (0, H) else some ((0 - m * b) % H, overOf a b c H m r)
def gapL (a b c H m r : Int) : List Hole := (gapAt a b c H m r).toList
def lineRanks (a b c H m r : Int) : Option (List (List Arc)) := if okShut (roundArcs (gapL a b c H m r) H) = true then
  (ranksGo a b c H (gapL a b c H m r) 20 (roundArcs (gapL a b c H m r) H) (leftOf H (roundArcs (gapL a b c H m r) H))).map fun t => leftOf H (roundArcs (gapL a b c H m r) H) :: t else none

/-! as data -/
def eOpt : Option Int → PyData
  | none => .none
  | some i => .int i
abbrev eArc (a : Arc) : PyData := .tuple [.int a.1, eOpt a.2]
abbrev eArcs (r : List Arc) : PyData := .list (r.map eArc)
abbrev eHole (h : Hole) : PyData := .tuple [.int h.1, .int h.2]
def eWay : Way → PyData
  | .gap => .tuple [.str "gap"]
  | .short k => .tuple [.str "short", .int k]
  | .over k => .tuple [.str "over", .int k]
abbrev eRow (x : Int × Way) : PyData := .tuple [.int x.1, eWay x.2]
def eVer : Ver → PyData
  | .covered => .tuple [.str "ever", .str "covered"]
  | .jumped => .tuple [.str "ever", .str "jumped"]
  | .page m => .tuple [.str "caught", .int m, .tuple [.str "page"]]
  | .caught n w => .tuple [.str "caught", .int n, eWay w]
def eGap : Option Hole → PyData
  | none => .none
  | some h => eHole h
/-- checked numbers -/
def Good (a b c H m r : Int) : Prop := (0 ≤ a ∧ a ≤ b ∧ 1 ≤ b ∧ 0 ≤ c ∧ c ≤ b - a) ∧ (1 ≤ H ∧ 1 ≤ m ∧ 1 ≤ r) ∧ a ≤ 10000 ∧ b ≤ 10000 ∧ c ≤ 10000 ∧ H ≤ 10000 ∧ m ≤ 40 ∧ r ≤ 10
structure LikeOk (a b c H m r : Int) : Prop where
  H3 : 3 ≤ H
  H12 : H ≤ 12
  m1 : 1 ≤ m
  m3 : m ≤ 3
  r1 : 1 ≤ r
  r2 : r ≤ 2
  a0 : 0 ≤ a
  a2 : a < 2 * H
  c0 : 0 ≤ c
  c8 : c ≤ 8
  g0 : a + c ≤ b
  g2 : b ≤ a + c + 2
  b1 : 1 ≤ b
theorem LikeOk.good {a b c H m r : Int} (h : LikeOk a b c H m r) : Good a b c H m r := by
  obtain ⟨h1, h2, h3, h4, h5, h6, h7, h8, h9, h10, h11, h12, h13⟩ := h
  unfold Good
  omega
theorem eqv_isNil (xs : List PyData) : PyData.eqv (.list xs) (.list []) = decide (xs = []) := by
  cases xs <;> simp [PyData.eqv, PyData.eqvAll]
end K77

namespace K77
open PySem Ct Kp
/-! ### the house that goes on for ever -/
def rBegin (a c H page d : Int) : Int := (page - 1) * H - d * (a + c)
def mx (i j : Int) : Int := if j > i then j else i
def rPage (a b c H r line d : Int) : Int := if rBegin a c H (mx 1 ((line + d * b) / H + 2 - r)) d ≤ line then mx 1 ((line + d * b) / H + 2 - r) else (line + d * (a + c)) / H + 1
def bGap (a b c H m r line : Int) : Int := if (line + m * b) % H < overOf a b c H m r ∧ overOf a b c H m r < H then line + overOf a b c H m r - (line + m * b) % H else line
def setLine (a c H k : Int) : Int → List (Int × Int) → Int
  | line, [] => line
  | line, (mark, page) :: ps => setLine a c H k (if mark ≥ k then mx line (rBegin a c H page (mark - k)) else line) ps
abbrev stD (x : Int) (ps : List (Int × Int)) : PyData := .tuple [.int x, .list (ps.map pairT)]
def decP : PyData → Option (Int × Int)
  | .tuple [.int a, .int b] => some (a, b)
  | _ => none
def decPs : List PyData → Option (List (Int × Int))
  | [] => some []
  | d :: ds => match decP d, decPs ds with
    | some p, some ps => some (p :: ps)
    | _, _ => none
theorem decP_eq {d : PyData} {p : Int × Int} (h : decP d = some p) : d = pairT p := by
  unfold decP at h
  split at h
  · cases h; rfl
  · cases h
theorem decPs_eq : ∀ {ds : List PyData} {ps : List (Int × Int)}, decPs ds = some ps → ds = ps.map pairT
  | [], _, h => by cases h; rfl
  | d :: ds, ps, h => by
    unfold decPs at h
    split at h
    · rename_i p qs h1 h2
      cases h
      rw [List.map_cons, ← decP_eq h1, ← decPs_eq h2]
    · cases h
theorem decPs_map : ∀ ps : List (Int × Int), decPs (ps.map pairT) = some ps
  | [] => rfl
  | p :: ps => by
    rw [List.map_cons]
    unfold decPs
    rw [decPs_map ps]
    rfl
def decS : PyData → Option (Int × List (Int × Int))
  | .tuple [.int x, .list ds] => match decPs ds with
    | some ps => if ps.length < 1000 then some (x, ps) else none
    | none => none
  | _ => none
theorem decS_eq {d : PyData} {x : Int} {ps : List (Int × Int)} (h : decS d = some (x, ps)) : d = stD x ps ∧ ps.length < 1000 := by
  unfold decS at h
  split at h
  · split at h
    · rename_i y ds qs hq
      split at h
      · rename_i hl
        cases h
        rw [decPs_eq hq]
        exact ⟨rfl, hl⟩
      · cases h
    · cases h
  · cases h
theorem decS_st {x : Int} {ps : List (Int × Int)} (h : ps.length < 1000) : decS (stD x ps) = some (x, ps) := by
  show (match decPs (ps.map pairT) with
    | some ps => if ps.length < 1000 then some (x, ps) else none
    | none => none) = some (x, ps)
  rw [decPs_map]
  exact if_pos h
def setPad (a b c H m r : Int) (k L x : Int) (ps : List (Int × Int)) : Int :=
  if bGap a b c H m r (setLine a c H k (x + L) ps) - (x + L) > c then 0 else bGap a b c H m r (setLine a c H k (x + L) ps) - (x + L)
def everHS (a b c H m r start : Int) : HS where
  b := stD start []
  t := fun s k line j => match decS s with
    | some (x, ps) => some (stD x (ps ++ [(j, rPage a b c H r line (j - k))]), rPage a b c H r line (j - k), rPage a b c H r line (j - k) + r - 1)
    | none => none
  s := fun s k L => match decS s with
    | some (x, ps) => some (stD (x + L + setPad a b c H m r k L x ps) ps, setPad a b c H m r k L x ps)
    | none => none
abbrev numsD (a b c H m r : Int) : PyData := .tuple [.int a, .int b, .int c, .int H, .int m, .int r]
end K77


namespace K77
open PySem L2 Ct Kp PyProof.Rows
def topS (i : Nat) : Stmt := PySem.Challenge.pw_comestrue_k77_whole_kept_for_ever.main.body.getD i (.Pass ⟨0, 0, 0, 0⟩)
abbrev kClo : Nat := 3
def c_LENGTHS : Int := 10000
def c_PAGE : Int := 10000
def c_LEAD : Int := 40
def c_RANGE : Int := 10
def c_LINES : Int := 1000000
def c_SECTIONS : Int := 60
def c_TELLS : Int := 60
def c_CELLS : Int := 64
def c_HEIGHTS : Int := 1000000000
def fl_Plan : List Str := ["start_line", "page_height", "ruler_told", "range_most", "section_rows", "tell_rows"]
def fl_Play : List Str := ["plan_played", "house_parts", "state_now", "line_rows", "range_rows"]
structure Zs (mg : Str → Option Value) : Prop where
  len : mg "len" = none
  sorted : mg "sorted" = none
  list_ : mg "list" = none
  max : mg "max" = none
  min : mg "min" = none
  isinstance : mg "isinstance" = none
  range_ : mg "range" = none
  enumerate : mg "enumerate" = none
  int_ : mg "int" = none
  sum : mg "sum" = none
  abs : mg "abs" = none
  bool_ : mg "bool" = none
  tuple_ : mg "tuple" = none
abbrev s_is_whole : Stmt := topS 7
abbrev s_whole_from : Stmt := topS 8
abbrev s_is_row : Stmt := topS 9
abbrev s_check_most : Stmt := topS 20
abbrev s_check_numbers : Stmt := topS 21
abbrev s_check_like : Stmt := topS 23
abbrev s_over_of : Stmt := topS 24
abbrev s_remainders_of : Stmt := topS 25
abbrev s_parts_up : Stmt := topS 26
abbrev s_caught_ways : Stmt := topS 27
abbrev s_for_ever : Stmt := topS 28
abbrev s_are_whole : Stmt := topS 32
abbrev s_right_section : Stmt := topS 33
abbrev s_check_lengths_bound : Stmt := topS 34
abbrev s_checked_sections : Stmt := topS 35
abbrev s_checked_tells : Stmt := topS 36
abbrev s_checked_lengths : Stmt := topS 37
abbrev s_is_pages : Stmt := topS 38
abbrev s_like_plan : Stmt := topS 41
abbrev s_range_begin : Stmt := topS 42
abbrev s_range_page : Stmt := topS 43
abbrev s_beyond_gap : Stmt := topS 44
abbrev s_ever_house : Stmt := topS 45
abbrev s_is_range : Stmt := topS 47
abbrev s_played : Stmt := topS 49
abbrev s__law_purse : Stmt := topS 51
abbrev s__law_draw : Stmt := topS 52
abbrev s__law_mix : Stmt := topS 53
abbrev s__law_cell : Stmt := topS 54
abbrev s__law_plan_cell : Stmt := topS 55
abbrev s__law_first_tell : Stmt := topS 56
abbrev s__law_plan_ruler : Stmt := topS 57
abbrev s__law_made_plan : Stmt := topS 58
abbrev s__law_newly_all : Stmt := topS 59
abbrev s__law_play : Stmt := topS 60
abbrev s__law_listed : Stmt := topS 61
abbrev s__law_right_range : Stmt := topS 62
abbrev s__law_over : Stmt := topS 63
abbrev s__law_rest : Stmt := topS 64
abbrev s__law_up : Stmt := topS 65
abbrev s__law_is_gap : Stmt := topS 66
abbrev s__law_forever : Stmt := topS 67
abbrev s__law_like_world : Stmt := topS 68
abbrev s__law_draw_like : Stmt := topS 69
abbrev s__law_draw_verdict : Stmt := topS 70
abbrev s__law_seeker : Stmt := topS 71
abbrev s__law_ranges_hold : Stmt := topS 72
abbrev s__law_course_holds : Stmt := topS 73
abbrev s_law : Stmt := topS 74
abbrev s_Ruler___init__ : Stmt := inClass (topS 30) 0
abbrev s_Ruler_many : Stmt := inClass (topS 30) 1
abbrev s_Ruler_heights : Stmt := inClass (topS 30) 2
abbrev s_Ruler_cell : Stmt := inClass (topS 30) 4
abbrev s_Ruler_first : Stmt := inClass (topS 30) 5
abbrev s_Ruler_last : Stmt := inClass (topS 30) 6
abbrev s_Ruler_check_cell : Stmt := inClass (topS 30) 7
abbrev s_Plan___init__ : Stmt := inClass (topS 39) 0
abbrev s_Plan_start : Stmt := inClass (topS 39) 1
abbrev s_Plan_ruler : Stmt := inClass (topS 39) 2
abbrev s_Plan_range_cells : Stmt := inClass (topS 39) 3
abbrev s_Plan_sections : Stmt := inClass (topS 39) 4
abbrev s_Plan_tells : Stmt := inClass (topS 39) 5
abbrev s_Plan_many : Stmt := inClass (topS 39) 6
abbrev s_Plan_section : Stmt := inClass (topS 39) 7
abbrev s_Plan_check_mark : Stmt := inClass (topS 39) 9
abbrev s_Plan_cell : Stmt := inClass (topS 39) 10
abbrev s_Plan_has_cell : Stmt := inClass (topS 39) 11
abbrev s_Plan_first : Stmt := inClass (topS 39) 12
abbrev s_Plan_last : Stmt := inClass (topS 39) 13
abbrev s_Plan_told_marks : Stmt := inClass (topS 39) 15
abbrev s_Plan_first_tell : Stmt := inClass (topS 39) 17
abbrev s_Plan_rows : Stmt := inClass (topS 39) 20
abbrev s_Play___init__ : Stmt := inClass (topS 48) 0
abbrev s_Play_asks : Stmt := inClass (topS 48) 1
abbrev s_Play_passes : Stmt := inClass (topS 48) 2
abbrev s_Play_ending : Stmt := inClass (topS 48) 3
abbrev s_ever_house__begin_run : Stmt := inDef s_ever_house 2
abbrev s_ever_house__tell_range : Stmt := inDef s_ever_house 3
abbrev s_ever_house__set_section : Stmt := inDef s_ever_house 4
abbrev s__law_listed___law_next_length : Stmt := inDef s__law_listed 0
abbrev s__law_seeker___law_seeks : Stmt := inDef s__law_seeker 0
end K77

namespace K77
open PySem L2 Ct Kp PyProof.Rows
/-! is_whole -/
def wholeD : PyData → Bool
  | .int _ => true
  | _ => false
def pre_is_whole : Pre := fun xs st Φ => ∃ d, xs = [.pd d] ∧ (∃ i, d = .int i) ∧ Φ (.pd (.bool true)) st
/-! whole_from -/
def pre_whole_from : Pre := fun xs st Φ => ∃ i j, xs = [.pd (.int i), .pd (.int j)] ∧ Φ (.pd (.bool (decide (j ≤ i)))) st
/-! check_most -/
def pre_check_most : Pre := fun xs st Φ => ∃ w i m, xs = [.pd w, .pd (.int i), .pd (.int m)] ∧ i ≤ m ∧ Φ (.pd .none) st
/-! check_numbers -/
def pre_check_numbers : Pre := fun xs st Φ => ∃ (w : PyData) (ns : List Int) (m : Int) (D : PyData), xs = [.pd w, .pd D, .pd (.int m)] ∧ (D = .list (ns.map PyData.int) ∨ D = .tuple (ns.map PyData.int)) ∧ (∀ n ∈ ns, n ≤ m) ∧ Φ (.pd .none) st
/-! check_like -/
def pre_check_like : Pre := fun xs st Φ => ∃ a b c H m r : Int, xs = [.pd (.int a), .pd (.int b), .pd (.int c), .pd (.int H), .pd (.int m), .pd (.int r)] ∧ Good a b c H m r ∧ Φ (.pd .none) st
/-! over_of -/
def pre_over_of : Pre := fun xs st Φ => ∃ a b c H m r : Int, xs = [.pd (.int a), .pd (.int b), .pd (.int c), .pd (.int H), .pd (.int m), .pd (.int r)] ∧ Good a b c H m r ∧ Φ (.pd (.int (overOf a b c H m r))) st
/-! remainders_of -/
abbrev eII (x : Int × Int) : PyData := .tuple [.int x.1, .int x.2]
def pre_remainders_of : Pre := fun xs st Φ => ∃ a b c H m : Int, xs = [.pd (.int a), .pd (.int b), .pd (.int c), .pd (.int H), .pd (.int m)] ∧ Good a b c H m 1 ∧ Φ (.pd (.list ((rems a b c H m).map eII))) st
/-! parts_up -/
def pre_parts_up : Pre := fun xs st Φ => ∃ n p : Int, xs = [.pd (.int n), .pd (.int p)] ∧ 0 < p ∧ p < 1000000 ∧ Φ (.pd (.int (partsUp n p))) st
/-! caught_ways -/
def pre_caught_ways : Pre := fun xs st Φ => ∃ a b c H m over : Int, xs = [.pd (.int a), .pd (.int b), .pd (.int c), .pd (.int H), .pd (.int m), .pd (.int over)] ∧ Good a b c H m 1 ∧ 0 < over ∧ over < H ∧ 0 < b - a - c ∧ Φ (.pd (.list ((caughtWays a b c H m over).map eRow))) st
theorem waysS_le (H m over : Int) : ∀ (k : Int) (l : List (Int × Int)), (waysS H m over k l).length ≤ l.length
  | _, [] => Nat.le_refl _
  | k, (s, y) :: t => by
    unfold waysS
    have h := waysS_le H m over (k + 1) t
    rw [List.length_append, List.length_cons]
    split <;> simp <;> omega
theorem waysO_le (H m over : Int) : ∀ (k : Int) (l : List (Int × Int)), (waysO H m over k l).length ≤ l.length
  | _, [] => Nat.le_refl _
  | k, (s, y) :: t => by
    unfold waysO
    have h := waysO_le H m over (k + 1) t
    rw [List.length_append, List.length_cons]
    split <;> simp <;> omega
theorem rems_len (a b c H m : Int) : (rems a b c H m).length = m.toNat := by simp [rems]
theorem rems_bd {a b c H m : Int} (hH : 0 < H) {i : Nat} {x : Int × Int} (h : (rems a b c H m)[i]? = some x) : (0 ≤ x.1 ∧ x.1 < H) ∧ 0 ≤ x.2 ∧ x.2 < H := by
  have hm := List.mem_of_getElem? h
  unfold rems at hm
  obtain ⟨j, _, rfl⟩ := List.mem_map.mp hm
  exact ⟨⟨Int.emod_nonneg _ (by omega), Int.emod_lt_of_pos _ hH⟩, Int.emod_nonneg _ (by omega), Int.emod_lt_of_pos _ hH⟩
theorem snoc_row (made : List (Int × Way)) (x : Int × Way) {d : PyData} (e : eRow x = d) : made.map eRow ++ [d] = (made ++ [x]).map eRow := by rw [List.map_append, ← e]; rfl
/-! for_ever -/
def pre_for_ever : Pre := fun xs st Φ => ∃ a b c H m r : Int, xs = [.pd (.int a), .pd (.int b), .pd (.int c), .pd (.int H), .pd (.int m), .pd (.int r)] ∧ Good a b c H m r ∧ Φ (.pd (eVer (forEver a b c H m r))) st
theorem bestOf_snoc : ∀ (l : List (Int × Way)) (b x : Int × Way), bestOf b (l ++ [x]) = if x.1 < (bestOf b l).1 then x else bestOf b l
  | [], b, x => rfl
  | y :: l, b, x => bestOf_snoc l (if y.1 < b.1 then y else b) x
/-! _law_purse -/
def pre__law_purse : Pre := fun xs st Φ => ∃ (ns : List Int) (at_ : Int), xs = [.pd (.list (ns.map PyData.int)), .pd (.int at_)] ∧ ns.length ≤ 63 ∧ 0 ≤ at_ ∧ at_ ≤ 1 ∧ ∀ p0 p1 : Int, Φ (.cell st.length) (st ++ [.mu [.int p0, .int p1, .int at_]])
theorem at_int {ns : List Int} {i : Int} (h : 0 ≤ i) (h2 : i < ns.length) : ∃ v, atI (ns.map PyData.int) i = some (.int v) := by
  obtain ⟨j, rfl⟩ : ∃ j : Nat, i = (j : Int) := ⟨i.toNat, by omega⟩
  have hj : j < ns.length := by omega
  refine ⟨ns[j], atI_nat ?_⟩
  rw [List.getElem?_map, List.getElem?_eq_getElem hj]
  rfl
theorem cut_ints (ns : List Int) (lo hi : Option Int) : ∃ ms : List Int, Ct.cutD (ns.map PyData.int) lo hi = ms.map PyData.int ∧ ms.length ≤ ns.length := by
  unfold Ct.cutD
  rw [← List.map_drop, ← List.map_take]
  exact ⟨_, rfl, by rw [List.length_take, List.length_drop]; omega⟩
/-! _law_draw -/
def pre__law_draw : Pre := fun xs st Φ => ∃ (n : Nat) (many : Int), xs = [.cell n, .pd (.int many)] ∧ 0 < many ∧ many < 1000000 ∧ Pur st n ∧ ∀ (v : Int) (st' : Sto), 0 ≤ v → v < many → Only st st' n → Pur st' n → Φ (.pd (.int v)) st'
/-! _law_over -/
def Likes (a b c H m r : Int) : PyData := .list [.int a, .int b, .int c, .int H, .int m, .int r]
def pre__law_over : Pre := fun xs st Φ => ∃ a b c H m r : Int, xs = [.pd (.list [.int a, .int b, .int c, .int H, .int m, .int r])] ∧ Good a b c H m r ∧ Φ (.pd (.int (overOf a b c H m r))) st
/-! _law_rest -/
def pre__law_rest : Pre := fun xs st Φ => ∃ n p : Int, xs = [.pd (.int n), .pd (.int p)] ∧ 0 < p ∧ Φ (.pd (.int (n % p))) st
/-! _law_up -/
theorem up_eq {n p : Int} (h : 0 < p) : partsUp n p = if n / p * p = n then n / p else n / p + 1 := by
  unfold partsUp
  have h1 := Int.emod_add_mul_ediv n p
  have h2 := Int.emod_nonneg n (show p ≠ 0 by omega)
  have h3 := Int.emod_lt_of_pos n h
  have hc : n / p * p = p * (n / p) := Int.mul_comm _ _
  split
  · rename_i he
    rw [show n + p - 1 = (p - 1) + p * (n / p) by omega, Int.add_mul_ediv_left _ _ (by omega), Int.ediv_eq_zero_of_lt (by omega) (by omega)]
    omega
  · rename_i he
    rw [show n + p - 1 = (n % p - 1) + p * (n / p + 1) by rw [Int.mul_add]; omega, Int.add_mul_ediv_left _ _ (by omega), Int.ediv_eq_zero_of_lt (by omega) (by omega)]
    omega
def pre__law_up : Pre := fun xs st Φ => ∃ n p : Int, xs = [.pd (.int n), .pd (.int p)] ∧ 0 < p ∧ p < 1000000 ∧ Φ (.pd (.int (partsUp n p))) st
/-! _law_forever -/
def pre__law_forever : Pre := fun xs st Φ => ∃ a b c H m r : Int, xs = [.pd (.list [.int a, .int b, .int c, .int H, .int m, .int r])] ∧ Good a b c H m r ∧ Φ (.pd (eVer (forEver a b c H m r))) st
theorem sh_str {k : Nat} (s : Str) (h : (PyData.str s).canLay0 = true) : Sh k (.str s) := ⟨h, by simp [PyData.depth]⟩
theorem sh_way {k : Nat} (w : Way) : Sh (k + 1) (eWay w) := by
  cases w with
  | gap => exact sh_tuple fun e he => by rw [List.mem_singleton.mp he]; exact sh_str _ (by decide +kernel)
  | short k =>
    refine sh_tuple fun e he => ?_
    rcases List.mem_cons.mp he with rfl | he
    · exact sh_str _ (by decide +kernel)
    · rw [List.mem_singleton.mp he]
      exact sh_int _
  | over k =>
    refine sh_tuple fun e he => ?_
    rcases List.mem_cons.mp he with rfl | he
    · exact sh_str _ (by decide +kernel)
    · rw [List.mem_singleton.mp he]
      exact sh_int _
theorem sh_rows (W : List (Int × Way)) : SeqAt.shaped (.list (W.map eRow)) = true := Sh.shaped (k := 3) (sh_list fun d hd => by
  obtain ⟨x, _, rfl⟩ := List.mem_map.mp hd
  refine sh_tuple fun e he => ?_
  rcases List.mem_cons.mp he with rfl | he
  · exact sh_int _
  · rw [List.mem_singleton.mp he]
    exact sh_way _)
def rowN : PyData → Option PyData
  | .tuple [n, _] => some n
  | _ => none
theorem rowN_map : ∀ l : List (Int × Way), (l.map eRow).filterMap rowN = (l.map Prod.fst).map PyData.int
  | [] => rfl
  | x :: t => by
    have ih := rowN_map t
    rw [List.map_cons, List.filterMap_cons, ih]
    rfl
def rowC (least : Int) : PyData → Option PyData
  | .tuple [.int n, w] => if n = least then some (.tuple [.str "caught", .int n, w]) else none
  | _ => none
theorem rowC_eq (least : Int) (x : Int × Way) : rowC least (eRow x) = if x.1 = least then some (eVer (.caught x.1 x.2)) else none := rfl
theorem rowC_map (least : Int) : ∀ l : List (Int × Way), (l.map eRow).filterMap (rowC least) = (l.filter fun y => decide (y.1 = least)).map fun x => eVer (.caught x.1 x.2)
  | [] => rfl
  | x :: t => by
    have ih := rowC_map least t
    rw [List.map_cons, List.filterMap_cons, rowC_eq, ih, List.filter_cons]
    by_cases h : x.1 = least
    · rw [if_pos h, if_pos (decide_eq_true h)]
      rfl
    · rw [if_neg h, if_neg (by simpa using h)]
theorem best_min {least : Int} : ∀ (l : List (Int × Way)) (b : Int × Way), least ≤ b.1 → (∀ y ∈ l, least ≤ y.1) → (b.1 = least ∨ ∃ y ∈ l, y.1 = least) → ∃ t, (b :: l).filter (fun y => decide (y.1 = least)) = bestOf b l :: t
  | [], b, h1, h2, h3 => by
    rcases h3 with h | ⟨y, hy, _⟩
    · exact ⟨[], by rw [List.filter_cons_of_pos (by simpa using h)]; rfl⟩
    · cases hy
  | y :: l, b, h1, h2, h3 => by
    have hy := h2 y (List.mem_cons_self ..)
    have hl := fun z (hz : z ∈ l) => h2 z (List.mem_cons_of_mem _ hz)
    show ∃ t, _ = bestOf (if y.1 < b.1 then y else b) l :: t
    by_cases h : y.1 < b.1
    · rw [if_pos h, List.filter_cons_of_neg (by simp; omega)]
      refine best_min l y hy hl ?_
      rcases h3 with h3 | ⟨z, hz, e⟩
      · omega
      · rcases List.mem_cons.mp hz with rfl | hz
        · exact .inl e
        · exact .inr ⟨z, hz, e⟩
    · rw [if_neg h]
      by_cases hb : b.1 = least
      · obtain ⟨t, ht⟩ := best_min l b h1 hl (.inl hb)
        rw [List.filter_cons_of_pos (by simpa using hb)] at ht ⊢
        exact ⟨_, by rw [← (List.cons.inj ht).1]⟩
      · obtain ⟨t, ht⟩ := best_min l b h1 hl (by
          rcases h3 with h3 | ⟨z, hz, e⟩
          · exact absurd h3 hb
          · rcases List.mem_cons.mp hz with rfl | hz
            · omega
            · exact .inr ⟨z, hz, e⟩)
        rw [List.filter_cons_of_neg (by simpa using hb)] at ht ⊢
        rw [List.filter_cons_of_neg (by simp; omega)]
        exact ⟨t, ht⟩
theorem rems_get {a b c H m : Int} {i : Nat} (h : i < m.toNat) : (rems a b c H m)[i]? = some ((1 + (i : Int)) * (a + c) % H, (1 + (i : Int)) * b % H) := by
  unfold rems
  rw [List.getElem?_map, List.getElem?_range h]
  rfl
/-! _law_draw_like -/
def pre__law_draw_like : Pre := fun xs st Φ => ∃ n : Nat, xs = [.cell n] ∧ Pur st n ∧ ∀ (a b c H m r : Int) (st' : Sto), LikeOk a b c H m r → Only st st' n → Pur st' n → Φ (.pd (.list [.int a, .int b, .int c, .int H, .int m, .int r])) st'
theorem mul_small {m g : Int} (m1 : 1 ≤ m) (m3 : m ≤ 3) (g0 : 0 ≤ g) (g2 : g ≤ 2) : 0 ≤ m * g ∧ m * g ≤ 6 := by
  obtain rfl | rfl | rfl : m = 1 ∨ m = 2 ∨ m = 3 := by omega
  all_goals omega
/-! _law_draw_verdict -/
def pre__law_draw_verdict : Pre := fun xs st Φ => ∃ n : Nat, xs = [.cell n, .pd (.str "ever"), .pd (.int 0)] ∧ Pur st n ∧ ∀ (a b c H m r : Int) (st' : Sto), LikeOk a b c H m r → isC (forEver a b c H m r) = false → Only st st' n → Pur st' n → Φ (.pd (.list [.int a, .int b, .int c, .int H, .int m, .int r])) st'
theorem ver_word (v : Ver) : ∃ (s : Str) (rest : List PyData), eVer v = .tuple (.str s :: rest) ∧ ((s = "ever" ∧ isC v = false) ∨ s = "caught") := by
  cases v with
  | covered => exact ⟨_, _, rfl, .inl ⟨rfl, rfl⟩⟩
  | jumped => exact ⟨_, _, rfl, .inl ⟨rfl, rfl⟩⟩
  | page m => exact ⟨_, _, rfl, .inr rfl⟩
  | caught n w => exact ⟨_, _, rfl, .inr rfl⟩
/-! is_row -/
def Row (D : PyData) (ds : List PyData) : Prop := D = .list ds ∨ D = .tuple ds
def pre_is_row : Pre := fun xs st Φ => ∃ D ds, xs = [.pd D] ∧ Row D ds ∧ Φ (.pd (.bool true)) st
/-! are_whole -/
def pre_are_whole : Pre := fun xs st Φ => ∃ (D : PyData) (ns : List Int), xs = [.pd D, .pd (.int ((ns.length : Nat) : Int))] ∧ Row D (ns.map PyData.int) ∧ ns.length ≤ 1000 ∧ Φ (.pd (.bool true)) st
theorem inD_false (n : Nat) : inD (.bool false) (List.replicate n (.bool true)) = false := by
  unfold inD
  rw [List.any_eq_false]
  intro x hx
  rw [(List.mem_replicate.mp hx).2]
  simp [PyData.eqv]
/-! right_section -/
def pre_right_section : Pre := fun xs st Φ => ∃ (D : PyData) (a b c : Int), xs = [.pd D] ∧ Row D [.int a, .int b, .int c] ∧ (0 ≤ a ∧ a ≤ b ∧ 0 ≤ c ∧ c ≤ b - a) ∧ Φ (.pd (.bool true)) st
/-! check_lengths_bound -/
def pre_check_lengths_bound : Pre := fun xs st Φ => ∃ ss : List Sec, xs = [.pd (.list (ss.map secD))] ∧ (∀ s ∈ ss, SecOk s) ∧ Φ (.pd .none) st
/-! checked_sections -/
def pre_checked_sections : Pre := fun xs st Φ => ∃ ss : List Sec, xs = [.pd (.list (ss.map secD))] ∧ (∀ s ∈ ss, SecOk s) ∧ ss.length ≤ 1000 ∧ Φ (.pd (.list (ss.map secD))) st
/-! checked_tells -/
abbrev TellsOk (ts : List (Int × Int)) (many : Int) : Prop := (∀ t ∈ ts, 0 ≤ t.1 ∧ t.1 < t.2 ∧ t.2 ≤ many) ∧ ts.Pairwise fun a b => a.1 < b.1 ∨ (a.1 = b.1 ∧ a.2 < b.2)
def pre_checked_tells : Pre := fun xs st Φ => ∃ (ts : List (Int × Int)) (many : Int), xs = [.pd (.list (ts.map pairT)), .pd (.int many)] ∧ TellsOk ts many ∧ ts.length ≤ 1000 ∧ Φ (.pd (.list (ts.map pairT))) st
theorem lexB_iff (p q : Int × Int) : SrtO.lexB p q = true ↔ (p.1 < q.1 ∨ (p.1 = q.1 ∧ p.2 < q.2)) := by
  obtain ⟨a, b⟩ := p
  obtain ⟨c, d⟩ := q
  simp only [SrtO.lexB]
  split <;> simp <;> omega
theorem srt_eq : ∀ {qs ts : List (Int × Int)}, qs.Perm ts → qs.Pairwise (fun p q => SrtO.lexB q p = false) → (ts.Pairwise fun a b => a.1 < b.1 ∨ (a.1 = b.1 ∧ a.2 < b.2)) → qs = ts := by
  intro qs ts hp h1 h2
  refine hp.eq_of_pairwise (le := fun a b => a.1 < b.1 ∨ (a.1 = b.1 ∧ a.2 ≤ b.2)) ?_ ?_ ?_
  · rintro ⟨a, b⟩ ⟨c, d⟩ _ _ h3 h4
    simp only at h3 h4
    refine Prod.ext ?_ ?_ <;> show _ = _ <;> simp only <;> omega
  · refine h1.imp ?_
    rintro ⟨a, b⟩ ⟨c, d⟩ h
    have h : ¬ (c < a ∨ (c = a ∧ d < b)) := fun z => by
      rw [(lexB_iff (c, d) (a, b)).mpr z] at h
      cases h
    show a < c ∨ (a = c ∧ b ≤ d)
    omega
  · refine h2.imp ?_
    rintro ⟨a, b⟩ ⟨c, d⟩ h
    simp only at h ⊢
    omega
/-! is_pages -/
def pre_is_pages : Pre := fun xs st Φ => ∃ H : Int, xs = [.pd (pagesD H)] ∧ Φ (.pd (.bool true)) st
/-! Plan_start -/
def pre_Plan_start (K : PySem.W.Frag) (C_Plan : Addr) : Pre := fun xs st Φ => ∃ p : PlanR, xs = [planO K C_Plan p] ∧ Φ (.pd (.int p.s)) st
/-! Plan_range_cells -/
def pre_Plan_range_cells (K : PySem.W.Frag) (C_Plan : Addr) : Pre := fun xs st Φ => ∃ p : PlanR, xs = [planO K C_Plan p] ∧ Φ (.pd (.int p.r)) st
/-! Plan_sections -/
def pre_Plan_sections (K : PySem.W.Frag) (C_Plan : Addr) : Pre := fun xs st Φ => ∃ p : PlanR, xs = [planO K C_Plan p] ∧ Φ (.pd (.list (p.ss.map secD))) st
/-! Plan_tells -/
def pre_Plan_tells (K : PySem.W.Frag) (C_Plan : Addr) : Pre := fun xs st Φ => ∃ p : PlanR, xs = [planO K C_Plan p] ∧ Φ (.pd (.list (p.ts.map pairT))) st
/-! Plan_many -/
def pre_Plan_many (K : PySem.W.Frag) (C_Plan : Addr) : Pre := fun xs st Φ => ∃ p : PlanR, xs = [planO K C_Plan p] ∧ Φ (.pd (.int p.ss.length)) st
/-! Plan_section -/
def pre_Plan_section (K : PySem.W.Frag) (C_Plan : Addr) : Pre := fun xs st Φ => ∃ (p : PlanR) (i : Nat) (s : Sec), xs = [planO K C_Plan p, .pd (.int (1 + (i : Int)))] ∧ p.ss[i]? = some s ∧ Φ (.pd (secD s)) st
/-! Plan_check_mark -/
def pre_Plan_check_mark (K : PySem.W.Frag) (C_Plan : Addr) : Pre := fun xs st Φ => ∃ (p : PlanR) (m : Int), xs = [planO K C_Plan p, .pd (.int m)] ∧ (0 ≤ m ∧ m ≤ p.ss.length) ∧ Φ (.pd .none) st
/-! Plan_cell -/
def pre_Plan_cell (K : PySem.W.Frag) (C_Plan : Addr) : Pre := fun xs st Φ => ∃ (p : PlanR) (l : Int), xs = [planO K C_Plan p, .pd (.int l)] ∧ 0 ≤ l ∧ 1 ≤ p.H ∧ p.H ≤ 10000 ∧ Φ (.pd (.int (l / p.H + 1))) st
/-! Plan_has_cell -/
def pre_Plan_has_cell (K : PySem.W.Frag) (C_Plan : Addr) : Pre := fun xs st Φ => ∃ (p : PlanR) (l : Int), xs = [planO K C_Plan p, .pd (.int l)] ∧ Φ (.pd (.bool (decide (1 ≤ l)))) st
/-! Plan_first_tell -/
def oI : Option Int → PyData
  | none => .none
  | some i => .int i
def pre_Plan_first_tell (K : PySem.W.Frag) (C_Plan : Addr) : Pre := fun xs st Φ => ∃ (p : PlanR) (m : Int), xs = [planO K C_Plan p, .pd (.int m)] ∧ Φ (.pd (oI (firstTell p.ts m))) st
/-! Plan_told_marks -/
theorem marks_eq {p : PlanR} {t : Int} (h : ∀ x ∈ p.ts, 0 ≤ x.1 ∧ x.1 < x.2) (ht : 0 ≤ t) : ((List.range ((p.ss.length : Int) + 1 - (t + 1)).toNat).map fun (i : Nat) => t + 1 + (i : Int)).filter (fun j => decide (firstTell p.ts j = some t)) = marksAt p t := by
  have hlt : ∀ j, firstTell p.ts j = some t → t < j := fun j e => by
    unfold firstTell at e
    rw [Option.map_eq_some_iff] at e
    obtain ⟨x, e1, e2⟩ := e
    have h1 := List.mem_of_find?_eq_some e1
    have h2 := List.find?_some e1
    have h3 := h x h1
    have h4 := of_decide_eq_true h2
    omega
  unfold marksAt
  by_cases hb : t ≤ p.ss.length
  · obtain ⟨u, rfl⟩ : ∃ u : Nat, t = u := ⟨t.toNat, by omega⟩
    have hu : u ≤ p.ss.length := by omega
    have e : (List.range p.ss.length) = List.range u ++ (List.range (p.ss.length - u)).map (u + ·) := by
      rw [← List.range_add, Nat.add_sub_cancel' hu]
    rw [e, List.map_append, List.filter_append, show ((p.ss.length : Int) + 1 - ((u : Int) + 1)).toNat = p.ss.length - u by omega, List.map_map]
    have e1 : ((List.range u).map fun (i : Nat) => 1 + (i : Int)).filter (fun j => decide (firstTell p.ts j = some (u : Int))) = [] := by
      rw [List.filter_eq_nil_iff]
      intro j hj z
      obtain ⟨i, hi, rfl⟩ := List.mem_map.mp hj
      have := hlt _ (of_decide_eq_true z)
      have := List.mem_range.mp hi
      omega
    rw [e1, List.nil_append]
    congr 1
    refine List.map_congr_left fun i _ => ?_
    show (u : Int) + 1 + (i : Int) = 1 + ((u + i : Nat) : Int)
    omega
  · rw [show ((p.ss.length : Int) + 1 - (t + 1)).toNat = 0 by omega]
    symm
    rw [List.range_zero, List.map_nil, List.filter_nil, List.filter_eq_nil_iff]
    intro j hj z
    obtain ⟨i, hi, rfl⟩ := List.mem_map.mp hj
    have := hlt _ (of_decide_eq_true z)
    have := List.mem_range.mp hi
    omega
theorem filt_rng (n : Nat) (lo : Int) (f : Int → Bool) : ((List.range n).filterMap fun (i : Nat) => if f (lo + (i : Int)) = true then some (PyData.int (lo + (i : Int))) else none) = (((List.range n).map fun (i : Nat) => lo + (i : Int)).filter f).map PyData.int := by
  generalize List.range n = l
  induction l with
  | nil => rfl
  | cons i l ih =>
    rw [List.filterMap_cons, List.map_cons, List.filter_cons, ih]
    by_cases h : f (lo + (i : Int)) = true
    · simp [h]
    · simp [h]
def pre_Plan_told_marks (K : PySem.W.Frag) (C_Plan : Addr) : Pre := fun xs st Φ => ∃ (p : PlanR) (t : Int), xs = [planO K C_Plan p, .pd (.int t)] ∧ (0 ≤ t ∧ t ≤ p.ss.length) ∧ (∀ x ∈ p.ts, 0 ≤ x.1 ∧ x.1 < x.2) ∧ p.ss.length ≤ 1000 ∧ Φ (.pd (.list ((marksAt p t).map PyData.int))) st
/-! Plan___init__ -/
def pre_Plan___init__ (C_Plan : Addr) : Pre := fun xs st Φ => ∃ (n : Nat) (p : PlanR), xs = [.cell n, .pd (.int p.s), .pd (pagesD p.H), .pd (.int p.r), .pd (.list (p.ss.map secD)), .pd (.list (p.ts.map pairT))] ∧ st[n]? = some (.ins C_Plan []) ∧ PlanOk p ∧ Φ (.pd .none) (st.set n (.ins C_Plan (planF p)))
theorem set_set {st : Sto} {n : Nat} {a b : Cell} : (st.set n a).set n b = st.set n b := List.set_set ..
/-! Plan_rows -/
def pre_Plan_rows (K : PySem.W.Frag) (C_Plan : Addr) : Pre := fun xs st Φ => ∃ p : PlanR, xs = [planO K C_Plan p] ∧ Φ (.pd (.tuple [.int p.s, pagesD p.H, .int p.r, .list (p.ss.map secD), .list (p.ts.map pairT)])) st
/-! like_plan -/
def likeP (a b c H m r N start : Int) : PlanR := ⟨start, H, r, List.replicate N.toNat (a, b, c), (List.range (N - m + 1).toNat).map fun (i : Nat) => ((i : Int), (i : Int) + m)⟩
theorem likeP_ok {a b c H m r N start : Int} (G : Good a b c H m r) (h1 : 0 ≤ start) (h2 : start ≤ 1000000) (h3 : 0 ≤ N) (h4 : N ≤ 60) : PlanOk (likeP a b c H m r N start) := by
  obtain ⟨⟨g1, g2, g3, g4, g5⟩, ⟨g6, g7, g8⟩, g9, g10, g11, g12, g13, g14⟩ := G
  refine ⟨h1, h2, g6, g12, g8, g14, by simp [likeP]; omega, by simp [likeP]; omega, fun s hs => ?_, fun t ht => ?_, ?_⟩
  · rw [(List.mem_replicate.mp hs).2]
    exact ⟨g1, g2, g4, g5, g10⟩
  · obtain ⟨i, hi, rfl⟩ := List.mem_map.mp ht
    have := List.mem_range.mp hi
    simp only [likeP, List.length_replicate]
    omega
  · show ((List.range _).map _).Pairwise _
    rw [List.pairwise_map]
    refine (List.pairwise_lt_range (n := (N - m + 1).toNat)).imp ?_
    intro x y hxy
    left
    show (x : Int) < y
    omega
def pre_like_plan (K : PySem.W.Frag) (C_Plan : Addr) : Pre := fun xs st Φ => ∃ a b c H m r N start : Int, xs = [.pd (.int a), .pd (.int b), .pd (.int c), .pd (.int H), .pd (.int m), .pd (.int r), .pd (.int N), .pd (.int start)] ∧ Good a b c H m r ∧ (0 ≤ start ∧ start ≤ 1000000) ∧ (0 ≤ N ∧ N ≤ 60) ∧ Φ (planO K C_Plan (likeP a b c H m r N start)) st
theorem rep_flat {α β : Type} (f : α → β) (x : α) : ∀ n : Nat, (List.replicate n [f x]).flatten = (List.replicate n x).map f
  | 0 => rfl
  | n + 1 => by rw [List.replicate_succ, List.replicate_succ, List.flatten_cons, rep_flat f x n]; rfl
theorem fm_map {α β : Type} (f : α → β) (l : List α) : l.filterMap (fun x => some (f x)) = l.map f := by rw [← List.filterMap_eq_map]; rfl
/-! range_begin -/
def pre_range_begin : Pre := fun xs st Φ => ∃ a b c H m r page d : Int, xs = [.pd (numsD a b c H m r), .pd (.int page), .pd (.int d)] ∧ Good a b c H m r ∧ Φ (.pd (.int (rBegin a c H page d))) st
/-! range_page -/
def pre_range_page : Pre := fun xs st Φ => ∃ a b c H m r line d : Int, xs = [.pd (numsD a b c H m r), .pd (.int line), .pd (.int d)] ∧ Good a b c H m r ∧ Φ (.pd (.int (rPage a b c H r line d))) st
/-! beyond_gap -/
def pre_beyond_gap : Pre := fun xs st Φ => ∃ a b c H m r line : Int, xs = [.pd (numsD a b c H m r), .pd (.int line)] ∧ Good a b c H m r ∧ Φ (.pd (.int (bGap a b c H m r line))) st
/-! ever_house__begin_run -/
def pre_ever_house__begin_run (K : PySem.W.Frag) (C_Plan : Addr) : Pre := fun xs st Φ => ∃ p : PlanR, xs = [planO K C_Plan p] ∧ Φ (.pd (stD p.s [])) st
/-! ever_house__tell_range -/
def pre_ever_house__tell_range : Pre := fun xs st Φ => ∃ a b c H m r x : Int, ∃ (ps : List (Int × Int)) (k line j : Int), xs = [.pd (stD x ps), .pd (.int k), .pd (.int line), .pd (.int j), .pd (numsD a b c H m r), .pd (.int r)] ∧ Good a b c H m r ∧ ps.length < 1000 ∧
  Φ (.pd (.tuple [stD x (ps ++ [(j, rPage a b c H r line (j - k))]), .int (rPage a b c H r line (j - k)), .int (rPage a b c H r line (j - k) + r - 1)])) st
/-! ever_house__set_section -/
def pre_ever_house__set_section : Pre := fun xs st Φ => ∃ a b c H m r x : Int, ∃ (ps : List (Int × Int)) (k L : Int), xs = [.pd (stD x ps), .pd (.int k), .pd (.int L), .pd (.int c), .pd (numsD a b c H m r)] ∧ Good a b c H m r ∧ ps.length < 1000 ∧
  Φ (.pd (.tuple [stD (x + L + setPad a b c H m r k L x ps) ps, .int (setPad a b c H m r k L x ps)])) st
/-! ever_house -/
abbrev evB (K : PySem.W.Frag) : Val := .ob (cloO K s_ever_house__begin_run "begin_run" "ever_house.<locals>.begin_run" [] [])
abbrev evT (K : PySem.W.Frag) (a b c H m r : Int) : Val := .ob (cloO K s_ever_house__tell_range "tell_range" "ever_house.<locals>.tell_range" ["numbers", "r"] [.pd (numsD a b c H m r), .pd (.int r)])
abbrev evS (K : PySem.W.Frag) (a b c H m r : Int) : Val := .ob (cloO K s_ever_house__set_section "set_section" "ever_house.<locals>.set_section" ["c", "numbers"] [.pd (.int c), .pd (numsD a b c H m r)])
def pre_ever_house (K : PySem.W.Frag) : Pre := fun xs st Φ => ∃ a b c H m r : Int, xs = [.pd (.int a), .pd (.int b), .pd (.int c), .pd (.int H), .pd (.int m), .pd (.int r)] ∧ Good a b c H m r ∧ Φ (.cell st.length) (st ++ [.ml [evB K, evT K a b c H m r, evS K a b c H m r]])
end K77

namespace K77
open PySem L2 Ct Kp PyProof.Rows
/-! checked_lengths -/
def pre_checked_lengths : Pre := fun xs st Φ => ∃ (ss : List Sec) (Ls : List Int), xs = [.pd (.list (ss.map secD)), .pd (.list (Ls.map PyData.int))] ∧ Ls.length = ss.length ∧ (∀ (i : Nat) (s : Sec) (L : Int), ss[i]? = some s → Ls[i]? = some L → s.1 ≤ L ∧ L ≤ s.2.1) ∧ Φ (.pd .none) st
/-! is_range -/
def pre_is_range (K : PySem.W.Frag) (C_Plan : Addr) : Pre := fun xs st Φ => ∃ (p : PlanR) (f l : Int), xs = [planO K C_Plan p, .pd (.int f), .pd (.int l)] ∧ Φ (.pd (.bool (rightR p.r f l))) st
/-! _law_right_range -/
def pre__law_right_range : Pre := fun xs st Φ => ∃ (p : PlanR) (f l : Int), xs = [.pd (worldD p), .pd (.int f), .pd (.int l)] ∧ Φ (.pd (.bool (rightR p.r f l))) st
/-! _law_is_gap -/
def isGap (a b c H m r line : Int) : Bool := decide (r ≤ (line + m * b) / H - (line + m * (a + c)) / H)
abbrev likeD (a b c H m r : Int) : PyData := .list [.int a, .int b, .int c, .int H, .int m, .int r]
def pre__law_is_gap : Pre := fun xs st Φ => ∃ a b c H m r line : Int, xs = [.pd (likeD a b c H m r), .pd (.int line)] ∧ Good a b c H m r ∧ Φ (.pd (.bool (isGap a b c H m r line))) st
/-! _law_like_world -/
def pre__law_like_world : Pre := fun xs st Φ => ∃ a b c H m r N start : Int, xs = [.pd (likeD a b c H m r), .pd (.int N), .pd (.int start)] ∧ (0 ≤ N ∧ N ≤ 60 ∧ 1 ≤ m ∧ m ≤ 40) ∧ Φ (.pd (worldD (likeP a b c H m r N start))) st
/-! _law_plan_cell -/
def pre__law_plan_cell : Pre := fun xs st Φ => ∃ H l : Int, xs = [.pd (pagesD H), .pd (.int l)] ∧ (1 ≤ H ∧ H ≤ 10000) ∧ Φ (.pd (.int (l / H + 1))) st
/-! _law_plan_ruler -/
def pre__law_plan_ruler : Pre := fun xs st Φ => ∃ H : Int, xs = [.pd (pagesD H)] ∧ Φ (.pd (pagesD H)) st
/-! _law_made_plan -/
def pre__law_made_plan (K : PySem.W.Frag) (C_Plan : Addr) : Pre := fun xs st Φ => ∃ p : PlanR, xs = [.pd (worldD p)] ∧ PlanOk p ∧ Φ (planO K C_Plan p) st
/-! _law_first_tell -/
def pre__law_first_tell : Pre := fun xs st Φ => ∃ (p : PlanR) (m : Int), xs = [.pd (worldD p), .pd (.int m)] ∧ (p.ts.Pairwise fun a b => a.1 < b.1 ∨ (a.1 = b.1 ∧ a.2 < b.2)) ∧ p.ts.length ≤ 1000 ∧ Φ (.pd (oI (firstTell p.ts m))) st
def tellF (m : Int) : PyData → Option PyData
  | .tuple [.int i, .int j] => if j = m then some (.int i) else none
  | _ => none
theorem tellF_map (m : Int) : ∀ ts : List (Int × Int), (ts.map pairT).filterMap (tellF m) = ((ts.filter fun t => decide (t.2 = m)).map Prod.fst).map PyData.int
  | [] => rfl
  | (i, j) :: ts => by
    rw [List.map_cons, List.filterMap_cons, tellF_map m ts, List.filter_cons]
    by_cases h : j = m
    · rw [show tellF m (pairT (i, j)) = some (.int i) from if_pos h, if_pos (decide_eq_true h)]
      rfl
    · rw [show tellF m (pairT (i, j)) = none from if_neg h, if_neg (by simpa using h)]
theorem first_min {ts : List (Int × Int)} {m x : Int} (hp : ts.Pairwise fun a b => a.1 < b.1 ∨ (a.1 = b.1 ∧ a.2 < b.2)) (hm : x ∈ (ts.filter fun t => decide (t.2 = m)).map Prod.fst) (hl : ∀ y ∈ (ts.filter fun t => decide (t.2 = m)).map Prod.fst, x ≤ y) : firstTell ts m = some x := by
  unfold firstTell
  rw [← List.head?_filter]
  have hp2 := hp.filter (fun t => decide (t.2 = m))
  generalize ts.filter (fun t => decide (t.2 = m)) = l at hm hl hp2
  cases l with
  | nil => simp at hm
  | cons t l =>
    have h1 := hl t.1 (by simp)
    have h2 : t.1 ≤ x := by
      rw [List.map_cons] at hm
      rcases List.mem_cons.mp hm with e | hm
      · omega
      · obtain ⟨u, hu, e⟩ := List.mem_map.mp hm
        have := (List.pairwise_cons.mp hp2).1 u hu
        omega
    show some t.1 = some x
    rw [show t.1 = x by omega]
/-! _law_listed___law_next_length -/
def srcL (Ls : List Int) (k _line : Int) (_ : List Rng) : Option Int := if 1 ≤ k then Ls[(k - 1).toNat]? else none
def pre__law_listed___law_next_length : Pre := fun xs st Φ => ∃ (k line : Int) (told : List Rng) (Ls : List Int) (L : Int), xs = [.pd (.int k), .pd (.int line), .pd (.list (told.map rngD)), .pd (.list (Ls.map PyData.int))] ∧ srcL Ls k line told = some L ∧ Φ (.pd (.int L)) st
/-! _law_listed -/
abbrev lisV (K : PySem.W.Frag) (Ls : List Int) : Val := .ob (cloO K s__law_listed___law_next_length "_law_next_length" "_law_listed.<locals>._law_next_length" ["lengths"] [.pd (.list (Ls.map PyData.int))])
def pre__law_listed (K : PySem.W.Frag) : Pre := fun xs st Φ => ∃ Ls : List Int, xs = [.pd (.list (Ls.map PyData.int))] ∧ Φ (lisV K Ls) st
/-! _law_seeker___law_seeks -/
def rngI (a b : Int) : List Int := (List.range (b + 1 - a).toNat).map fun (i : Nat) => a + (i : Int)
def seekF (a b c H m r seed k line : Int) : Int := match (rngI a b).find? (fun L => isGap a b c H m r (line + L)) with
  | some L => L
  | none => match (rngI a b).find? (fun L => isGap a b c H m r (line + L + c)) with
    | some L => L
    | none => a + (seed + k * line) % (b - a + 1)
def pre__law_seeker___law_seeks : Pre := fun xs st Φ => ∃ a b c H m r seed k line : Int, ∃ told : List Rng, xs = [.pd (.int k), .pd (.int line), .pd (.list (told.map rngD)), .pd (likeD a b c H m r), .pd (.int seed)] ∧ Good a b c H m r ∧ (0 ≤ k ∧ k ≤ 1000) ∧ Φ (.pd (.int (seekF a b c H m r seed k line))) st
theorem find_rng {a b : Int} {f : Int → Bool} {i : Nat} (hi : i < (b + 1 - a).toNat) (hf : f (a + (i : Int)) = true) (hn : ∀ j < i, f (a + (j : Int)) = false) : (rngI a b).find? f = some (a + (i : Int)) := by
  unfold rngI
  rw [List.find?_map, Option.map_eq_some_iff]
  refine ⟨i, ?_, rfl⟩
  rw [List.find?_range_eq_some]
  exact ⟨hf, List.mem_range.mpr hi, fun j hj => by simpa using hn j hj⟩
theorem find_rngN {a b : Int} {f : Int → Bool} (hn : ∀ j < (b + 1 - a).toNat, f (a + (j : Int)) = false) : (rngI a b).find? f = none := by
  unfold rngI
  rw [List.find?_map, Option.map_eq_none_iff, List.find?_range_eq_none]
  exact fun j hj => by simpa using hn j hj
/-! _law_seeker -/
abbrev skV (K : PySem.W.Frag) (a b c H m r seed : Int) : Val := .ob (cloO K s__law_seeker___law_seeks "_law_seeks" "_law_seeker.<locals>._law_seeks" ["like", "seed"] [.pd (likeD a b c H m r), .pd (.int seed)])
def pre__law_seeker (K : PySem.W.Frag) : Pre := fun xs st Φ => ∃ a b c H m r seed : Int, xs = [.pd (likeD a b c H m r), .pd (.int seed)] ∧ Φ (skV K a b c H m r seed) st
end K77

namespace K77
open PySem L2 Ct Kp PyProof.Rows
/-! _law_ranges_hold -/
def heldR (a b c H m r : Int) (lines : List Int) (x : Rng) : Prop := x.2.2.2 - x.2.2.1 = r - 1 ∧ x.2.1 = x.1 + m ∧ ∃ (i : Nat) (l : Int), x.1 = (i : Int) ∧ lines[i]? = some l ∧ (x.2.2.1 - 1) * H ≤ l + m * (a + c) ∧ l + m * b < x.2.2.2 * H ∧ (r = 1 → x.2.2.1 = (l + m * b) / H + 1)
def pre__law_ranges_hold : Pre := fun xs st Φ => ∃ a b c H m r : Int, ∃ (lines : List Int) (told : List Rng), xs = [.pd (likeD a b c H m r), .pd (trueD lines told)] ∧ Good a b c H m r ∧ (∀ x ∈ told, heldR a b c H m r lines x) ∧ Φ (.pd (.bool true)) st
/-! _law_mix -/
structure Grow (st st' : Sto) (n : Nat) : Prop where
  len : st.length ≤ st'.length
  at_ : ∀ k, k < st.length → k ≠ n → st'[k]? = st[k]?
def pre__law_mix : Pre := fun xs st Φ => ∃ (n : Nat) (ks : List Int), xs = [.cell n, .pd (.list (ks.map PyData.int))] ∧ ks.length ≤ 100 ∧ Pur st n ∧ ∀ (st' : Sto) (ms : List Int), ms.length = ks.length → (∀ x ∈ ms, x ∈ ks) → Grow st st' n → Pur st' n → Φ (.pd (.list (ms.map PyData.int))) st'
theorem pur_lt {st : Sto} {n : Nat} (h : Pur st n) : n < st.length := by
  obtain ⟨_, _, _, e⟩ := h
  exact (List.getElem?_eq_some_iff.mp e).1
theorem map_erase (l : List Int) (j : Nat) : (l.map PyData.int).eraseIdx j = (l.eraseIdx j).map PyData.int := by
  induction l generalizing j with
  | nil => rfl
  | cons x l ih => cases j with
    | zero => rfl
    | succ j => rw [List.map_cons, List.eraseIdx_cons_succ, ih, List.eraseIdx_cons_succ, List.map_cons]
/-! _law_newly_all -/
def nwD (p : PlanR) : PyData := .list ((List.range (p.ss.length + 1)).map fun (t : Nat) => .list ((marksAt p (t : Int)).map PyData.int))
def rowsTo (p : PlanR) (n : Nat) (t : Int) : List Int := ((List.range n).map fun (i : Nat) => 1 + (i : Int)).filter fun j => decide (firstTell p.ts j = some t)
def pre__law_newly_all : Pre := fun xs st Φ => ∃ p : PlanR, xs = [.pd (worldD p)] ∧ PlanOk p ∧ Φ (.pd (nwD p)) st
theorem rowsTo_succ (p : PlanR) (n : Nat) (t : Int) : rowsTo p (n + 1) t = rowsTo p n t ++ (if firstTell p.ts (1 + (n : Int)) = some t then [1 + (n : Int)] else []) := by
  unfold rowsTo
  rw [List.range_succ, List.map_append, List.filter_append]
  congr 1
  rw [List.map_singleton]
  by_cases h : firstTell p.ts (1 + (n : Int)) = some t
  · rw [if_pos h, List.filter_cons_of_pos (by simpa using h)]
    rfl
  · rw [if_neg h, List.filter_cons_of_neg (by simpa using h)]
    rfl
theorem firstTell_bd {p : PlanR} (ok : PlanOk p) {m t : Int} (h : firstTell p.ts m = some t) : 0 ≤ t ∧ t < m ∧ m ≤ p.ss.length := by
  unfold firstTell at h
  rw [Option.map_eq_some_iff] at h
  obtain ⟨x, h1, h2⟩ := h
  have h3 := List.find?_some h1
  simp only [decide_eq_true_eq] at h3
  have h4 := ok.tel x (List.mem_of_find?_eq_some h1)
  omega
/-- the store: a list of lists -/
def ndSto (st : Sto) (k : Nat) (f : Nat → List PyData) : Sto := st ++ (.ml ((List.range k).map fun t => Val.cell (st.length + 1 + t)) :: (List.range k).map fun t => .mu (f t))
theorem nd_at {st : Sto} {k : Nat} {f : Nat → List PyData} {t : Nat} (h : t < k) : (ndSto st k f)[st.length + 1 + t]? = some (.mu (f t)) := by
  unfold ndSto
  rw [List.getElem?_append_right (by omega), show st.length + 1 + t - st.length = t + 1 by omega, List.getElem?_cons_succ, List.getElem?_map, List.getElem?_range h]
  rfl
theorem nd_top {st : Sto} {k : Nat} {f : Nat → List PyData} : (ndSto st k f)[st.length]? = some (.ml ((List.range k).map fun t => Val.cell (st.length + 1 + t))) := by
  unfold ndSto
  exact get_end
theorem nd_set {st : Sto} {k : Nat} {f : Nat → List PyData} {t : Nat} {v : List PyData} (h : t < k) : (ndSto st k f).set (st.length + 1 + t) (.mu v) = ndSto st k fun u => if u = t then v else f u := by
  unfold ndSto
  rw [List.set_append_right _ _ (by omega), show st.length + 1 + t - st.length = t + 1 by omega, List.set_cons_succ]
  congr 2
  apply List.ext_getElem?
  intro i
  by_cases hi : i = t
  · subst hi
    rw [List.getElem?_set_self (by simpa using h), List.getElem?_map, List.getElem?_range h]
    simp
  · rw [List.getElem?_set_ne (fun e => hi e.symm), List.getElem?_map, List.getElem?_map]
    by_cases hk : i < k
    · rw [List.getElem?_range hk]
      simp [hi]
    · rw [List.getElem?_eq_none (by simp; omega)]
      rfl
theorem nd_purs {g : Nat → List PyData} : ∀ (k : Nat) (A B : Sto), purs ((List.range' 0 k).map fun t => Val.cell (A.length + t)) (A ++ (List.range' 0 k).map (fun t => Cell.mu (g t)) ++ B) = some ((List.range' 0 k).map (fun t => PyData.list (g t)), A ++ (List.range' 0 k).map (fun t => Cell.fr (g t)) ++ B) := by
  have gen : ∀ (k s : Nat) (A B : Sto), purs ((List.range' s k).map fun t => Val.cell (A.length + t - s)) (A ++ (List.range' s k).map (fun t => Cell.mu (g t)) ++ B) = some ((List.range' s k).map (fun t => PyData.list (g t)), A ++ (List.range' s k).map (fun t => Cell.fr (g t)) ++ B) := by
    intro k
    induction k with
    | zero => intro s A B; rfl
    | succ k ih =>
      intro s A B
      rw [List.range'_succ, List.map_cons, List.map_cons, List.map_cons, List.map_cons]
      unfold purs
      have e1 : pur (Val.cell (A.length + s - s)) (A ++ Cell.mu (g s) :: (List.range' (s + 1) k).map (fun t => Cell.mu (g t)) ++ B) = some (.list (g s), (A ++ [Cell.fr (g s)]) ++ (List.range' (s + 1) k).map (fun t => Cell.mu (g t)) ++ B) := by
        rw [show A.length + s - s = A.length by omega, List.append_assoc, List.cons_append]
        exact pur_end.trans (by simp)
      rw [e1]
      have e2 := ih (s + 1) (A ++ [Cell.fr (g s)]) B
      have e3 : (List.range' (s + 1) k).map (fun t => Val.cell (A.length + t - s)) = (List.range' (s + 1) k).map (fun t => Val.cell ((A ++ [Cell.fr (g s)]).length + t - (s + 1))) := by
        refine List.map_congr_left fun t ht => ?_
        rw [List.length_append]
        congr 1
        simp
        omega
      rw [e3]
      simp only [Option.bind_some]
      rw [e2]
      simp
  intro k A B
  have := gen k 0 A B
  simpa using this
end K77

namespace K77
open PySem L2 Ct Kp PyProof.Rows
/-! Play___init__ -/
abbrev playF (K : PySem.W.Frag) (C_Plan : Addr) (p : PlanR) (nh nl nr : Nat) (s : PyData) : List (Str × Val) := [("plan_played", planO K C_Plan p), ("house_parts", .cell nh), ("state_now", .pd s), ("line_rows", .cell nl), ("range_rows", .cell nr)]
structure PlayR (K : PySem.W.Frag) (C_Plan C_Play : Addr) (st0 st : Sto) (n nh nl nr : Nat) (p : PlanR) (f0 f1 f2 : Val) (s : PyData) (lines : List Int) (told : List Rng) : Prop where
  e1 : st[n]? = some (.ins C_Play (playF K C_Plan p nh nl nr s))
  e2 : st[nh]? = some (.ml [f0, f1, f2])
  e3 : st[nl]? = some (.mu (lines.map PyData.int))
  e4 : st[nr]? = some (.mu (told.map rngD))
  ne : nl ≠ nr
  tk : st.take st0.length = st0
  gn : st0.length ≤ n
  gl : st0.length ≤ nl
  gr : st0.length ≤ nr
section
variable {K : PySem.W.Frag} {C_Plan C_Play : Addr} {st0 st : Sto} {n nh nl nr : Nat} {p : PlanR} {f0 f1 f2 : Val} {s : PyData} {lines : List Int} {told : List Rng}
theorem cell_ne {st : Sto} {a b : Nat} {c d : Cell} (h1 : st[a]? = some c) (h2 : st[b]? = some d) (h : c ≠ d) : a ≠ b := fun e => h (by rw [e, h2] at h1; exact (Option.some.inj h1).symm)
theorem PlayR.setS (h : PlayR K C_Plan C_Play st0 st n nh nl nr p f0 f1 f2 s lines told) (s' : PyData) : PlayR K C_Plan C_Play st0 (st.set n (.ins C_Play (playF K C_Plan p nh nl nr s'))) n nh nl nr p f0 f1 f2 s' lines told := by
  have h2 := cell_ne h.e1 h.e2 (fun z => by cases z)
  have h3 := cell_ne h.e1 h.e3 (fun z => by cases z)
  have h4 := cell_ne h.e1 h.e4 (fun z => by cases z)
  exact ⟨get_setSelf h.e1, by rw [List.getElem?_set_ne h2]; exact h.e2, by rw [List.getElem?_set_ne h3]; exact h.e3, by rw [List.getElem?_set_ne h4]; exact h.e4, h.ne, by rw [take_set h.gn]; exact h.tk, h.gn, h.gl, h.gr⟩
theorem PlayR.setL (h : PlayR K C_Plan C_Play st0 st n nh nl nr p f0 f1 f2 s lines told) (lines' : List Int) : PlayR K C_Plan C_Play st0 (st.set nl (.mu (lines'.map PyData.int))) n nh nl nr p f0 f1 f2 s lines' told := by
  have h1 := cell_ne h.e3 h.e1 (fun z => by cases z)
  have h2 := cell_ne h.e3 h.e2 (fun z => by cases z)
  exact ⟨by rw [List.getElem?_set_ne h1]; exact h.e1, by rw [List.getElem?_set_ne h2]; exact h.e2, get_setSelf h.e3, by rw [List.getElem?_set_ne h.ne]; exact h.e4, h.ne, by rw [take_set h.gl]; exact h.tk, h.gn, h.gl, h.gr⟩
theorem PlayR.setT (h : PlayR K C_Plan C_Play st0 st n nh nl nr p f0 f1 f2 s lines told) (told' : List Rng) : PlayR K C_Plan C_Play st0 (st.set nr (.mu (told'.map rngD))) n nh nl nr p f0 f1 f2 s lines told' := by
  have h1 := cell_ne h.e4 h.e1 (fun z => by cases z)
  have h2 := cell_ne h.e4 h.e2 (fun z => by cases z)
  exact ⟨by rw [List.getElem?_set_ne h1]; exact h.e1, by rw [List.getElem?_set_ne h2]; exact h.e2, by rw [List.getElem?_set_ne h.ne.symm]; exact h.e3, get_setSelf h.e4, h.ne, by rw [take_set h.gr]; exact h.tk, h.gn, h.gl, h.gr⟩
theorem PlayR.pin (h : PlayR K C_Plan C_Play st0 st n nh nl nr p f0 f1 f2 s lines told) {vs : List V} {xs : List PyData} : (st.set nr (.pin vs xs)).take st0.length = st0 := by
  rw [take_set h.gr]
  exact h.tk
end
theorem tells_len {hs : HS} {r k line : Int} : ∀ {js : List Int} {s s' : PyData} {told told' : List Rng}, tellsG hs r k line js s told = some (.inr (s', told')) → told'.length = told.length + js.length
  | [], s, s', told, told', h => by
    cases h
    rfl
  | j :: js, s, s', told, told', h => by
    unfold tellsG at h
    split at h
    · cases h
    · split at h
      · have := tells_len h
        rw [List.length_append] at this
        simp only [List.length_cons, List.length_nil] at this ⊢
        omega
      · cases h
theorem marks_len (p : PlanR) (t : Int) : (marksAt p t).length ≤ p.ss.length := by
  unfold marksAt
  refine Nat.le_trans (List.length_filter_le _ _) ?_
  simp
def pre_Play___init__ (P : Program) (w : World) (K : PySem.W.Frag) (mg : Str → Option Value) (base : Heap) (T : TabI) (C_Plan : Addr) (C_Play : Addr) : Pre := fun xs st Φ => ∃ (hs : HS) (st0 : Sto) (h : Nat) (p : PlanR) (f0 f1 f2 : Val), xs = [.cell st0.length, planO K C_Plan p, .cell h] ∧ st = st0 ++ [.ins C_Play []] ∧ st0[h]? = some (.ml [f0, f1, f2]) ∧
  HouseV P w K mg base T kClo hs (planO K C_Plan p) f0 f1 f2 ∧ ∀ (st' : Sto) (nh nl nr : Nat), PlayR K C_Plan C_Play st0 st' st0.length nh nl nr p f0 f1 f2 hs.b [p.s] [] → Φ (.pd .none) st'
/-! Play_asks -/
def pre_Play_asks (P : Program) (w : World) (K : PySem.W.Frag) (mg : Str → Option Value) (base : Heap) (T : TabI) (C_Plan : Addr) (C_Play : Addr) : Pre := fun xs st Φ => ∃ (hs : HS) (st0 : Sto) (n nh nl nr : Nat) (p : PlanR) (f0 f1 f2 : Val) (s : PyData) (lines : List Int) (told : List Rng) (t : Nat) (line : Int) (res : Sum PyData (PyData × List Rng)), xs = [.cell n, .pd (.int t)] ∧
  PlayR K C_Plan C_Play st0 st n nh nl nr p f0 f1 f2 s lines told ∧ HouseV P w K mg base T kClo hs (planO K C_Plan p) f0 f1 f2 ∧ PlanOk p ∧ t ≤ p.ss.length ∧ lines[t]? = some line ∧ told.length ≤ 100 * t ∧ tellsG hs p.r t line (marksAt p t) s told = some res ∧
  (∀ e, res = .inl e → ∀ st' : Sto, st'.take st0.length = st0 → Φ (.pd e) st') ∧ (∀ s' told', res = .inr (s', told') → ∀ st', PlayR K C_Plan C_Play st0 st' n nh nl nr p f0 f1 f2 s' lines told' → Φ (.pd .none) st')
/-! Play_passes -/
def pre_Play_passes (P : Program) (w : World) (K : PySem.W.Frag) (mg : Str → Option Value) (base : Heap) (T : TabI) (C_Plan : Addr) (C_Play : Addr) : Pre := fun xs st Φ => ∃ (hs : HS) (st0 : Sto) (n nh nl nr : Nat) (p : PlanR) (f0 f1 f2 : Val) (s : PyData) (lines : List Int) (told : List Rng) (t : Nat) (line L : Int) (x : Sec) (res : Sum PyData (PyData × Int × List Rng)), xs = [.cell n, .pd (.int (((t : Nat) : Int) + 1)), .pd (.int L)] ∧
  PlayR K C_Plan C_Play st0 st n nh nl nr p f0 f1 f2 s lines told ∧ HouseV P w K mg base T kClo hs (planO K C_Plan p) f0 f1 f2 ∧ PlanOk p ∧ p.ss[t]? = some x ∧ lines[t]? = some line ∧ lines.length = t + 1 ∧ 0 ≤ line ∧ 0 ≤ L ∧ told.length ≤ 100 * (t + 1) ∧ stepG hs p x.2.2 ((t : Int) + 1) L s line told = some res ∧
  (∀ e, res = .inl e → ∀ st' : Sto, st'.take st0.length = st0 → Φ (.pd e) st') ∧ (∀ s' line' told', res = .inr (s', line', told') → ∀ st', PlayR K C_Plan C_Play st0 st' n nh nl nr p f0 f1 f2 s' (lines ++ [line']) told' → Φ (.pd .none) st')
/-! Play_ending -/
def pre_Play_ending (K : PySem.W.Frag) (C_Plan : Addr) (C_Play : Addr) : Pre := fun xs st Φ => ∃ (st0 : Sto) (n nh nl nr : Nat) (p : PlanR) (f0 f1 f2 : Val) (s : PyData) (lines : List Int) (told : List Rng), xs = [.cell n] ∧ PlayR K C_Plan C_Play st0 st n nh nl nr p f0 f1 f2 s lines told ∧ Φ (.pd (trueD lines told)) st
end K77

namespace K77
open PySem L2 Ct Kp PyProof.Rows
/-! played -/
theorem tells_err {hs : HS} {r k line : Int} : ∀ {js : List Int} {s e : PyData} {told : List Rng}, tellsG hs r k line js s told = some (.inl e) → ∃ ds, e = .tuple ds
  | [], s, e, told, h => by cases h
  | j :: js, s, e, told, h => by
    unfold tellsG at h
    split at h
    · cases h
    · split at h
      · exact tells_err h
      · cases h
        exact ⟨_, rfl⟩
theorem step_err {hs : HS} {p : PlanR} {c k L line : Int} {s e : PyData} {told : List Rng} (h : stepG hs p c k L s line told = some (.inl e)) : ∃ ds, e = .tuple ds := by
  unfold stepG at h
  split at h
  · cases h
  · split at h
    · cases h
      exact ⟨_, rfl⟩
    · split at h
      · cases h
        exact ⟨_, rfl⟩
      · split at h
        · cases h
        · rename_i e2 he
          cases h
          exact tells_err he
        · cases h
theorem step_line {hs : HS} {p : PlanR} {c k L line line' : Int} {s s' : PyData} {told told' : List Rng} (h : stepG hs p c k L s line told = some (.inr (s', line', told'))) : line + L ≤ line' ∧ told'.length ≤ told.length + p.ss.length := by
  unfold stepG at h
  split at h
  · cases h
  · split at h
    · cases h
    · rename_i h1
      split at h
      · cases h
      · split at h
        · cases h
        · cases h
        · rename_i he
          cases h
          have := tells_len he
          have := marks_len p k
          have h1 := Decidable.not_not.mp h1
          omega
def pre_played (P : Program) (w : World) (K : PySem.W.Frag) (mg : Str → Option Value) (base : Heap) (T : TabI) (C_Plan : Addr) : Pre := fun xs st Φ => ∃ (hs : HS) (h : Nat) (p : PlanR) (f0 f1 f2 : Val) (Ls : List Int) (d : PyData), xs = [planO K C_Plan p, .cell h, .pd (.list (Ls.map PyData.int))] ∧ st[h]? = some (.ml [f0, f1, f2]) ∧ HouseV P w K mg base T kClo hs (planO K C_Plan p) f0 f1 f2 ∧ PlanOk p ∧
  Ls.length = p.ss.length ∧ (∀ (i : Nat) (s : Sec) (L : Int), p.ss[i]? = some s → Ls[i]? = some L → s.1 ≤ L ∧ L ≤ s.2.1) ∧ Kp.played hs p Ls = some d ∧ Φ (.pd d) st
/-! _law_play -/
def playSto (st : Sto) (lines : List Int) (told : List Rng) (lens : List Int) : Sto := st ++ [.mu (lines.map PyData.int), .mu (told.map rngD), .mu (lens.map PyData.int)]
section
variable {st : Sto} {lines : List Int} {told : List Rng} {lens : List Int} {c : Cell}
theorem ps_old {n : Nat} (h : st[n]? = some c) : (playSto st lines told lens)[n]? = some c := get_app_l h
theorem ps_0 : (playSto st lines told lens)[st.length]? = some (.mu (lines.map PyData.int)) := by simp [playSto]
theorem ps_1 : (playSto st lines told lens)[st.length + 1]? = some (.mu (told.map rngD)) := by simp [playSto]
theorem ps_2 : (playSto st lines told lens)[st.length + 2]? = some (.mu (lens.map PyData.int)) := by simp [playSto]
theorem ps_set0 {x : Int} : (playSto st lines told lens).set st.length (.mu (lines.map PyData.int ++ [.int x])) = playSto st (lines ++ [x]) told lens := by simp [playSto]
theorem ps_set1 {x : Rng} : (playSto st lines told lens).set (st.length + 1) (.mu (told.map rngD ++ [rngD x])) = playSto st lines (told ++ [x]) lens := by simp [playSto, List.set_append]
theorem ps_set2 {x : Int} : (playSto st lines told lens).set (st.length + 2) (.mu (lens.map PyData.int ++ [.int x])) = playSto st lines told (lens ++ [x]) := by simp [playSto, List.set_append]
end
def resid (hs : HS) (src : Int → Int → List Rng → Option Int) (p : PlanR) (i : Nat) (s : PyData) (line : Int) (lines : List Int) (told : List Rng) (lens' : List Int) : Option (PyData × List Int) := match i with
  | 0 => match tellsG hs p.r 0 line (marksAt p 0) s told with
    | none => none
    | some (.inl e) => some (e, lens')
    | some (.inr (s', told')) => playG hs src p p.ss 1 s' line lines told' lens'
  | j + 1 => playG hs src p (p.ss.drop j) (((j : Nat) : Int) + 1) s line lines told lens'
def wrF (k cell : Int) : PyData → Option PyData
  | .tuple [.int i, .int j, .int f, .int l] => if j = k ∧ ¬ (f ≤ cell ∧ cell ≤ l) then some (.tuple [.int i, .int j, .int f, .int l]) else none
  | _ => none
theorem wrF_map (k cell : Int) : ∀ told : List Rng, (told.map rngD).filterMap (wrF k cell) = (told.filter fun x => decide (x.2.1 = k ∧ ¬ (x.2.2.1 ≤ cell ∧ cell ≤ x.2.2.2))).map rngD
  | [] => rfl
  | (i, j, f, l) :: told => by
    rw [List.map_cons, List.filterMap_cons, wrF_map k cell told, List.filter_cons]
    by_cases h : j = k ∧ ¬ (f ≤ cell ∧ cell ≤ l)
    · rw [show wrF k cell (rngD (i, j, f, l)) = some (rngD (i, j, f, l)) from if_pos h, if_pos (decide_eq_true h)]
      rfl
    · rw [show wrF k cell (rngD (i, j, f, l)) = none from if_neg h, if_neg (by simpa using h)]
theorem take_snoc2 {st : Sto} {n : Nat} {c d : Cell} : (st.set n c ++ [d]).take (st.length + 1) = st.set n c ++ [d] := List.take_of_length_le (by simp)
theorem sh_rngs (told : List Rng) : SeqAt.shaped (.list (told.map rngD)) = true := Sh.shaped (k := 2) (sh_list fun d hd => by
  obtain ⟨x, _, rfl⟩ := List.mem_map.mp hd
  refine sh_tuple fun e he => ?_
  simp only [List.mem_cons, List.not_mem_nil, or_false] at he
  rcases he with rfl | rfl | rfl | rfl <;> exact sh_int _)
def pre__law_play (P : Program) (w : World) (K : PySem.W.Frag) (mg : Str → Option Value) (base : Heap) (T : TabI) (C_Plan : Addr) : Pre := fun xs st Φ => ∃ (hs : HS) (src : Int → Int → List Rng → Option Int) (srcv : Val) (h : Nat) (p : PlanR) (f0 f1 f2 : Val) (found : PyData) (lens : List Int), xs = [.pd (worldD p), .cell h, srcv] ∧ st[h]? = some (.ml [f0, f1, f2]) ∧ HouseV P w K mg base T kClo hs (planO K C_Plan p) f0 f1 f2 ∧
  FnV P w K mg base T kClo srcv 3 (qSrc src) ∧ PlanOk p ∧ lawPlay hs src p = some (found, lens) ∧ Φ (.pd (.tuple [found, .list (lens.map PyData.int)])) st
end K77

/-! MT: the house that goes on for ever keeps every range. -/
namespace K77
open PySem Ct Kp
/-! ### marks of a like plan -/
theorem find_like (m j : Int) : ∀ (n k : Nat), ((List.range' k n).map fun (i : Nat) => ((i : Int), (i : Int) + m)).find? (fun t => decide (t.2 = j)) = if (k : Int) ≤ j - m ∧ j - m < (k : Int) + (n : Int) then some (j - m, j) else none
  | 0, k => by
    rw [if_neg (by omega)]
    rfl
  | n + 1, k => by
    rw [List.range'_succ, List.map_cons, List.find?_cons, find_like m j n (k + 1)]
    by_cases h : (k : Int) + m = j
    · rw [decide_eq_true h]
      show some ((k : Int), (k : Int) + m) = _
      rw [if_pos (by omega), h, show (k : Int) = j - m by omega]
    · rw [decide_eq_false h]
      show (if _ then _ else _) = _
      by_cases h2 : (k : Int) ≤ j - m ∧ j - m < (k : Int) + ((n + 1 : Nat) : Int)
      · rw [if_pos h2, if_pos (by omega)]
      · rw [if_neg h2, if_neg (by omega)]
theorem like_first {a b c H m r N start j : Int} : firstTell (likeP a b c H m r N start).ts j = if 0 ≤ j - m ∧ j - m < N - m + 1 then some (j - m) else none := by
  unfold firstTell likeP
  simp only
  rw [List.range_eq_range', find_like]
  by_cases h : 0 ≤ j - m ∧ j - m < N - m + 1
  · rw [if_pos h, if_pos (by omega)]
    rfl
  · rw [if_neg h, if_neg (by omega)]
    rfl
theorem filter_one {n : Nat} {j : Int} (h1 : 1 ≤ j) (h2 : j ≤ n) {f : Int → Bool} (hf : ∀ x : Int, f x = decide (x = j)) : ((List.range n).map fun (i : Nat) => 1 + (i : Int)).filter f = [j] := by
  have gen : ∀ (n k : Nat), (1 + (k : Int) ≤ j ∧ j < 1 + (k : Int) + n) → ((List.range' k n).map fun (i : Nat) => 1 + (i : Int)).filter f = [j] := by
    intro n
    induction n with
    | zero => intro k h; omega
    | succ n ih =>
      intro k h
      rw [List.range'_succ, List.map_cons, List.filter_cons, hf]
      by_cases e : 1 + (k : Int) = j
      · rw [if_pos (decide_eq_true e)]
        have : ((List.range' (k + 1) n).map fun (i : Nat) => 1 + (i : Int)).filter f = [] := by
          rw [List.filter_eq_nil_iff]
          intro x hx
          obtain ⟨i, hi, rfl⟩ := List.mem_map.mp hx
          have := List.mem_range'_1.mp hi
          rw [hf]
          simp
          omega
        rw [this, e]
      · rw [if_neg (by simpa using e)]
        exact ih (k + 1) (by omega)
  rw [List.range_eq_range']
  exact gen n 0 (by omega)
theorem like_marks {a b c H m r N start : Int} (m1 : 1 ≤ m) (hN : 0 ≤ N) (t : Nat) (ht : (t : Int) ≤ N) : marksAt (likeP a b c H m r N start) (t : Int) = if (t : Int) + m ≤ N then [(t : Int) + m] else [] := by
  have hl : (likeP a b c H m r N start).ss.length = N.toNat := by simp [likeP]
  unfold marksAt
  rw [hl]
  by_cases h : (t : Int) + m ≤ N
  · rw [if_pos h]
    refine filter_one (by omega) (by omega) fun x => ?_
    rw [like_first]
    by_cases e : x = (t : Int) + m
    · subst e
      rw [if_pos (by omega)]
      simp <;> omega
    · rw [decide_eq_false e]
      by_cases h2 : 0 ≤ x - m ∧ x - m < N - m + 1
      · rw [if_pos h2]
        simp
        omega
      · rw [if_neg h2]
        simp
  · rw [if_neg h, List.filter_eq_nil_iff]
    intro x hx
    obtain ⟨i, hi, rfl⟩ := List.mem_map.mp hx
    have := List.mem_range.mp hi
    rw [like_first]
    by_cases h2 : 0 ≤ 1 + (i : Int) - m ∧ 1 + (i : Int) - m < N - m + 1
    · rw [if_pos h2]
      simp
      omega
    · rw [if_neg h2]
      simp
/-! ### lines -/
structure Fits (a b c H m r : Int) : Prop where
  a0 : 0 ≤ a
  ab : a ≤ b
  c0 : 0 ≤ c
  cb : c ≤ b - a
  H1 : 1 ≤ H
  m1 : 1 ≤ m
  r1 : 1 ≤ r
  /-- covered, or jumped -/
  ev : overOf a b c H m r ≤ 0 ∨ (0 < overOf a b c H m r ∧ overOf a b c H m r < H ∧ overOf a b c H m r ≤ c ∧ (∀ k, 1 ≤ k → k ≤ m → k * (a + c) % H + overOf a b c H m r < H) ∧ ∀ k, 1 ≤ k → k ≤ m → k * b % H = 0 ∨ overOf a b c H m r < k * b % H)
section
variable {a b c H m r : Int}
/-- a line that is no gap -/
def free (a b c H m r x : Int) : Prop := (x + m * b) / H - (x + m * (a + c)) / H < r
theorem free_iff (f : Fits a b c H m r) (x : Int) : free a b c H m r x ↔ (overOf a b c H m r ≤ 0 ∨ overOf a b c H m r ≤ (x + m * b) % H) := by
  have H1 := f.H1
  have e : x + m * (a + c) = x + m * b - overOf a b c H m r + H * -(r - 1) := by
    unfold overOf
    have h1 : m * (b - a - c) = m * b - m * (a + c) := by
      rw [Int.sub_sub, Int.mul_sub]
    rw [h1, Int.mul_neg, Int.mul_comm H (r - 1)]
    omega
  unfold free
  rw [e, Int.add_mul_ediv_left _ _ (by omega)]
  generalize x + m * b = z
  have h1 := Int.emod_add_mul_ediv z H
  have h2 := Int.emod_nonneg z (show H ≠ 0 by omega)
  have h3 := Int.emod_lt_of_pos z (show 0 < H by omega)
  generalize z / H = q at *
  rcases f.ev with h | ⟨o1, o2, _⟩
  · have : q ≤ (z - overOf a b c H m r) / H := by
      rw [Int.le_ediv_iff_mul_le (by omega), Int.mul_comm]
      omega
    constructor
    · intro _; exact .inl h
    · intro _; omega
  · constructor
    · intro hh
      right
      rcases Int.lt_or_le (z % H) (overOf a b c H m r) with h | h
      · exfalso
        have : (z - overOf a b c H m r) / H < q := by
          rw [Int.ediv_lt_iff_lt_mul (by omega), Int.mul_comm]
          omega
        omega
      · exact h
    · rintro (h | h)
      · omega
      · have : q ≤ (z - overOf a b c H m r) / H := by
          rw [Int.le_ediv_iff_mul_le (by omega), Int.mul_comm]
          omega
        omega
theorem mod_eq {H x y : Int} (h : ∃ k, x = y + H * k) : x % H = y % H := by
  obtain ⟨k, rfl⟩ := h
  exact Int.add_mul_emod_self_left _ _ _
/-- where a told range may begin its window -/
theorem low_free (f : Fits a b c H m r) {page d : Int} (d0 : 0 ≤ d) (d1 : d < m) : free a b c H m r (rBegin a c H page d) := by
  rw [free_iff f]
  rcases f.ev with h | ⟨o1, o2, o3, sh, be⟩
  · exact .inl h
  · right
    have h1 := f.H1
    have hs := sh (m - d) (by omega) (by omega)
    have e : (rBegin a c H page d + m * b) % H = ((m - d) * (a + c) % H + overOf a b c H m r) % H := by
      rw [Int.emod_add_emod]
      apply mod_eq
      refine ⟨page - 1 + (r - 1), ?_⟩
      unfold rBegin overOf
      have e1 : m * (b - a - c) = m * b - m * (a + c) := by rw [Int.sub_sub, Int.mul_sub]
      have e2 : (m - d) * (a + c) = m * (a + c) - d * (a + c) := Int.sub_mul _ _ _
      have e3 : H * (page - 1 + (r - 1)) = (page - 1) * H + (r - 1) * H := by rw [Int.mul_add, Int.mul_comm H, Int.mul_comm H]
      rw [e1, e2, e3]
      omega
    have hn := Int.emod_nonneg ((m - d) * (a + c)) (show H ≠ 0 by omega)
    rw [e, Int.emod_eq_of_lt (by omega) hs]
    omega
/-- .. and the last line of it -/
theorem up_free (f : Fits a b c H m r) {u d : Int} (d0 : 0 ≤ d) (d1 : d < m) : free a b c H m r (u * H - 1 - d * b) := by
  rw [free_iff f]
  rcases f.ev with h | ⟨o1, o2, o3, sh, be⟩
  · exact .inl h
  · right
    have h1 := f.H1
    have hb := be (m - d) (by omega) (by omega)
    have e : (u * H - 1 - d * b + m * b) % H = ((m - d) * b % H - 1) % H := by
      rw [Int.emod_sub_emod]
      apply mod_eq
      refine ⟨u, ?_⟩
      rw [Int.sub_mul, Int.mul_comm H u]
      omega
    rw [e]
    have hn := Int.emod_nonneg ((m - d) * b) (show H ≠ 0 by omega)
    have hl := Int.emod_lt_of_pos ((m - d) * b) (show 0 < H by omega)
    rcases hb with hb | hb
    · rw [hb, show (0 : Int) - 1 = (H - 1) + H * -1 by omega, Int.add_mul_emod_self_left, Int.emod_eq_of_lt (by omega) (by omega)]
      omega
    · rw [Int.emod_eq_of_lt (by omega) (by omega)]
      omega
/-- the step over a gap -/
theorem gap_step (f : Fits a b c H m r) (x : Int) : free a b c H m r (bGap a b c H m r x) ∧ x ≤ bGap a b c H m r x ∧ (bGap a b c H m r x = x ∨ bGap a b c H m r x ≤ x + c) ∧ (free a b c H m r x → bGap a b c H m r x = x) ∧ ∀ u, x ≤ u → free a b c H m r u → bGap a b c H m r x ≤ u := by
  have H1 := f.H1
  have hn := Int.emod_nonneg (x + m * b) (show H ≠ 0 by omega)
  have hl := Int.emod_lt_of_pos (x + m * b) (show 0 < H by omega)
  unfold bGap
  by_cases hg : (x + m * b) % H < overOf a b c H m r ∧ overOf a b c H m r < H
  · rw [if_pos hg]
    obtain ⟨g1, g2⟩ := hg
    rcases f.ev with h | ⟨o1, o2, o3, _, _⟩
    · omega
    refine ⟨?_, by omega, .inr (by omega), fun hf => ?_, fun u hu hf => ?_⟩
    · rw [free_iff f]
      right
      have e : (x + overOf a b c H m r - (x + m * b) % H + m * b) % H = overOf a b c H m r % H := by
        apply mod_eq
        refine ⟨(x + m * b) / H, ?_⟩
        have := Int.emod_add_mul_ediv (x + m * b) H
        omega
      rw [e, Int.emod_eq_of_lt (by omega) g2]
      exact Int.le_refl _
    · rw [free_iff f] at hf
      omega
    · rw [free_iff f] at hf
      rcases hf with hf | hf
      · omega
      · rcases Int.lt_or_le u (x + overOf a b c H m r - (x + m * b) % H) with h | h
        · exfalso
          have e : (u + m * b) % H = (x + m * b) % H + (u - x) := by
            rw [← Int.emod_eq_of_lt (show 0 ≤ (x + m * b) % H + (u - x) by omega) (show (x + m * b) % H + (u - x) < H by omega)]
            rw [Int.emod_add_emod]
            congr 1
            omega
          omega
        · exact h
  · rw [if_neg hg]
    refine ⟨?_, Int.le_refl _, .inl rfl, fun _ => rfl, fun u hu _ => hu⟩
    rw [free_iff f]
    rcases f.ev with h | ⟨o1, o2, _⟩
    · exact .inl h
    · right
      omega
/-! ### one told range's window -/
/-- x lies in the window of page p, d sections ahead -/
def inW (a b c H r p d x : Int) : Prop := rBegin a c H p d ≤ x ∧ x + d * b < (p + r - 1) * H
theorem page_ok (f : Fits a b c H m r) {x : Int} (x0 : 0 ≤ x) (hx : free a b c H m r x) : 1 ≤ rPage a b c H r x m ∧ inW a b c H r (rPage a b c H r x m) m x ∧ (r = 1 → rPage a b c H r x m = (x + m * b) / H + 1) := by
  have H1 := f.H1
  have r1 := f.r1
  have hmac : 0 ≤ m * (a + c) := Int.mul_nonneg (by have := f.m1; omega) (by have := f.a0; have := f.c0; omega)
  have hmb : 0 ≤ m * b := Int.mul_nonneg (by have := f.m1; omega) (by have := f.a0; have := f.ab; omega)
  have q0 : 0 ≤ (x + m * b) / H := Int.ediv_nonneg (by omega) (by omega)
  have h1 := Int.emod_add_mul_ediv (x + m * b) H
  have h3 := Int.emod_lt_of_pos (x + m * b) (show 0 < H by omega)
  have key : rBegin a c H (mx 1 ((x + m * b) / H + 2 - r)) m ≤ x := by
    unfold rBegin
    by_cases h : (x + m * b) / H + 2 - r > 1
    · rw [show mx 1 ((x + m * b) / H + 2 - r) = (x + m * b) / H + 2 - r from if_pos h]
      have : (x + m * b) / H + 2 - r - 1 ≤ (x + m * (a + c)) / H := by
        unfold free at hx
        omega
      rw [Int.le_ediv_iff_mul_le (by omega)] at this
      omega
    · rw [show mx 1 ((x + m * b) / H + 2 - r) = 1 from if_neg h]
      omega
  have e : rPage a b c H r x m = mx 1 ((x + m * b) / H + 2 - r) := if_pos key
  rw [e]
  have hm1 : 1 ≤ mx 1 ((x + m * b) / H + 2 - r) := by
    unfold mx
    split <;> omega
  have hm2 : (x + m * b) / H + 2 - r ≤ mx 1 ((x + m * b) / H + 2 - r) := by
    unfold mx
    split <;> omega
  refine ⟨hm1, ⟨key, ?_⟩, fun hr => ?_⟩
  · have h5 : ((x + m * b) / H + 1) * H ≤ (mx 1 ((x + m * b) / H + 2 - r) + r - 1) * H := Int.mul_le_mul_of_nonneg_right (by omega) (by omega)
    have h6 : ((x + m * b) / H + 1) * H = H * ((x + m * b) / H) + H := by rw [Int.add_mul, Int.mul_comm, Int.one_mul]
    omega
  · subst hr
    unfold mx
    split <;> omega
theorem beg_step (a c H p d : Int) : rBegin a c H p (d - 1) = rBegin a c H p d + (a + c) := by
  unfold rBegin
  rw [Int.sub_mul d 1]
  omega
/-- the line that a house sets -/
theorem setLine_prop (k : Int) : ∀ (ps : List (Int × Int)) (x : Int), x ≤ setLine a c H k x ps ∧ (∀ q ∈ ps, k ≤ q.1 → rBegin a c H q.2 (q.1 - k) ≤ setLine a c H k x ps) ∧ (setLine a c H k x ps = x ∨ ∃ q ∈ ps, k ≤ q.1 ∧ setLine a c H k x ps = rBegin a c H q.2 (q.1 - k))
  | [], x => ⟨Int.le_refl _, (fun q h => by cases h), .inl rfl⟩
  | (mark, page) :: ps, x => by
    show x ≤ setLine a c H k (if mark ≥ k then mx x (rBegin a c H page (mark - k)) else x) ps ∧ _
    by_cases h : mark ≥ k
    · rw [if_pos h]
      obtain ⟨h1, h2, h3⟩ := setLine_prop k ps (mx x (rBegin a c H page (mark - k)))
      have e : setLine a c H k x ((mark, page) :: ps) = setLine a c H k (mx x (rBegin a c H page (mark - k))) ps := by
        show setLine a c H k (if mark ≥ k then mx x (rBegin a c H page (mark - k)) else x) ps = _
        rw [if_pos h]
      have m1 : x ≤ mx x (rBegin a c H page (mark - k)) ∧ rBegin a c H page (mark - k) ≤ mx x (rBegin a c H page (mark - k)) ∧ (mx x (rBegin a c H page (mark - k)) = x ∨ mx x (rBegin a c H page (mark - k)) = rBegin a c H page (mark - k)) := by
        unfold mx
        split <;> omega
      obtain ⟨m1, m2, m3⟩ := m1
      rw [e]
      refine ⟨by omega, fun q hq hk => ?_, ?_⟩
      · rcases List.mem_cons.mp hq with rfl | hq
        · exact Int.le_trans m2 h1
        · exact h2 q hq hk
      · rcases h3 with h3 | ⟨q, hq, hk, h3⟩
        · rcases m3 with m3 | m3
          · exact .inl (h3.trans m3)
          · exact .inr ⟨(mark, page), List.mem_cons_self .., h, h3.trans m3⟩
        · exact .inr ⟨q, List.mem_cons_of_mem _ hq, hk, h3⟩
    · rw [if_neg h]
      obtain ⟨h1, h2, h3⟩ := setLine_prop k ps x
      have e : setLine a c H k x ((mark, page) :: ps) = setLine a c H k x ps := by
        show setLine a c H k (if mark ≥ k then mx x (rBegin a c H page (mark - k)) else x) ps = _
        rw [if_neg h]
      rw [e]
      refine ⟨h1, fun q hq hk => ?_, h3.imp id fun ⟨q, hq, hk, h3⟩ => ⟨q, List.mem_cons_of_mem _ hq, hk, h3⟩⟩
      rcases List.mem_cons.mp hq with rfl | hq
      · exact absurd hk h
      · exact h2 q hq hk
/-- one section: what the house sets fits all that is told -/
theorem set_ok (f : Fits a b c H m r) {k x L : Int} {ps : List (Int × Int)} (hps : ∀ q ∈ ps, q.1 ≤ k - 1 + m) (hw : ∀ q ∈ ps, k - 1 ≤ q.1 → inW a b c H r q.2 (q.1 - (k - 1)) x) (L1 : a ≤ L) (L2 : L ≤ b) :
    0 ≤ setPad a b c H m r k L x ps ∧ setPad a b c H m r k L x ps ≤ c ∧ free a b c H m r (x + L + setPad a b c H m r k L x ps) ∧ ∀ q ∈ ps, k ≤ q.1 → inW a b c H r q.2 (q.1 - k) (x + L + setPad a b c H m r k L x ps) := by
  obtain ⟨s1, s2, s3⟩ := setLine_prop (a := a) (c := c) (H := H) k ps (x + L)
  have low : ∀ q ∈ ps, k ≤ q.1 → rBegin a c H q.2 (q.1 - k) ≤ x + a + c := fun q hq hk => by
    have := (hw q hq (by omega)).1
    rw [show q.1 - k = q.1 - (k - 1) - 1 by omega, beg_step]
    omega
  have up : ∀ q ∈ ps, k ≤ q.1 → x + b ≤ (q.2 + r - 1) * H - 1 - (q.1 - k) * b := fun q hq hk => by
    have := (hw q hq (by omega)).2
    have e : (q.1 - (k - 1)) * b = (q.1 - k) * b + b := by
      rw [show q.1 - (k - 1) = q.1 - k + 1 by omega, Int.add_mul, Int.one_mul]
    omega
  have f1 := f.a0
  have f2 := f.c0
  have f3 := f.cb
  generalize hl : setLine a c H k (x + L) ps = l at s1 s2 s3
  have lc : l ≤ x + L + c := by
    rcases s3 with h | ⟨q, hq, hk, h⟩
    · omega
    · have := low q hq hk
      omega
  have lu : ∀ q ∈ ps, k ≤ q.1 → l ≤ (q.2 + r - 1) * H - 1 - (q.1 - k) * b := fun q hq hk => by
    have h1 := up q hq hk
    rcases s3 with h | ⟨q', hq', hk', h⟩
    · omega
    · have := low q' hq' hk'
      omega
  obtain ⟨g1, g2, g3, g4, g5⟩ := gap_step f l
  have gc : bGap a b c H m r l ≤ x + L + c := by
    rcases s3 with h | ⟨q, hq, hk, h⟩
    · rcases g3 with h3 | h3 <;> omega
    · rw [g4 (by rw [h]; exact low_free f (by omega) (by have := hps q hq; omega))]
      exact lc
  have e : setPad a b c H m r k L x ps = bGap a b c H m r l - (x + L) := by
    unfold setPad
    rw [hl, if_neg (by omega)]
  rw [e, show x + L + (bGap a b c H m r l - (x + L)) = bGap a b c H m r l by omega]
  refine ⟨by omega, by omega, g1, fun q hq hk => ⟨Int.le_trans (s2 q hq hk) g2, ?_⟩⟩
  have := g5 _ (lu q hq hk) (up_free f (by omega) (by have := hps q hq; omega))
  omega
/-! ### the whole course -/
def psOf (told : List Rng) : List (Int × Int) := told.map fun t => (t.2.1, t.2.2.1)
/-- behind the tells at k: n told -/
structure Inv (a b c H m r : Int) (k n : Nat) (e : Int) (x : Int) (lines : List Int) (told : List Rng) : Prop where
  held : ∀ t ∈ told, heldR a b c H m r lines t
  le : ∀ q ∈ psOf told, q.1 ≤ e + m
  win : ∀ q ∈ psOf told, (k : Int) ≤ q.1 → inW a b c H r q.2 (q.1 - k) x
  fr : free a b c H m r x
  x0 : 0 ≤ x
  ll : lines.length = k + 1
  at_ : lines[k]? = some x
  tl : told.length = n
theorem held_more {lines more : List Int} {t : Rng} (h : heldR a b c H m r lines t) : heldR a b c H m r (lines ++ more) t := by
  obtain ⟨h1, h2, i, l, h3, h4, h5⟩ := h
  refine ⟨h1, h2, i, l, h3, ?_, h5⟩
  rw [List.getElem?_append_left (List.getElem?_eq_some_iff.mp h4).1]
  exact h4
theorem tell_step (f : Fits a b c H m r) {N start : Int} (hN : 0 ≤ N) {k : Nat} (hk : (k : Int) ≤ N) {x : Int} {lines : List Int} {told : List Rng} {n : Nat} (I : Inv a b c H m r k n ((k : Int) - 1) x lines told) (hn : n = min k (N - m + 1).toNat) (hkb : k < 900) :
    ∃ told', tellsG (everHS a b c H m r start) r (k : Int) x (marksAt (likeP a b c H m r N start) (k : Int)) (stD x (psOf told)) told = some (.inr (stD x (psOf told'), told')) ∧ Inv a b c H m r k (min (k + 1) (N - m + 1).toNat) (k : Int) x lines told' := by
  rw [like_marks f.m1 hN k hk]
  obtain ⟨p1, p2, p3⟩ := page_ok f I.x0 I.fr
  have r1 := f.r1
  by_cases h : (k : Int) + m ≤ N
  · rw [if_pos h]
    have hl : (psOf told).length < 1000 := by
      unfold psOf
      rw [List.length_map, I.tl]
      omega
    refine ⟨told ++ [((k : Int), (k : Int) + m, rPage a b c H r x m, rPage a b c H r x m + r - 1)], ?_, ?_⟩
    · have et : (everHS a b c H m r start).t (stD x (psOf told)) (k : Int) x ((k : Int) + m) = some (stD x (psOf told ++ [((k : Int) + m, rPage a b c H r x m)]), rPage a b c H r x m, rPage a b c H r x m + r - 1) := by
        show (match decS (stD x (psOf told)) with
          | some (y, ps) => some (stD y (ps ++ [((k : Int) + m, rPage a b c H r x ((k : Int) + m - k))]), rPage a b c H r x ((k : Int) + m - k), rPage a b c H r x ((k : Int) + m - k) + r - 1)
          | none => none) = _
        rw [decS_st hl, show (k : Int) + m - k = m by omega]
      have er : rightR r (rPage a b c H r x m) (rPage a b c H r x m + r - 1) = true := by
        unfold rightR
        exact decide_eq_true (by omega)
      unfold tellsG
      rw [et]
      simp only
      rw [if_pos er]
      unfold tellsG psOf
      rw [List.map_append]
      rfl
    · have hps : psOf (told ++ [((k : Int), (k : Int) + m, rPage a b c H r x m, rPage a b c H r x m + r - 1)]) = psOf told ++ [((k : Int) + m, rPage a b c H r x m)] := by
        unfold psOf
        rw [List.map_append]
        rfl
      refine ⟨fun t ht => ?_, fun q hq => ?_, fun q hq hqk => ?_, I.fr, I.x0, I.ll, I.at_, ?_⟩
      · rcases List.mem_append.mp ht with ht | ht
        · exact I.held t ht
        · rw [List.mem_singleton.mp ht]
          obtain ⟨w1, w2⟩ := p2
          unfold rBegin at w1
          exact ⟨by simp only; omega, rfl, k, x, rfl, I.at_, by simp only; omega, by simp only; rw [show rPage a b c H r x m + r - 1 = rPage a b c H r x m + r - 1 from rfl]; exact w2, p3⟩
      · rw [hps] at hq
        rcases List.mem_append.mp hq with hq | hq
        · have := I.le q hq
          omega
        · rw [List.mem_singleton.mp hq]
          exact Int.le_refl _
      · rw [hps] at hq
        rcases List.mem_append.mp hq with hq | hq
        · exact I.win q hq hqk
        · rw [List.mem_singleton.mp hq]
          simp only
          rw [show (k : Int) + m - k = m by omega]
          exact p2
      · rw [List.length_append, I.tl]
        simp only [List.length_cons, List.length_nil]
        omega
  · rw [if_neg h]
    refine ⟨told, rfl, I.held, fun q hq => ?_, I.win, I.fr, I.x0, I.ll, I.at_, ?_⟩
    · have := I.le q hq
      omega
    · rw [I.tl]
      omega
theorem step_ok (f : Fits a b c H m r) {N start : Int} (hN : 0 ≤ N) {k : Nat} (hk : (k : Int) + 1 ≤ N) {x L : Int} {lines : List Int} {told : List Rng} (I : Inv a b c H m r k (min (k + 1) (N - m + 1).toNat) (k : Int) x lines told) (hkb : k < 800) (L1 : a ≤ L) (L2 : L ≤ b) :
    ∃ x' told', stepG (everHS a b c H m r start) (likeP a b c H m r N start) c ((k : Int) + 1) L (stD x (psOf told)) x told = some (.inr (stD x' (psOf told'), x', told')) ∧ Inv a b c H m r (k + 1) (min (k + 1 + 1) (N - m + 1).toNat) ((k + 1 : Nat) : Int) x' (lines ++ [x']) told' := by
  have H1 := f.H1
  have a0 := f.a0
  obtain ⟨s1, s2, s3, s4⟩ := set_ok f (k := (k : Int) + 1) (x := x) (L := L) (ps := psOf told) (fun q hq => by have := I.le q hq; omega) (fun q hq hqk => by
    have := I.win q hq (by omega)
    rw [show q.1 - ((k : Int) + 1 - 1) = q.1 - k by omega]
    exact this) L1 L2
  have hl : (psOf told).length < 1000 := by
    unfold psOf
    rw [List.length_map, I.tl]
    omega
  generalize hpad : setPad a b c H m r ((k : Int) + 1) L x (psOf told) = pad at s1 s2 s3 s4
  have es : (everHS a b c H m r start).s (stD x (psOf told)) ((k : Int) + 1) L = some (stD (x + L + pad) (psOf told), pad) := by
    show (match decS (stD x (psOf told)) with
      | some (y, ps) => some (stD (y + L + setPad a b c H m r ((k : Int) + 1) L y ps) ps, setPad a b c H m r ((k : Int) + 1) L y ps)
      | none => none) = _
    rw [decS_st hl]
    simp only
    rw [hpad]
  have ex : x + (L + pad) = x + L + pad := by omega
  have eH : (likeP a b c H m r N start).H = H := rfl
  have er : (likeP a b c H m r N start).r = r := rfl
  have hw : wrongIn ((k : Int) + 1) ((x + L + pad) / H + 1) told = none := by
    unfold wrongIn
    rw [List.find?_eq_none]
    intro t ht hd
    obtain ⟨d1, d2⟩ := of_decide_eq_true hd
    obtain ⟨w1, w2⟩ := s4 (t.2.1, t.2.2.1) (List.mem_map.mpr ⟨t, ht, rfl⟩) (by omega)
    obtain ⟨h1, _⟩ := I.held t ht
    unfold rBegin at w1
    simp only at w1 w2
    rw [d1, Int.sub_self, Int.zero_mul] at w1 w2
    refine d2 ⟨?_, ?_⟩
    · have : t.2.2.1 - 1 ≤ (x + L + pad) / H := by
        rw [Int.le_ediv_iff_mul_le (by omega)]
        omega
      omega
    · have : (x + L + pad) / H < t.2.2.1 + r - 1 := by
        rw [Int.ediv_lt_iff_lt_mul (by omega)]
        omega
      omega
  have ec : (k : Int) + 1 = ((k + 1 : Nat) : Int) := by omega
  obtain ⟨told', ht, I'⟩ := tell_step f (N := N) (start := start) hN (k := k + 1) (by omega) (x := x + L + pad) (lines := lines ++ [x + L + pad]) (told := told) (n := min (k + 1) (N - m + 1).toNat)
    ⟨fun t ht => held_more (I.held t ht), fun q hq => by have := I.le q hq; omega, fun q hq hqk => by rw [← ec]; exact s4 q hq (by omega), s3, by have := I.x0; omega, by rw [List.length_append, I.ll]; rfl, by rw [List.getElem?_append_right (by rw [I.ll]; omega), I.ll, Nat.sub_self]; rfl, I.tl⟩ rfl (by omega)
  refine ⟨x + L + pad, told', ?_, I'⟩
  unfold stepG
  rw [es]
  simp only
  rw [if_neg (fun z => z ⟨s1, s2⟩), ex, eH, hw, er]
  simp only
  rw [ec, ht]
theorem play_all (f : Fits a b c H m r) {N start : Int} (hN : 0 ≤ N) (hN2 : N ≤ 100) {src : Int → Int → List Rng → Option Int} (hsrc : ∀ (j : Nat) (line : Int) (told : List Rng), (j : Int) + 1 ≤ N → ∃ L, src ((j : Int) + 1) line told = some L ∧ a ≤ L ∧ L ≤ b) :
    ∀ (n k : Nat) (x : Int) (lines : List Int) (told : List Rng) (lens : List Int), (k : Int) + n = N → Inv a b c H m r k (min (k + 1) (N - m + 1).toNat) (k : Int) x lines told →
      ∃ (lines' : List Int) (told' : List Rng) (lens' : List Int), playG (everHS a b c H m r start) src (likeP a b c H m r N start) (List.replicate n (a, b, c)) ((k : Int) + 1) (stD x (psOf told)) x lines told lens = some (trueD lines' told', lens ++ lens') ∧
        playedG (everHS a b c H m r start) (likeP a b c H m r N start) (List.replicate n (a, b, c)) lens' ((k : Int) + 1) (stD x (psOf told)) x lines told = some (trueD lines' told') ∧ lens'.length = n ∧ (∀ L ∈ lens', a ≤ L ∧ L ≤ b) ∧ (∀ t ∈ told', heldR a b c H m r lines' t) ∧ told'.length = (N - m + 1).toNat
  | 0, k, x, lines, told, lens, hk, I => by
    refine ⟨lines, told, [], by simp [playG], by simp [playedG], rfl, (fun L h => by cases h), I.held, ?_⟩
    rw [I.tl]
    have := f.m1
    omega
  | n + 1, k, x, lines, told, lens, hk, I => by
    obtain ⟨L, hL, L1, L2⟩ := hsrc k x told (by omega)
    obtain ⟨x', told2, hst, I'⟩ := step_ok f (N := N) (start := start) hN (by omega) I (by omega) L1 L2
    obtain ⟨lines', told', lens', h1, h2, h3, h4, h5, h6⟩ := play_all f hN hN2 hsrc n (k + 1) x' (lines ++ [x']) told2 (lens ++ [L]) (by omega) I'
    have ec : (k : Int) + 1 + 1 = ((k + 1 : Nat) : Int) + 1 := by omega
    refine ⟨lines', told', L :: lens', ?_, ?_, by rw [List.length_cons, h3], fun z hz => ?_, h5, h6⟩
    · rw [List.replicate_succ]
      unfold playG
      rw [hL]
      simp only
      rw [hst]
      simp only
      rw [ec, h1, List.append_assoc]
      rfl
    · rw [List.replicate_succ]
      unfold playedG
      simp only
      rw [hst]
      simp only
      rw [ec]
      exact h2
    · rcases List.mem_cons.mp hz with rfl | hz
      · exact ⟨L1, L2⟩
      · exact h4 z hz
theorem course (f : Fits a b c H m r) {N start : Int} (hN : 0 ≤ N) (hN2 : N ≤ 100) (hs0 : 0 ≤ start) (hs : free a b c H m r start) {src : Int → Int → List Rng → Option Int} (hsrc : ∀ (j : Nat) (line : Int) (told : List Rng), (j : Int) + 1 ≤ N → ∃ L, src ((j : Int) + 1) line told = some L ∧ a ≤ L ∧ L ≤ b) :
    ∃ (lines : List Int) (told : List Rng) (lens : List Int), lawPlay (everHS a b c H m r start) src (likeP a b c H m r N start) = some (trueD lines told, lens) ∧ Kp.played (everHS a b c H m r start) (likeP a b c H m r N start) lens = some (trueD lines told) ∧ lens.length = N.toNat ∧ (∀ L ∈ lens, a ≤ L ∧ L ≤ b) ∧ (∀ t ∈ told, heldR a b c H m r lines t) ∧ told.length = (N - m + 1).toNat := by
  obtain ⟨told0, ht, I⟩ := tell_step f (N := N) (start := start) hN (k := 0) (by omega) (x := start) (lines := [start]) (told := []) (n := 0)
    ⟨fun t h => (by cases h), fun q h => (by cases h), fun q h => (by cases h), hs, hs0, rfl, rfl, rfl⟩ (by omega) (by omega)
  obtain ⟨lines', told', lens', h1, h2, h3, h4, h5, h6⟩ := play_all f hN hN2 hsrc N.toNat 0 start [start] told0 [] (by omega) I
  have ht : tellsG (everHS a b c H m r start) (likeP a b c H m r N start).r 0 (likeP a b c H m r N start).s (marksAt (likeP a b c H m r N start) 0) (everHS a b c H m r start).b [] = some (.inr (stD start (psOf told0), told0)) := ht
  refine ⟨lines', told', lens', ?_, ?_, h3, h4, h5, h6⟩
  · unfold lawPlay
    rw [ht]
    exact h1
  · unfold Kp.played
    rw [ht]
    exact h2
end
end K77

namespace K77
open PySem L2 Ct Kp PyProof.Rows
/-! _law_course_holds -/
-- hyps: (hH : ∀ (a b c H m r : Int) (p : PlanR), Good a b c H m r → HouseV P w K mg base T kClo (everHS a b c H m r p.s) (planO K C_Plan p) (evB K) (evT K a b c H m r) (evS K a b c H m r))
-- hyps: (hLis : ∀ Ls : List Int, FnV P w K mg base T kClo (lisV K Ls) 3 (qSrc (srcL Ls)))
-- hyps: (hSk : ∀ a b c H m r seed : Int, Good a b c H m r → FnV P w K mg base T kClo (skV K a b c H m r seed) 3 (qSrc (srcS a b c H m r seed)))
def srcS (a b c H m r seed : Int) (k line : Int) (_ : List Rng) : Option Int := if 0 ≤ k ∧ k ≤ 1000 then some (seekF a b c H m r seed k line) else none
theorem Grow.refl {st : Sto} {n : Nat} : Grow st st n := ⟨Nat.le_refl _, fun _ _ _ => rfl⟩
theorem Grow.trans {a b c : Sto} {n : Nat} (h : Grow a b n) (g : Grow b c n) : Grow a c n := ⟨Nat.le_trans h.len g.len, fun k hk hn => (g.at_ k (Nat.lt_of_lt_of_le hk h.len) hn).trans (h.at_ k hk hn)⟩
theorem only_grow {a b : Sto} {n : Nat} (h : Only a b n) : Grow a b n := ⟨by rw [h.len]; exact Nat.le_refl _, fun k _ hn => h.at_ k hn⟩
theorem Grow.app {st jk : Sto} {n : Nat} : Grow st (st ++ jk) n := ⟨by simp, fun k hk _ => List.getElem?_append_left hk⟩
theorem Grow.set {st : Sto} {n k : Nat} {c : Cell} {st0 : Sto} (g : Grow st0 st n) (h : st0.length ≤ k) : Grow st0 (st.set k c) n := ⟨by rw [List.length_set]; exact g.len, fun i hi hn => by rw [List.getElem?_set_ne (by omega)]; exact g.at_ i hi hn⟩
theorem pur_app {st jk : Sto} {n : Nat} (h : Pur st n) : Pur (st ++ jk) n := by
  obtain ⟨a, b, c, e⟩ := h
  exact ⟨a, b, c, get_app_l e⟩
theorem pur_set {st : Sto} {n k : Nat} {c : Cell} (h : Pur st n) (hk : k ≠ n) : Pur (st.set k c) n := by
  obtain ⟨a, b, c, e⟩ := h
  exact ⟨a, b, c, by rw [List.getElem?_set_ne hk]; exact e⟩
theorem sh_plan {k : Nat} (p : PlanR) : Sh (k + 3) (.tuple [.int p.s, pagesD p.H, .int p.r, .list (p.ss.map secD), .list (p.ts.map pairT)]) := sh_tuple fun e he => by
  simp only [List.mem_cons, List.not_mem_nil, or_false] at he
  rcases he with rfl | rfl | rfl | rfl | rfl
  · exact sh_int _
  · exact sh_tuple fun e he => by
      simp only [List.mem_cons, List.not_mem_nil, or_false] at he
      rcases he with rfl | rfl
      · exact sh_str _ (by decide +kernel)
      · exact sh_int _
  · exact sh_int _
  · exact sh_list fun e he => by
      obtain ⟨x, _, rfl⟩ := List.mem_map.mp he
      exact sh_tuple fun e he => by
        simp only [List.mem_cons, List.not_mem_nil, or_false] at he
        rcases he with rfl | rfl | rfl <;> exact sh_int _
  · exact sh_pairs _
theorem sh_true {k : Nat} (lines : List Int) (told : List Rng) : Sh (k + 3) (trueD lines told) := sh_tuple fun e he => by
  simp only [List.mem_cons, List.not_mem_nil, or_false] at he
  rcases he with rfl | rfl | rfl
  · exact sh_str _ (by decide +kernel)
  · exact sh_list fun e he => by
      obtain ⟨x, _, rfl⟩ := List.mem_map.mp he
      exact sh_int _
  · exact sh_list fun e he => by
      obtain ⟨x, _, rfl⟩ := List.mem_map.mp he
      exact sh_tuple fun e he => by
        simp only [List.mem_cons, List.not_mem_nil, or_false] at he
        rcases he with rfl | rfl | rfl | rfl <;> exact sh_int _
theorem seek_bd {a b c H m r seed k line : Int} (hab : a ≤ b) : a ≤ seekF a b c H m r seed k line ∧ seekF a b c H m r seed k line ≤ b := by
  have key : ∀ {f : Int → Bool} {L : Int}, (rngI a b).find? f = some L → a ≤ L ∧ L ≤ b := fun {f L} h => by
    have := List.mem_of_find?_eq_some h
    unfold rngI at this
    obtain ⟨i, hi, rfl⟩ := List.mem_map.mp this
    have := List.mem_range.mp hi
    omega
  unfold seekF
  split
  · rename_i h
    exact key h
  · split
    · rename_i h
      exact key h
    · have h1 := Int.emod_nonneg (seed + k * line) (show b - a + 1 ≠ 0 by omega)
      have h2 := Int.emod_lt_of_pos (seed + k * line) (show 0 < b - a + 1 by omega)
      omega
theorem wS_nil {H m over : Int} : ∀ {k : Int} {l : List (Int × Int)}, waysS H m over k l = [] → ∀ x ∈ l, x.1 < H - over
  | k, [], _, x, hx => by cases hx
  | k, (s, y) :: t, h, x, hx => by
    unfold waysS at h
    rw [List.append_eq_nil_iff] at h
    obtain ⟨h1, h2⟩ := h
    rcases List.mem_cons.mp hx with rfl | hx
    · by_cases e : s ≥ H - over
      · rw [if_pos e] at h1; cases h1
      · show s < H - over
        omega
    · exact wS_nil h2 x hx
theorem wO_nil {H m over : Int} : ∀ {k : Int} {l : List (Int × Int)}, waysO H m over k l = [] → ∀ x ∈ l, ¬ (1 ≤ x.2 ∧ x.2 ≤ over)
  | k, [], _, x, hx => by cases hx
  | k, (s, y) :: t, h, x, hx => by
    unfold waysO at h
    rw [List.append_eq_nil_iff] at h
    obtain ⟨h1, h2⟩ := h
    rcases List.mem_cons.mp hx with rfl | hx
    · intro e
      rw [if_pos e] at h1
      cases h1
    · exact wO_nil h2 x hx
theorem rems_mem {a b c H m k : Int} (h1 : 1 ≤ k) (h2 : k ≤ m) : (k * (a + c) % H, k * b % H) ∈ rems a b c H m := by
  unfold rems
  refine List.mem_map.mpr ⟨(k - 1).toNat, List.mem_range.mpr (by omega), ?_⟩
  rw [show (1 + (((k - 1).toNat : Nat) : Int)) = k by omega]
theorem fits_of {a b c H m r : Int} (G : Good a b c H m r) (h : isC (forEver a b c H m r) = false) : Fits a b c H m r := by
  obtain ⟨⟨g1, g2, g3, g4, g5⟩, ⟨g6, g7, g8⟩, _⟩ := G
  refine ⟨g1, g2, g4, g5, g6, g7, g8, ?_⟩
  unfold forEver at h
  by_cases h1 : overOf a b c H m r ≤ 0
  · exact .inl h1
  rw [if_neg h1] at h
  by_cases h2 : overOf a b c H m r ≥ H
  · rw [if_pos h2] at h
    cases h
  rw [if_neg h2] at h
  have hw : caughtWays a b c H m (overOf a b c H m r) = [] := by
    cases e : caughtWays a b c H m (overOf a b c H m r) with
    | nil => rfl
    | cons x t =>
      rw [e] at h
      cases h
  unfold caughtWays at hw
  rw [List.append_eq_nil_iff, List.append_eq_nil_iff] at hw
  obtain ⟨⟨w1, w2⟩, w3⟩ := hw
  refine .inr ⟨by omega, by omega, ?_, fun k k1 k2 => ?_, fun k k1 k2 => ?_⟩
  · by_cases e : overOf a b c H m r > c
    · rw [if_pos e] at w1
      cases w1
    · omega
  · have := wS_nil w2 _ (rems_mem k1 k2)
    simp only at this
    omega
  · have h3 := wO_nil w3 _ (rems_mem (a := a) (b := b) (c := c) (H := H) k1 k2)
    simp only at h3
    have := Int.emod_nonneg (k * b) (show H ≠ 0 by omega)
    omega
theorem free_gap {a b c H m r x : Int} : isGap a b c H m r x = false ↔ free a b c H m r x := by
  unfold isGap free
  rw [decide_eq_false_iff_not]
  omega
def pre__law_course_holds (K : PySem.W.Frag) : Pre := fun xs st Φ => ∃ (n : Nat) (a b c H m r many start kind : Int), xs = [.cell n, .pd (likeD a b c H m r), .pd (.int many), .pd (.int start), .pd (.int kind)] ∧ Good a b c H m r ∧ isC (forEver a b c H m r) = false ∧ (0 ≤ many ∧ many ≤ 60) ∧ (0 ≤ start ∧ start ≤ 1000000) ∧ b - a + 1 < 1000 ∧
  isGap a b c H m r start = false ∧ Pur st n ∧ ∀ st' : Sto, Grow st st' n → Pur st' n → Φ (.pd (.bool true)) st'
end K77

namespace K77
open PySem L2 Ct Kp PyProof.Rows
/-! law -/
def pre_law : Pre := fun xs st Φ => ∃ ns : List Int, xs = [.pd (.list (ns.map PyData.int))] ∧ ns.length ≤ 63 ∧ ∀ st', Φ (.pd (.bool true)) st'
theorem sh_ver {k : Nat} (v : Ver) : Sh (k + 2) (eVer v) := by
  cases v with
  | covered =>
    exact sh_tuple fun e he => by
      simp only [List.mem_cons, List.not_mem_nil, or_false] at he
      rcases he with rfl | rfl <;> exact sh_str _ (by decide +kernel)
  | jumped =>
    exact sh_tuple fun e he => by
      simp only [List.mem_cons, List.not_mem_nil, or_false] at he
      rcases he with rfl | rfl <;> exact sh_str _ (by decide +kernel)
  | page m =>
    exact sh_tuple fun e he => by
      simp only [List.mem_cons, List.not_mem_nil, or_false] at he
      rcases he with rfl | rfl | rfl
      · exact sh_str _ (by decide +kernel)
      · exact sh_int _
      · exact sh_tuple fun e he => by
          rw [List.mem_singleton.mp he]
          exact sh_str _ (by decide +kernel)
  | caught n w =>
    exact sh_tuple fun e he => by
      simp only [List.mem_cons, List.not_mem_nil, or_false] at he
      rcases he with rfl | rfl | rfl
      · exact sh_str _ (by decide +kernel)
      · exact sh_int _
      · exact sh_way _
theorem ver_tup (v : Ver) : ∃ ds, eVer v = .tuple ds := by
  cases v <;> exact ⟨_, rfl⟩
theorem purse_pur {st : Sto} {n : Nat} {a b c : Int} (h : st[n]? = some (.mu [.int a, .int b, .int c])) : Pur st n := ⟨a, b, c, h⟩
def freeL (a b c H m r : Int) : List Int := ((List.range (3 * H).toNat).map fun (i : Nat) => (0 : Int) + (i : Int)).filter fun l => !isGap a b c H m r l
theorem freeL_mem {a b c H m r l : Int} (h : l ∈ freeL a b c H m r) : 0 ≤ l ∧ l < 3 * H ∧ isGap a b c H m r l = false := by
  unfold freeL at h
  obtain ⟨h1, h2⟩ := List.mem_filter.mp h
  obtain ⟨i, hi, rfl⟩ := List.mem_map.mp h1
  have := List.mem_range.mp hi
  exact ⟨by omega, by omega, by simpa using h2⟩
theorem freeL_ne {a b c H m r : Int} (f : Fits a b c H m r) : freeL a b c H m r ≠ [] := by
  have H1 := f.H1
  have h1 := Int.emod_nonneg (-(m * b) - 1) (show H ≠ 0 by omega)
  have h2 := Int.emod_lt_of_pos (-(m * b) - 1) (show 0 < H by omega)
  refine List.ne_nil_of_mem (a := (-(m * b) - 1) % H) (List.mem_filter.mpr ⟨List.mem_map.mpr ⟨((-(m * b) - 1) % H).toNat, List.mem_range.mpr (by omega), by omega⟩, ?_⟩)
  have hf : isGap a b c H m r ((-(m * b) - 1) % H) = false := by
    rw [free_gap, free_iff f]
    rcases f.ev with h | ⟨o1, o2, _⟩
    · exact .inl h
    · right
      rw [Int.emod_add_emod, show -(m * b) - 1 + m * b = (H - 1) + H * -1 by omega, Int.add_mul_emod_self_left, Int.emod_eq_of_lt (by omega) (by omega)]
      omega
  rw [hf]
  rfl
theorem likeOk_small {a b c H m r : Int} (h : LikeOk a b c H m r) : b - a + 1 < 1000 ∧ 3 * H ≤ 36 := by
  obtain ⟨h1, h2, h3, h4, h5, h6, h7, h8, h9, h10, h11, h12, h13⟩ := h
  omega
theorem pur_grow {a b : Sto} {n k : Nat} (h : Grow a b n) (hk : k < a.length) (hn : k ≠ n) (p : Pur a k) : Pur b k := by
  obtain ⟨x, y, z, e⟩ := p
  exact ⟨x, y, z, by rw [h.at_ k hk hn]; exact e⟩
end K77

namespace K77
open PySem L2 Ct Kp PyProof.Rows
section
variable {P : Program} {w : World} {K : PySem.W.Frag} {mg : Str → Option Value} {base : Heap} {T : TabI} {TN : List NdefX.NTab} {C_Plan C_Play C_Ruler : Addr}
local macro_rules | `(tactic| walk_at "we") => `(tactic| first
  | (with_reducible refine we_var (by with_unfolding_all rfl) ?_) | (with_reducible refine we_c (by with_unfolding_all rfl) ?_) | (with_reducible refine we_op ?_) | (with_reducible refine we_un ?_) | (with_reducible refine we_call ?_) | (with_reducible refine we_cb ?_) | (with_reducible refine we_tup ?_)
  | (with_reducible refine we_if ?_) | (with_reducible refine we_chain ?_) | (with_reducible refine we_andV ?_) | (with_reducible refine we_orV ?_) | (with_reducible refine we_notV ?_) | (with_reducible refine we_lst ?_) | (with_reducible refine we_slL ?_) | (with_reducible refine we_ty ?_))
local macro_rules | `(tactic| walk_at "wr") => `(tactic| first
  | (with_reducible refine wr_ixuT (by with_unfolding_all rfl) ?_) | (with_reducible refine wr_ixuL (by first | exact look_end | with_unfolding_all rfl) (by with_unfolding_all rfl) ?_) | (with_reducible refine wr_addI ?_) | (with_reducible refine wr_sub ?_) | (with_reducible refine wr_lt ?_) | (with_reducible refine wr_le ?_)
  | (with_reducible refine wr_mod (by omega) ?_) | (with_reducible refine wr_div (by omega) ?_) | (with_reducible refine wr_mul (by unfold CMul; omega) ?_) | (with_reducible refine wr_eqInt ?_) | (with_reducible refine wr_neInt ?_) | (with_reducible refine wr_eqStr (by decide +kernel) (by decide +kernel) ?_)
  | (with_reducible refine wr_neStr (by decide +kernel) (by decide +kernel) ?_) | (with_reducible refine wr_ip ?_) | (with_reducible refine wr_I0 (by with_unfolding_all rfl) ?_) | (with_reducible refine wr_isN ?_) | (with_reducible refine wr_notN ?_))
local macro_rules | `(tactic| walk_at "ws") => `(tactic| first
  | (with_reducible refine ws_sA ?_) | (with_reducible refine ws_sD ?_) | (with_reducible refine ws_sG (by with_unfolding_all rfl) ?_) | (with_reducible refine ws_sS ?_) | (with_reducible refine ws_asg ?_) | (with_reducible refine ws_retEnd (by with_unfolding_all rfl) ?_) | (with_reducible refine ws_ret ?_) | (with_reducible refine ws_if ?_)
  | (with_reducible refine ws_appEnd (by with_unfolding_all rfl) (by first | omega | (simp only [List.length_map, List.length_append, List.length_cons, List.length_nil] <;> omega)) ?_) | (with_reducible refine ws_drop ?_) | (with_reducible refine ws_next ?_) | (with_reducible refine ws_brk ?_) | (with_reducible refine ws_cont ?_) | (with_reducible refine ws_aug (by with_unfolding_all rfl) ?_))
local macro_rules | `(tactic| walk_at "wt") => `(tactic| first
  | (with_reducible refine wt_test ?_) | (with_reducible refine wt_B ?_) | (with_reducible refine wt_and ?_) | (with_reducible refine wt_or ?_) | (with_reducible refine wt_not ?_) | (with_reducible refine wt_yes ?_))
local macro_rules | `(tactic| walk_at "wc") => `(tactic| first
  | (with_reducible refine wc_abs ?_) | (with_reducible refine wc_int ?_) | (with_reducible refine wc_max2 ?_) | (with_reducible refine wc_min2 ?_) | (with_reducible refine wc_len (by first | exact look_end | with_unfolding_all rfl) ?_))
local macro_rules | `(tactic| walk_at "wg") => `(tactic| first
  | (with_reducible refine wg_name ?_) | (with_reducible refine wg_tup (by with_unfolding_all rfl) ?_) | (with_reducible refine wg_orT (by with_unfolding_all rfl) ?_) | (with_reducible refine wg_orL (by with_unfolding_all rfl) ?_))
local macro_rules | `(tactic| walk_at "wx") => `(tactic| first
  | (with_reducible refine ⟨_, _, (by (repeat apply purs_cons); exact purs_nil), (by simp only [List.length_cons, List.length_nil]; decide +kernel), ?_⟩)
  | (with_reducible refine ⟨_, (by with_unfolding_all rfl), ?_⟩) | (with_reducible refine ⟨_, _, (by with_unfolding_all rfl), (by with_unfolding_all rfl), ?_⟩))
local macro_rules | `(tactic| walk_at "e") => `(tactic| first
  | ((with_reducible show Ct.WE _ _ _ _ _ _); walk_at "we") | ((with_reducible show Ct.WR _ _ _ _ _ _ _); walk_at "wr") | ((with_reducible show Ct.WA _ _ _ _ _ _); first | (with_reducible refine wa_cons ?_) | (with_reducible refine wa_nil ?_))
  | ((with_reducible show Ct.WS _ _ _ _ _ _); walk_at "ws") | ((with_reducible show Ct.WT _ _ _ _ _ _); walk_at "wt") | ((with_reducible show Ct.WC _ _ _ _ _ _); walk_at "wc") | ((with_reducible show Ct.WG _ _ _ _ _ _ _); walk_at "wg")
  | ((with_reducible show Ct.WGs _ _ _ _ _ _ _); first | (with_reducible refine wgs_consM ?_) | (with_reducible refine wgs_nilM ?_)) | ((with_reducible show Ct.WO _ _ _ _ _ _); first | (with_reducible refine wo_none ?_) | (with_reducible refine wo_part ?_))
  | (with_reducible refine wu_neg ?_) | ((with_reducible show Exists _); walk_at "wx"))
local macro_rules | `(tactic| walk_at "s") => `(tactic| repeat walk_at "e")
local macro_rules | `(tactic| walk_at "f") => `(tactic| (refine ws_seq ?_; repeat walk_at "e"))
local macro_rules | `(tactic| walk_at "c") => `(tactic| ((refine ws_seq (ws_asg (we_lstC ?_))); (repeat walk_at "e")))
local macro_rules | `(tactic| walk_at "g") => `(tactic| repeat (first | walk_at "e" | (with_reducible refine ws_seq (ws_if ?_))))
local macro_rules | `(tactic| walk_at "n") => `(tactic| ((repeat (with_reducible refine putG_lt ?_)); exact Nat.zero_lt_succ _))
/-! ### is_whole -/
abbrev N_is_whole : List Str := ["value"]
theorem sc_is_whole : FnScope N_is_whole ["value"] (defScope s_is_whole) := ⟨rfl, rfl, rfl, by decide +kernel, rfl, by decide +kernel, by decide +kernel⟩
theorem ok_is_whole (Z : Zs mg) (dd : Df K mg "is_whole" s_is_whole) : Cal P w K mg base 1 "is_whole" ["value"] (spP K T 1 pre_is_whole) := by
  refine dd.cal (fun f fd F => F.ok sc_is_whole (fun vs H Q E h => spP_len h) fun cdv A outer s H vs Q E hr h => ?_) (fun _ _ _ _ _ _ us hl => match us, hl with | [_], _ => rfl)
  have nd := sc_is_whole.nd
  have hu := room_u hr
  refine ⟨_, (pss_one (ps_ret (pe_and (pe_callB (call_isiK (K := K) rfl) (by rfl) Z.isinstance boot_isinstance (pa_cons (pv 0) (pa_cons (pe_tyN (by rfl) Z.int_ boot_int) pa_nil))) (pe_one (pe_not (pe_callB (call_isiK (K := K) rfl) (by rfl) Z.isinstance boot_isinstance (pa_cons (pv 0) (pa_cons (pe_tyN (by rfl) Z.bool_ boot_bool) pa_nil)))))))), fn_run h ?_⟩
  intro xs st Φ hl hp
  clear hl h hu hr nd
  try dsimp only [L2.cxOf, NdefX.ncx]
  obtain ⟨d, rfl, ⟨i, rfl⟩, q⟩ := hp
  refine ws_ret (we_andV (we_cb (wa_cons (we_var rfl (wa_cons (we_ty (wa_nil (wc_isi rfl rfl ?_))))))))
  refine ⟨_, rfl, fun _ => we_notV (we_cb (wa_cons (we_var rfl (wa_cons (we_ty (wa_nil (wc_isi rfl rfl ?_))))))), fun h => by cases h⟩
  exact ⟨_, rfl, fin_pd (by simp) q⟩
/-! ### whole_from -/
abbrev N_whole_from : List Str := ["value", "least"]
theorem sc_whole_from : FnScope N_whole_from ["value", "least"] (defScope s_whole_from) := ⟨rfl, rfl, rfl, by decide +kernel, rfl, by decide +kernel, by decide +kernel⟩
theorem ok_whole_from (c_is_whole : Cal P w K mg base 1 "is_whole" ["value"] (spP K T 1 pre_is_whole)) (dd : Df K mg "whole_from" s_whole_from) : Cal P w K mg base 2 "whole_from" ["value", "least"] (spP K T 2 pre_whole_from) := by
  refine dd.cal (fun f fd F => F.ok sc_whole_from (fun vs H Q E h => spP_len h) fun cdv A outer s H vs Q E hr h => ?_) (fun _ _ _ _ _ _ us hl => match us, hl with | [_, _], _ => rfl)
  have nd := sc_whole_from.nd
  have hu := room_u hr
  refine ⟨_, (pss_one (ps_ret (pe_and (pe_callC c_is_whole (hr.mono (by decide)) (by rfl) (pa_cons (pv 0) pa_nil)) (pe_one (pe_cmpR op_ge (pv 0) (pv 1) (nomark _)))))), fn_run h ?_⟩
  intro xs st Φ hl hp
  clear hl h hu hr nd
  try dsimp only [L2.cxOf, NdefX.ncx]
  obtain ⟨i, j, rfl, q⟩ := hp
  refine ws_ret (we_andV (we_call (wa_cons (we_var rfl (wa_nil ⟨rfl, _, rfl, ⟨_, rfl⟩, ?_⟩)))))
  refine ⟨_, rfl, fun _ => we_op (we_var rfl (we_var rfl (wr_I0 rfl ?_))), fun h => by cases h⟩
  exact fin_pd (by simp) q
/-! ### check_most -/
abbrev N_check_most : List Str := ["what", "many", "most"]
theorem sc_check_most : FnScope N_check_most ["what", "many", "most"] (defScope s_check_most) := ⟨rfl, rfl, rfl, by decide +kernel, rfl, by decide +kernel, by decide +kernel⟩
theorem ok_check_most (c_is_whole : Cal P w K mg base 1 "is_whole" ["value"] (spP K T 1 pre_is_whole)) (dd : Df K mg "check_most" s_check_most) : Cal P w K mg base 2 "check_most" ["what", "many", "most"] (spP K T 3 pre_check_most) := by
  refine dd.cal (fun f fd F => F.ok sc_check_most (fun vs H Q E h => spP_len h) fun cdv A outer s H vs Q E hr h => ?_) (fun _ _ _ _ _ _ us hl => match us, hl with | [_, _, _], _ => rfl)
  have nd := sc_check_most.nd
  have hu := room_u hr
  refine ⟨_, (pss_one (ps_if (PW.pt (pw_and (pt_val (pe_callC c_is_whole (hr.mono (by decide)) (by rfl) (pa_cons (pv 1) pa_nil))) (pw_and1 (pt_cmpR op_gt (pv 1) (pv 2) (nomark _))))) (pss_one ps_never) pss_nil)), fn_run h ?_⟩
  intro xs st Φ hl hp
  clear hl h hu hr nd
  try dsimp only [L2.cxOf, NdefX.ncx]
  obtain ⟨v, i, m, rfl, hi, q⟩ := hp
  walk_at "s"
  refine ⟨by rfl, _, rfl, ⟨_, rfl⟩, ?_⟩
  walk_at "s"
  refine ⟨fun _ => ?_, fun h => by cases h⟩
  walk_at "s"
  refine ⟨fun h => absurd (of_decide_eq_true h) (by omega), fun _ => ?_⟩
  walk_at "s"
  exact fin_pd (by simp) q
/-! ### check_numbers -/
abbrev N_check_numbers : List Str := ["what", "numbers", "most", "number"]
theorem sc_check_numbers : FnScope N_check_numbers ["what", "numbers", "most"] (defScope s_check_numbers) := ⟨rfl, rfl, rfl, by decide +kernel, rfl, by decide +kernel, by decide +kernel⟩
theorem ok_check_numbers (c_check_most : Cal P w K mg base 2 "check_most" ["what", "many", "most"] (spP K T 3 pre_check_most)) (dd : Df K mg "check_numbers" s_check_numbers) : Cal P w K mg base 3 "check_numbers" ["what", "numbers", "most"] (spP K T 3 pre_check_numbers) := by
  refine dd.cal (fun f fd F => F.ok sc_check_numbers (fun vs H Q E h => spP_len h) fun cdv A outer s H vs Q E hr h => ?_) (fun _ _ _ _ _ _ us hl => match us, hl with | [_, _, _], _ => rfl)
  have nd := sc_check_numbers.nd
  have hu := room_u hr
  refine ⟨_, (pss_one (ps_for PassesOwn.never rfl (pi_or (pi_list (pv 1)) (pi_tup (pv 1))) (pg_name (i := 3) nd rfl (.inl rfl)) (pss_one (ps_expr (pe_callC c_check_most (hr.mono (by decide)) (by rfl) (pa_cons (pv 0) (pa_cons (pv 3) (pa_cons (pv 2) pa_nil)))))))), fn_run h ?_⟩
  intro xs st Φ hl hp
  clear hl h hu hr nd
  try dsimp only [L2.cxOf, NdefX.ncx]
  obtain ⟨v, ns, m, D, rfl, hD, hb, q⟩ := hp
  have hmem : ∀ (i : Nat) (d : PyData), (ns.map PyData.int)[i]? = some d → ∃ n, n ∈ ns ∧ d = .int n := fun i d hd => by
    obtain ⟨n, hn, e⟩ := List.mem_map.mp (List.mem_of_getElem? hd)
    exact ⟨n, hn, e.symm⟩
  rcases hD with rfl | rfl
  · refine ws_forO1 (ws_forL (we_var rfl ?_))
    refine ⟨ns.map .int, rfl, fun i ss' st' => st' = st ∧ ∃ y, ss' = [some (.pd v), some (.pd (.list (ns.map .int))), some (.pd (.int m)), y], ⟨rfl, _, rfl⟩, ?_, ?_⟩
    · rintro i d ss' st' hd ⟨rfl, y, rfl⟩
      obtain ⟨n, hn, rfl⟩ := hmem i d hd
      walk_at "s"
      refine ⟨by rfl, _, _, _, rfl, hb n hn, ?_⟩
      exact ⟨rfl, _, rfl⟩
    · rintro ss' st' ⟨rfl, y, rfl⟩
      exact fin_pd (by simp) q
  · refine ws_forO2 (ws_forT (we_var rfl ?_))
    refine ⟨ns.map .int, rfl, fun i ss' st' => st' = st ∧ ∃ y, ss' = [some (.pd v), some (.pd (.tuple (ns.map .int))), some (.pd (.int m)), y], ⟨rfl, _, rfl⟩, ?_, ?_⟩
    · rintro i d ss' st' hd ⟨rfl, y, rfl⟩
      obtain ⟨n, hn, rfl⟩ := hmem i d hd
      walk_at "s"
      refine ⟨by rfl, _, _, _, rfl, hb n hn, ?_⟩
      exact ⟨rfl, _, rfl⟩
    · rintro ss' st' ⟨rfl, y, rfl⟩
      exact fin_pd (by simp) q
/-! ### check_like -/
abbrev N_check_like : List Str := ["a", "b", "c", "H", "m", "r", "one"]
theorem sc_check_like : FnScope N_check_like ["a", "b", "c", "H", "m", "r"] (defScope s_check_like) := ⟨rfl, rfl, rfl, by decide +kernel, rfl, by decide +kernel, by decide +kernel⟩
theorem ok_check_like (c_whole_from : Cal P w K mg base 2 "whole_from" ["value", "least"] (spP K T 2 pre_whole_from)) (c_is_whole : Cal P w K mg base 1 "is_whole" ["value"] (spP K T 1 pre_is_whole)) (c_check_most : Cal P w K mg base 2 "check_most" ["what", "many", "most"] (spP K T 3 pre_check_most)) (c_check_numbers : Cal P w K mg base 3 "check_numbers" ["what", "numbers", "most"] (spP K T 3 pre_check_numbers)) (x_RANGE : ∃ t, mg "RANGE" = some (.int c_RANGE t)) (x_LEAD : ∃ t, mg "LEAD" = some (.int c_LEAD t)) (x_PAGE : ∃ t, mg "PAGE" = some (.int c_PAGE t)) (x_LENGTHS : ∃ t, mg "LENGTHS" = some (.int c_LENGTHS t)) (dd : Df K mg "check_like" s_check_like) : Cal P w K mg base 4 "check_like" ["a", "b", "c", "H", "m", "r"] (spP K T 6 pre_check_like) := by
  obtain ⟨_, h_RANGE⟩ := x_RANGE
  obtain ⟨_, h_LEAD⟩ := x_LEAD
  obtain ⟨_, h_PAGE⟩ := x_PAGE
  obtain ⟨_, h_LENGTHS⟩ := x_LENGTHS
  refine dd.cal (fun f fd F => F.ok sc_check_like (fun vs H Q E h => spP_len h) fun cdv A outer s H vs Q E hr h => ?_) (fun _ _ _ _ _ _ us hl => match us, hl with | [_, _, _, _, _, _], _ => rfl)
  have nd := sc_check_like.nd
  have hu := room_u hr
  refine ⟨_, (pss_cons (ps_expr (pe_callC c_check_numbers (hr.mono (by decide)) (by rfl) (pa_cons pe_str (pa_cons (pe_lst (pa_cons (pv 0) (pa_cons (pv 1) (pa_cons (pv 2) pa_nil)))) (pa_cons (pe_glob (v := .int c_LENGTHS) rfl h_LENGTHS ⟨_, rfl⟩) pa_nil))))) (pss_cons (ps_expr (pe_callC c_check_most (hr.mono (by decide)) (by rfl) (pa_cons pe_str (pa_cons (pv 3) (pa_cons (pe_glob (v := .int c_PAGE) rfl h_PAGE ⟨_, rfl⟩) pa_nil))))) (pss_cons (ps_expr (pe_callC c_check_most (hr.mono (by decide)) (by rfl) (pa_cons pe_str (pa_cons (pv 4) (pa_cons (pe_glob (v := .int c_LEAD) rfl h_LEAD ⟨_, rfl⟩) pa_nil))))) (pss_cons (ps_expr (pe_callC c_check_most (hr.mono (by decide)) (by rfl) (pa_cons pe_str (pa_cons (pv 5) (pa_cons (pe_glob (v := .int c_RANGE) rfl h_RANGE ⟨_, rfl⟩) pa_nil))))) (pss_cons (ps_if (PW.pt (pw_or (pt_cmpR (op_inK (K := K) rfl) pe_bl (pe_lc (own := [("one", 6)]) (g := gName 6) (tt := tYes) rfl nd (pi_list (pe_lst (pa_cons (pv 0) (pa_cons (pv 1) (pa_cons (pv 2) pa_nil))))) (blkOk_by (N := N_check_like) (sc := defScope s_check_like) (by decide +kernel)) (fun _ _ _ _ _ => (pg_name (i := 6) nd rfl (.inl rfl))) (fun _ _ _ _ _ => pts_nil) (fun _ _ _ _ _ => (pe_callC c_is_whole (hr.mono (by decide)) (by rfl) (pa_cons (pv 6) pa_nil)))) (by rfl)) (pw_or1 (pt_not (PW.pt (pw_and (pt_chain op_le op_le pe_int (pv 0) (pv 1)) (pw_and (pt_cmpR op_le pe_int (pv 1) (nomark _)) (pw_and1 (pt_chain op_le op_le pe_int (pv 2) (pe_op op_sub (pv 1) (pv 0))))))))))) (pss_one ps_never) pss_nil) (pss_cons (ps_if (pt_not (pt_val (pe_callC c_whole_from (hr.mono (by decide)) (by rfl) (pa_cons (pv 3) (pa_cons pe_int pa_nil))))) (pss_one ps_never) pss_nil) (pss_cons (ps_if (pt_not (pt_val (pe_callC c_whole_from (hr.mono (by decide)) (by rfl) (pa_cons (pv 4) (pa_cons pe_int pa_nil))))) (pss_one ps_never) pss_nil) (pss_one (ps_if (pt_not (pt_val (pe_callC c_whole_from (hr.mono (by decide)) (by rfl) (pa_cons (pv 5) (pa_cons pe_int pa_nil))))) (pss_one ps_never) pss_nil))))))))), fn_run h ?_⟩
  intro xs st Φ hl hp
  clear hl h hu hr nd
  try dsimp only [L2.cxOf, NdefX.ncx]
  obtain ⟨a, b, c, H, m, r, rfl, ⟨⟨g1, g2, g3, g4, g5⟩, ⟨g6, g7, g8⟩, g9, g10, g11, g12, g13, g14⟩, q⟩ := hp
  walk_at "s"
  refine ⟨by rfl, _, [a, b, c], _, _, rfl, .inl rfl, ?_, ?_⟩
  · intro n hn
    simp at hn
    show n ≤ 10000
    omega
  walk_at "s"
  refine ⟨by rfl, _, _, _, rfl, by show H ≤ 10000; omega, ?_⟩
  walk_at "s"
  refine ⟨by rfl, _, _, _, rfl, by show m ≤ 40; omega, ?_⟩
  walk_at "s"
  refine ⟨by rfl, _, _, _, rfl, by show r ≤ 10; omega, ?_⟩
  walk_at "f"
  refine we_lcL (gw_name (by simp)) ?_
  walk_at "s"
  refine ⟨big_lt (by simp), fun d => some (.bool true), ?_, ?_⟩
  · intro i d acc hd
    have hm := List.mem_of_getElem? hd
    obtain ⟨j, rfl⟩ : ∃ j, d = .int j := by
      simp at hm
      rcases hm with h | h | h <;> exact ⟨_, h⟩
    walk_at "s"
    refine ⟨fun _ => ?_, fun h => (by cases h)⟩
    walk_at "s"
    refine ⟨by rfl, _, rfl, ⟨_, rfl⟩, ?_⟩
    exact ⟨_, _, rfl, take_snoc, rfl⟩
  refine wr_in rfl rfl rfl ?_
  walk_at "s"
  refine ⟨fun h => (by cases h), fun _ => ?_⟩
  walk_at "s"
  refine ⟨fun _ => ?_, fun h => absurd (of_decide_eq_false h) (by omega)⟩
  walk_at "s"
  refine ⟨fun _ => ?_, fun h => absurd (of_decide_eq_false h) (by omega)⟩
  walk_at "s"
  refine ⟨fun _ => ?_, fun h => absurd (of_decide_eq_false h) (by omega)⟩
  walk_at "s"
  refine ⟨fun _ => ?_, fun h => absurd (of_decide_eq_false h) (by omega)⟩
  walk_at "s"
  refine ⟨fun h => absurd (of_decide_eq_true (by simpa using h)) (by simp; omega), fun _ => ?_⟩
  refine ws_next ?_
  walk_at "f"
  refine ⟨by rfl, _, _, rfl, ?_⟩
  walk_at "s"
  refine ⟨fun h => absurd g6 (of_decide_eq_false (by simpa using h)), fun _ => ?_⟩
  refine ws_next ?_
  walk_at "f"
  refine ⟨by rfl, _, _, rfl, ?_⟩
  walk_at "s"
  refine ⟨fun h => absurd g7 (of_decide_eq_false (by simpa using h)), fun _ => ?_⟩
  walk_at "s"
  refine ⟨by rfl, _, _, rfl, ?_⟩
  walk_at "s"
  refine ⟨fun h => absurd g8 (of_decide_eq_false (by simpa using h)), fun _ => ?_⟩
  walk_at "s"
  exact fin_pd (by simp) q
/-! ### over_of -/
abbrev N_over_of : List Str := ["a", "b", "c", "H", "m", "r"]
theorem sc_over_of : FnScope N_over_of ["a", "b", "c", "H", "m", "r"] (defScope s_over_of) := ⟨rfl, rfl, rfl, by decide +kernel, rfl, by decide +kernel, by decide +kernel⟩
theorem ok_over_of (dd : Df K mg "over_of" s_over_of) : Cal P w K mg base 1 "over_of" ["a", "b", "c", "H", "m", "r"] (spP K T 6 pre_over_of) := by
  refine dd.cal (fun f fd F => F.ok sc_over_of (fun vs H Q E h => spP_len h) fun cdv A outer s H vs Q E hr h => ?_) (fun _ _ _ _ _ _ us hl => match us, hl with | [_, _, _, _, _, _], _ => rfl)
  have nd := sc_over_of.nd
  have hu := room_u hr
  refine ⟨_, (pss_one (ps_ret (pe_op op_sub (pe_op op_mul (pv 4) (pe_op op_sub (pe_op op_sub (pv 1) (pv 0)) (pv 2))) (pe_op op_mul (pe_op op_sub (pv 5) pe_int) (pv 3))))), fn_run h ?_⟩
  intro xs st Φ hl hp
  clear hl h hu hr nd
  try dsimp only [L2.cxOf, NdefX.ncx]
  obtain ⟨a, b, c, H, m, r, rfl, ⟨⟨g1, g2, g3, g4, g5⟩, ⟨g6, g7, g8⟩, g9, g10, g11, g12, g13, g14⟩, q⟩ := hp
  walk_at "s"
  exact fin_pd (by simp) q
/-! ### remainders_of -/
abbrev N_remainders_of : List Str := ["a", "b", "c", "H", "m", "k"]
theorem sc_remainders_of : FnScope N_remainders_of ["a", "b", "c", "H", "m"] (defScope s_remainders_of) := ⟨rfl, rfl, rfl, by decide +kernel, rfl, by decide +kernel, by decide +kernel⟩
theorem ok_remainders_of (c_check_like : Cal P w K mg base 4 "check_like" ["a", "b", "c", "H", "m", "r"] (spP K T 6 pre_check_like)) (Z : Zs mg) (dd : Df K mg "remainders_of" s_remainders_of) : Cal P w K mg base 5 "remainders_of" ["a", "b", "c", "H", "m"] (spP K T 5 pre_remainders_of) := by
  refine dd.cal (fun f fd F => F.ok sc_remainders_of (fun vs H Q E h => spP_len h) fun cdv A outer s H vs Q E hr h => ?_) (fun _ _ _ _ _ _ us hl => match us, hl with | [_, _, _, _, _], _ => rfl)
  have nd := sc_remainders_of.nd
  have hu := room_u hr
  refine ⟨_, (pss_cons (ps_expr (pe_callC c_check_like (hr.mono (by decide)) (by rfl) (pa_cons (pv 0) (pa_cons (pv 1) (pa_cons (pv 2) (pa_cons (pv 3) (pa_cons (pv 4) (pa_cons pe_int pa_nil)))))))) (pss_one (ps_ret (pe_lc (own := [("k", 5)]) (g := gName 5) (tt := tYes) rfl nd (pi_range2 rfl Z.range_ (pa_cons pe_int (pa_cons (pe_op (op_addK (K := K) rfl) (pv 4) pe_int) pa_nil))) (blkOk_by (N := N_remainders_of) (sc := defScope s_remainders_of) (by decide +kernel)) (fun _ _ _ _ _ => (pg_name (i := 5) nd rfl (.inl rfl))) (fun _ _ _ _ _ => pts_nil) (fun _ _ _ _ _ => (pe_tup (pa_cons (pe_op op_mod (pe_op op_mul (pv 5) (pe_op (op_addK (K := K) rfl) (pv 0) (pv 2))) (pv 3)) (pa_cons (pe_op op_mod (pe_op op_mul (pv 5) (pv 1)) (pv 3)) pa_nil)))))))), fn_run h ?_⟩
  intro xs st Φ hl hp
  clear hl h hu hr nd
  try dsimp only [L2.cxOf, NdefX.ncx]
  obtain ⟨a, b, c, H, m, rfl, G, q⟩ := hp
  walk_at "s"
  refine ⟨by rfl, a, b, c, H, m, 1, rfl, G, ?_⟩
  obtain ⟨⟨g1, g2, g3, g4, g5⟩, ⟨g6, g7, g8⟩, g9, g10, g11, g12, g13, g14⟩ := G
  refine ws_ret (we_lcR2 (gw_name (by simp)) ?_)
  walk_at "s"
  refine ⟨1, m + 1, rfl, by omega, big_lt (by omega), fun i => some (eII ((1 + (i : Int)) * (a + c) % H, (1 + (i : Int)) * b % H)), ?_, ?_⟩
  · intro i acc hi
    walk_at "s"
    refine ⟨fun _ => ?_, fun h => (by cases h)⟩
    walk_at "s"
    exact ⟨_, _, rfl, take_snoc, rfl⟩
  · have e : (List.range (m + 1 - 1).toNat).filterMap (fun (i : Nat) => some (eII ((1 + (i : Int)) * (a + c) % H, (1 + (i : Int)) * b % H))) = (rems a b c H m).map eII := by
      unfold rems
      rw [List.map_map, show m + 1 - 1 = m by omega, ← List.filterMap_eq_map]
      rfl
    rw [e]
    exact fin_pd (by simp) q
/-! ### parts_up -/
abbrev N_parts_up : List Str := ["many", "part"]
theorem sc_parts_up : FnScope N_parts_up ["many", "part"] (defScope s_parts_up) := ⟨rfl, rfl, rfl, by decide +kernel, rfl, by decide +kernel, by decide +kernel⟩
theorem ok_parts_up (dd : Df K mg "parts_up" s_parts_up) : Cal P w K mg base 1 "parts_up" ["many", "part"] (spP K T 2 pre_parts_up) := by
  refine dd.cal (fun f fd F => F.ok sc_parts_up (fun vs H Q E h => spP_len h) fun cdv A outer s H vs Q E hr h => ?_) (fun _ _ _ _ _ _ us hl => match us, hl with | [_, _], _ => rfl)
  have nd := sc_parts_up.nd
  have hu := room_u hr
  refine ⟨_, (pss_one (ps_ret (pe_op op_fdiv (pe_op op_sub (pe_op (op_addK (K := K) rfl) (pv 0) (pv 1)) pe_int) (pv 1)))), fn_run h ?_⟩
  intro xs st Φ hl hp
  clear hl h hu hr nd
  try dsimp only [L2.cxOf, NdefX.ncx]
  obtain ⟨n, p, rfl, h1, h2, q⟩ := hp
  walk_at "s"
  exact fin_pd (by simp) q
/-! ### caught_ways -/
abbrev N_caught_ways : List Str := ["a", "b", "c", "H", "m", "over", "made", "told", "place", "short", "beyond", "k"]
theorem sc_caught_ways : FnScope N_caught_ways ["a", "b", "c", "H", "m", "over"] (defScope s_caught_ways) := ⟨rfl, rfl, rfl, by decide +kernel, rfl, by decide +kernel, by decide +kernel⟩
theorem ok_caught_ways (c_parts_up : Cal P w K mg base 1 "parts_up" ["many", "part"] (spP K T 2 pre_parts_up)) (c_remainders_of : Cal P w K mg base 5 "remainders_of" ["a", "b", "c", "H", "m"] (spP K T 5 pre_remainders_of)) (Z : Zs mg) (dd : Df K mg "caught_ways" s_caught_ways) : Cal P w K mg base 6 "caught_ways" ["a", "b", "c", "H", "m", "over"] (spP K T 6 pre_caught_ways) := by
  refine dd.cal (fun f fd F => F.ok sc_caught_ways (fun vs H Q E h => spP_len h) fun cdv A outer s H vs Q E hr h => ?_) (fun _ _ _ _ _ _ us hl => match us, hl with | [_, _, _, _, _, _], _ => rfl)
  have nd := sc_caught_ways.nd
  have hu := room_u hr
  refine ⟨_, (pss_cons (ps_asg (pe_lst pa_nil) (pg_name (i := 6) nd rfl (.inl rfl))) (pss_cons (ps_if (pt_cmpR op_gt (pv 5) (pv 2) (nomark _)) (pss_one (ps_expr (pe_bm PySem.F.plainAttrs_list PySem.F.slot_list_append PySem.F.type_list_append mt_append (pv 6) (pa_cons (pe_tup (pa_cons (pe_op (op_addK (K := K) rfl) (pv 4) (pe_callC c_parts_up (hr.mono (by decide)) (by rfl) (pa_cons (pe_op op_sub (pv 3) (pv 5)) (pa_cons (pe_op op_sub (pe_op op_sub (pv 1) (pv 0)) (pv 2)) pa_nil)))) (pa_cons (pe_tup (pa_cons pe_str pa_nil)) pa_nil))) pa_nil)))) pss_nil) (pss_cons (ps_asg (pe_callC c_remainders_of (hr.mono (by decide)) (by rfl) (pa_cons (pv 0) (pa_cons (pv 1) (pa_cons (pv 2) (pa_cons (pv 3) (pa_cons (pv 4) pa_nil)))))) (pg_name (i := 7) nd rfl (.inl rfl))) (pss_cons (ps_for PassesOwn.never rfl (pi_enum (by rfl) Z.enumerate (pa_cons (pv 7) pa_nil)) (pg_tup (n := 2) rfl (pgs_cons (pg_name (i := 8) nd rfl (.inl rfl)) (pgs_cons (pg_tup (n := 2) rfl (pgs_cons (pg_name (i := 9) nd rfl (.inl rfl)) (pgs_cons (pg_name (i := 10) nd rfl (.inl rfl)) pgs_nil))) pgs_nil))) (pss_one (ps_if (pt_cmpR op_ge (pv 9) (pe_op op_sub (pv 3) (pv 5)) (nomark _)) (pss_cons (ps_asg (pe_op (op_addK (K := K) rfl) (pv 8) pe_int) (pg_name (i := 11) nd rfl (.inl rfl))) (pss_one (ps_expr (pe_bm PySem.F.plainAttrs_list PySem.F.slot_list_append PySem.F.type_list_append mt_append (pv 6) (pa_cons (pe_tup (pa_cons (pe_op (op_addK (K := K) rfl) (pv 4) (pe_op op_mul (pv 11) (pe_callC c_parts_up (hr.mono (by decide)) (by rfl) (pa_cons (pe_op op_sub (pv 3) (pv 5)) (pa_cons (pe_op op_sub (pv 3) (pv 9)) pa_nil))))) (pa_cons (pe_tup (pa_cons pe_str (pa_cons (pv 11) pa_nil))) pa_nil))) pa_nil))))) pss_nil))) (pss_cons (ps_for PassesOwn.never rfl (pi_enum (by rfl) Z.enumerate (pa_cons (pv 7) pa_nil)) (pg_tup (n := 2) rfl (pgs_cons (pg_name (i := 8) nd rfl (.inl rfl)) (pgs_cons (pg_tup (n := 2) rfl (pgs_cons (pg_name (i := 9) nd rfl (.inl rfl)) (pgs_cons (pg_name (i := 10) nd rfl (.inl rfl)) pgs_nil))) pgs_nil))) (pss_one (ps_if (pt_chain op_le op_le pe_int (pv 10) (pv 5)) (pss_cons (ps_asg (pe_op (op_addK (K := K) rfl) (pv 8) pe_int) (pg_name (i := 11) nd rfl (.inl rfl))) (pss_one (ps_expr (pe_bm PySem.F.plainAttrs_list PySem.F.slot_list_append PySem.F.type_list_append mt_append (pv 6) (pa_cons (pe_tup (pa_cons (pe_op (op_addK (K := K) rfl) (pv 4) (pe_op op_mul (pv 11) (pe_callC c_parts_up (hr.mono (by decide)) (by rfl) (pa_cons (pe_op op_sub (pv 3) (pv 5)) (pa_cons (pv 10) pa_nil))))) (pa_cons (pe_tup (pa_cons pe_str (pa_cons (pv 11) pa_nil))) pa_nil))) pa_nil))))) pss_nil))) (pss_one (ps_ret (pv 6)))))))), fn_run h ?_⟩
  intro xs st Φ hl hp
  clear hl h hu hr nd
  try dsimp only [L2.cxOf, NdefX.ncx]
  obtain ⟨a, b, c, H, m, over, rfl, G, o1, o2, o3, q⟩ := hp
  have G' := G
  obtain ⟨⟨g1, g2, g3, g4, g5⟩, ⟨g6, g7, g8⟩, g9, g10, g11, g12, g13, g14⟩ := G'
  walk_at "c"
  refine ws_mid (fun ss' st' => ss' = [some (.pd (.int a)), some (.pd (.int b)), some (.pd (.int c)), some (.pd (.int H)), some (.pd (.int m)), some (.pd (.int over)), some (.cell st.length), none, none, none, none, none] ∧
    st' = st ++ [.mu ((if over > c then [(m + partsUp (H - over) (b - a - c), Way.gap)] else []).map eRow)]) ?_ ?_
  · walk_at "s"
    refine ⟨fun h => ?_, fun h => ?_⟩
    · rw [if_pos (of_decide_eq_true h)]
      walk_at "s"
      refine ⟨by rfl, _, _, rfl, by omega, by omega, ?_⟩
      walk_at "s"
      exact ⟨rfl, rfl⟩
    · rw [if_neg (of_decide_eq_false h)]
      walk_at "s"
      exact ⟨rfl, rfl⟩
  rintro ss' st' ⟨rfl, rfl⟩
  generalize hw0 : (if over > c then [(m + partsUp (H - over) (b - a - c), Way.gap)] else []) = w0
  have hl0 : w0.length ≤ 1 := by
    rw [← hw0]
    split <;> simp
  walk_at "s"
  refine ⟨by rfl, a, b, c, H, m, rfl, G, ?_⟩
  walk_at "s"
  have hrl := rems_len a b c H m
  have hq : caughtWays a b c H m over = w0 ++ waysS H m over 1 (rems a b c H m) ++ waysO H m over 1 (rems a b c H m) := by
    unfold caughtWays
    rw [hw0]
  have hSl := waysS_le H m over 1 (rems a b c H m)
  have hOl := waysO_le H m over 1 (rems a b c H m)
  have hbd := fun i x (h : (rems a b c H m)[i]? = some x) => rems_bd (a := a) (b := b) (c := c) (m := m) (show 0 < H by omega) h
  generalize rems a b c H m = R at hrl hq hSl hOl hbd ⊢
  refine ws_seq (ws_forE (wa_cons (we_var rfl (wa_nil ⟨_, rfl, fun i ss' st' => ∃ (made : List (Int × Way)) (y8 y9 y10 y11 : Option Val), ss' = [some (.pd (.int a)), some (.pd (.int b)), some (.pd (.int c)), some (.pd (.int H)), some (.pd (.int m)), some (.pd (.int over)), some (.cell st.length), some (.pd (.list (R.map eII))), y8, y9, y10, y11] ∧
    st' = st ++ [.mu (made.map eRow)] ∧ made ++ waysS H m over ((i : Int) + 1) (R.drop i) = w0 ++ waysS H m over 1 R, ⟨w0, none, none, none, none, rfl, rfl, rfl⟩, ?_, ?_⟩))))
  · rintro i d ss' st' hd ⟨made, y8, y9, y10, y11, rfl, rfl, he⟩
    obtain ⟨x, hx, rfl⟩ : ∃ x, R[i]? = some x ∧ d = eII x := by
      rw [List.getElem?_map] at hd
      cases e : R[i]? with
      | none =>
        rw [e] at hd
        cases hd
      | some x =>
        rw [e] at hd
        exact ⟨x, rfl, (Option.some.inj hd).symm⟩
    obtain ⟨⟨b1, b2⟩, b3, b4⟩ := hbd i x hx
    obtain ⟨hi, hxi⟩ := List.getElem?_eq_some_iff.mp hx
    have hb := congrArg List.length he
    rw [List.length_append, List.length_append] at hb
    obtain ⟨s, y⟩ := x
    simp only at b1 b2 b3 b4
    rw [List.drop_eq_getElem_cons hi, hxi] at he
    have he : made ++ ((if s ≥ H - over then [(m + ((i : Int) + 1) * partsUp (H - over) (H - s), Way.short ((i : Int) + 1))] else []) ++ waysS H m over ((i : Int) + 1 + 1) (R.drop (i + 1))) = w0 ++ waysS H m over 1 R := he
    have ei : ((i : Int) + 1 + 1) = (((i + 1 : Nat) : Int) + 1) := by omega
    rw [ei] at he
    walk_at "s"
    refine ⟨fun h => ?_, fun h => ?_⟩
    · rw [if_pos (of_decide_eq_true h)] at he
      walk_at "s"
      refine ⟨by rfl, _, _, rfl, by omega, by omega, ?_⟩
      walk_at "s"
      refine ⟨made ++ [(m + ((i : Int) + 1) * partsUp (H - over) (H - s), Way.short ((i : Int) + 1))], _, _, _, _, rfl, ?_, ?_⟩
      · rw [← snoc_row made _ rfl]
        rfl
      · rw [List.append_assoc]
        exact he
    · rw [if_neg (of_decide_eq_false h)] at he
      walk_at "s"
      exact ⟨made, _, _, _, _, rfl, rfl, he⟩
  · rintro ss' st' ⟨made, y8, y9, y10, y11, rfl, rfl, he⟩
    rw [List.length_map, List.drop_length] at he
    have he : made = w0 ++ waysS H m over 1 R := by
      rw [← he]
      exact (List.append_nil _).symm
    rw [← he] at hq
    have hml := congrArg List.length he
    rw [List.length_append] at hml
    refine ws_seq (ws_forE (wa_cons (we_var rfl (wa_nil ⟨_, rfl, fun i ss' st' => ∃ (made2 : List (Int × Way)) (y8 y9 y10 y11 : Option Val), ss' = [some (.pd (.int a)), some (.pd (.int b)), some (.pd (.int c)), some (.pd (.int H)), some (.pd (.int m)), some (.pd (.int over)), some (.cell st.length), some (.pd (.list (R.map eII))), y8, y9, y10, y11] ∧
      st' = st ++ [.mu (made2.map eRow)] ∧ made2 ++ waysO H m over ((i : Int) + 1) (R.drop i) = made ++ waysO H m over 1 R, ⟨made, _, _, _, _, rfl, rfl, rfl⟩, ?_, ?_⟩))))
    · rintro i d ss' st' hd ⟨made2, y8, y9, y10, y11, rfl, rfl, he⟩
      obtain ⟨x, hx, rfl⟩ : ∃ x, R[i]? = some x ∧ d = eII x := by
        rw [List.getElem?_map] at hd
        cases e : R[i]? with
        | none =>
          rw [e] at hd
          cases hd
        | some x =>
          rw [e] at hd
          exact ⟨x, rfl, (Option.some.inj hd).symm⟩
      obtain ⟨⟨b1, b2⟩, b3, b4⟩ := hbd i x hx
      obtain ⟨hi, hxi⟩ := List.getElem?_eq_some_iff.mp hx
      have hb := congrArg List.length he
      rw [List.length_append, List.length_append] at hb
      obtain ⟨s, y⟩ := x
      simp only at b1 b2 b3 b4
      rw [List.drop_eq_getElem_cons hi, hxi] at he
      have he : made2 ++ ((if 1 ≤ y ∧ y ≤ over then [(m + ((i : Int) + 1) * partsUp (H - over) y, Way.over ((i : Int) + 1))] else []) ++ waysO H m over ((i : Int) + 1 + 1) (R.drop (i + 1))) = made ++ waysO H m over 1 R := he
      have ei : ((i : Int) + 1 + 1) = (((i + 1 : Nat) : Int) + 1) := by omega
      rw [ei] at he
      have no : ¬ (1 ≤ y ∧ y ≤ over) → WS K T tNext [some (.pd (.int a)), some (.pd (.int b)), some (.pd (.int c)), some (.pd (.int H)), some (.pd (.int m)), some (.pd (.int over)), some (.cell st.length), some (.pd (.list (R.map eII))), some (.pd (.int i)), some (.pd (.int s)), some (.pd (.int y)), y11] (st ++ [.mu (made2.map eRow)])
          (inTurn { nx := fun ss1 st1 => WS K T (tRet (tVar 6)) ss1 st1 (PoF st Φ), rt := (PoF st Φ).rt, bk := (PoF st Φ).bk, ct := (PoF st Φ).ct } fun ss' st' => ∃ (made2 : List (Int × Way)) (y8 y9 y10 y11 : Option Val), ss' = [some (.pd (.int a)), some (.pd (.int b)), some (.pd (.int c)), some (.pd (.int H)), some (.pd (.int m)), some (.pd (.int over)), some (.cell st.length), some (.pd (.list (R.map eII))), y8, y9, y10, y11] ∧
            st' = st ++ [.mu (made2.map eRow)] ∧ made2 ++ waysO H m over (((i + 1 : Nat) : Int) + 1) (R.drop (i + 1)) = made ++ waysO H m over 1 R) := fun hn => by
        rw [if_neg hn] at he
        walk_at "s"
        exact ⟨made2, _, _, _, _, rfl, rfl, he⟩
      walk_at "s"
      refine ⟨fun h => ?_, fun h => ⟨_, rfl, fun h2 => (by cases h2), fun _ => no fun hn => absurd hn.1 (of_decide_eq_false h)⟩⟩
      walk_at "s"
      refine ⟨fun h2 => ?_, fun h2 => no fun hn => absurd hn.2 (of_decide_eq_false h2)⟩
      have h1 := of_decide_eq_true h
      have h2 := of_decide_eq_true h2
      rw [if_pos ⟨h1, h2⟩] at he
      walk_at "s"
      refine ⟨by rfl, _, _, rfl, by omega, by omega, ?_⟩
      walk_at "s"
      refine ⟨made2 ++ [(m + ((i : Int) + 1) * partsUp (H - over) y, Way.over ((i : Int) + 1))], _, _, _, _, rfl, ?_, ?_⟩
      · rw [← snoc_row made2 _ rfl]
        rfl
      · rw [List.append_assoc]
        exact he
    · rintro ss' st' ⟨made2, y8, y9, y10, y11, rfl, rfl, he2⟩
      rw [List.length_map, List.drop_length] at he2
      have he2 : made2 = made ++ waysO H m over 1 R := by
        rw [← he2]
        exact (List.append_nil _).symm
      rw [← he2] at hq
      rw [hq] at q
      walk_at "s"
      exact fin_end q
/-! ### for_ever -/
abbrev N_for_ever : List Str := ["a", "b", "c", "H", "m", "r", "over", "ways", "best", "row"]
theorem sc_for_ever : FnScope N_for_ever ["a", "b", "c", "H", "m", "r"] (defScope s_for_ever) := ⟨rfl, rfl, rfl, by decide +kernel, rfl, by decide +kernel, by decide +kernel⟩
theorem ok_for_ever (c_caught_ways : Cal P w K mg base 6 "caught_ways" ["a", "b", "c", "H", "m", "over"] (spP K T 6 pre_caught_ways)) (c_over_of : Cal P w K mg base 1 "over_of" ["a", "b", "c", "H", "m", "r"] (spP K T 6 pre_over_of)) (c_check_like : Cal P w K mg base 4 "check_like" ["a", "b", "c", "H", "m", "r"] (spP K T 6 pre_check_like)) (dd : Df K mg "for_ever" s_for_ever) : Cal P w K mg base 7 "for_ever" ["a", "b", "c", "H", "m", "r"] (spP K T 6 pre_for_ever) := by
  refine dd.cal (fun f fd F => F.ok sc_for_ever (fun vs H Q E h => spP_len h) fun cdv A outer s H vs Q E hr h => ?_) (fun _ _ _ _ _ _ us hl => match us, hl with | [_, _, _, _, _, _], _ => rfl)
  have nd := sc_for_ever.nd
  have hu := room_u hr
  refine ⟨_, (pss_cons (ps_expr (pe_callC c_check_like (hr.mono (by decide)) (by rfl) (pa_cons (pv 0) (pa_cons (pv 1) (pa_cons (pv 2) (pa_cons (pv 3) (pa_cons (pv 4) (pa_cons (pv 5) pa_nil)))))))) (pss_cons (ps_asg (pe_callC c_over_of (hr.mono (by decide)) (by rfl) (pa_cons (pv 0) (pa_cons (pv 1) (pa_cons (pv 2) (pa_cons (pv 3) (pa_cons (pv 4) (pa_cons (pv 5) pa_nil))))))) (pg_name (i := 6) nd rfl (.inl rfl))) (pss_cons (ps_if (pt_cmpR op_le (pv 6) pe_int (nomark _)) (pss_one (ps_ret (pe_tup (pa_cons pe_str (pa_cons pe_str pa_nil))))) pss_nil) (pss_cons (ps_if (pt_cmpR op_ge (pv 6) (pv 3) (nomark _)) (pss_one (ps_ret (pe_tup (pa_cons pe_str (pa_cons (pv 4) (pa_cons (pe_tup (pa_cons pe_str pa_nil)) pa_nil)))))) pss_nil) (pss_cons (ps_asg (pe_callC c_caught_ways (hr.mono (by decide)) (by rfl) (pa_cons (pv 0) (pa_cons (pv 1) (pa_cons (pv 2) (pa_cons (pv 3) (pa_cons (pv 4) (pa_cons (pv 6) pa_nil))))))) (pg_name (i := 7) nd rfl (.inl rfl))) (pss_cons (ps_if (pt_cmpR (op_eqK (K := K) rfl hu) (pv 7) (pe_lst pa_nil) (nomark _)) (pss_one (ps_ret (pe_tup (pa_cons pe_str (pa_cons pe_str pa_nil))))) pss_nil) (pss_cons (ps_asg (pe_ix (ix_seqK (K := K) rfl) (pv 7) pe_int (fun _ _ => rfl)) (pg_name (i := 8) nd rfl (.inl rfl))) (pss_cons (ps_for PassesOwn.never rfl (pi_list (pv 7)) (pg_name (i := 9) nd rfl (.inl rfl)) (pss_one (ps_if (pt_cmpR op_lt (pe_ix (ix_seqK (K := K) rfl) (pv 9) pe_int (fun _ _ => rfl)) (pe_ix (ix_seqK (K := K) rfl) (pv 8) pe_int (fun _ _ => rfl)) (nomark _)) (pss_one (ps_asg (pv 9) (pg_name (i := 8) nd rfl (.inl rfl)))) pss_nil))) (pss_one (ps_ret (pe_tup (pa_cons pe_str (pa_cons (pe_ix (ix_seqK (K := K) rfl) (pv 8) pe_int (fun _ _ => rfl)) (pa_cons (pe_ix (ix_seqK (K := K) rfl) (pv 8) pe_int (fun _ _ => rfl)) pa_nil)))))))))))))), fn_run h ?_⟩
  intro xs st Φ hl hp
  clear hl h hu hr nd
  try dsimp only [L2.cxOf, NdefX.ncx]
  obtain ⟨a, b, c, H, m, r, rfl, G, q⟩ := hp
  walk_at "s"
  refine ⟨by rfl, a, b, c, H, m, r, rfl, G, ?_⟩
  walk_at "s"
  refine ⟨by rfl, a, b, c, H, m, r, rfl, G, ?_⟩
  have G' := G
  obtain ⟨⟨g1, g2, g3, g4, g5⟩, ⟨g6, g7, g8⟩, g9, g10, g11, g12, g13, g14⟩ := G'
  unfold forEver at q
  walk_at "s"
  walk_at "f"
  refine ⟨fun h => ?_, fun h => ?_⟩
  · rw [if_pos (of_decide_eq_true h)] at q
    walk_at "s"
    exact fin_pd (by simp) q
  rw [if_neg (of_decide_eq_false h)] at q
  have o1 : 0 < overOf a b c H m r := by
    have := of_decide_eq_false h
    omega
  refine ws_next ?_
  walk_at "f"
  refine ⟨fun h => ?_, fun h => ?_⟩
  · rw [if_pos (of_decide_eq_true h)] at q
    walk_at "s"
    exact fin_pd (by simp) q
  rw [if_neg (of_decide_eq_false h)] at q
  have o2 : overOf a b c H m r < H := by
    have := of_decide_eq_false h
    omega
  have o3 : 0 < b - a - c := by
    have e : overOf a b c H m r = m * (b - a - c) - (r - 1) * H := rfl
    rcases Int.lt_or_le 0 (b - a - c) with h | h
    · exact h
    · have h1 : m * (b - a - c) ≤ 0 := Int.mul_nonpos_of_nonneg_of_nonpos (by omega) h
      have h2 : 0 ≤ (r - 1) * H := Int.mul_nonneg (by omega) (by omega)
      omega
  walk_at "s"
  refine ⟨by rfl, a, b, c, H, m, overOf a b c H m r, rfl, ⟨⟨g1, g2, g3, g4, g5⟩, ⟨g6, g7, by omega⟩, g9, g10, g11, g12, g13, by omega⟩, o1, o2, o3, ?_⟩
  walk_at "s"
  have hsh : SeqAt.shaped (.list ((caughtWays a b c H m (overOf a b c H m r)).map eRow)) = true := Sh.shaped (k := 3) (sh_list fun d hd => by
    obtain ⟨x, _, rfl⟩ := List.mem_map.mp hd
    refine sh_tuple fun e he => ?_
    rcases List.mem_cons.mp he with rfl | he
    · exact sh_int _
    · rw [List.mem_singleton.mp he]
      have hs : ∀ s : Str, (PyData.str s).canLay0 = true → Sh 0 (.str s) := fun s h => ⟨h, by simp [PyData.depth]⟩
      cases x.2 with
      | gap => exact sh_tuple fun e he => by rw [List.mem_singleton.mp he]; exact hs _ (by decide +kernel)
      | short k =>
        refine sh_tuple fun e he => ?_
        rcases List.mem_cons.mp he with rfl | he
        · exact hs _ (by decide +kernel)
        · rw [List.mem_singleton.mp he]
          exact sh_int _
      | over k =>
        refine sh_tuple fun e he => ?_
        rcases List.mem_cons.mp he with rfl | he
        · exact hs _ (by decide +kernel)
        · rw [List.mem_singleton.mp he]
          exact sh_int _)
  generalize caughtWays a b c H m (overOf a b c H m r) = W at q hsh ⊢
  walk_at "f"
  refine wr_eqD rfl rfl hsh rfl ?_
  rw [eqv_isNil]
  walk_at "s"
  cases W with
  | nil =>
    refine ⟨fun _ => ?_, fun h => (by cases h)⟩
    walk_at "s"
    exact fin_pd (by simp) q
  | cons x t =>
    refine ⟨fun h => (by cases h), fun _ => ?_⟩
    refine ws_next ?_
    refine ws_sA (we_op (we_var rfl (we_c rfl (wr_ixuL rfl (atI_nat (j := 0) rfl) ?_))))
    walk_at "s"
    refine ws_seq (ws_forL (we_var rfl ⟨_, rfl, fun i ss' st' => st' = st ∧ ∃ y : Option Val, ss' = [some (.pd (.int a)), some (.pd (.int b)), some (.pd (.int c)), some (.pd (.int H)), some (.pd (.int m)), some (.pd (.int r)), some (.pd (.int (overOf a b c H m r))), some (.pd (.list ((x :: t).map eRow))), some (.pd (eRow (bestOf x ((x :: t).take i)))), y], ⟨rfl, none, rfl⟩, ?_, ?_⟩))
    · rintro i d ss' st' hd ⟨rfl, y, rfl⟩
      obtain ⟨z, hz, rfl⟩ : ∃ z, (x :: t)[i]? = some z ∧ d = eRow z := by
        rw [List.getElem?_map] at hd
        cases e : (x :: t)[i]? with
        | none =>
          rw [e] at hd
          cases hd
        | some z =>
          rw [e] at hd
          exact ⟨z, rfl, (Option.some.inj hd).symm⟩
      have hn : bestOf x ((x :: t).take (i + 1)) = if z.1 < (bestOf x ((x :: t).take i)).1 then z else bestOf x ((x :: t).take i) := by
        rw [List.take_add_one, hz]
        exact bestOf_snoc _ _ _
      dsimp only
      rw [hn]
      generalize bestOf x ((x :: t).take i) = best
      walk_at "s"
      refine ⟨fun h => ?_, fun h => ?_⟩
      · rw [if_pos (of_decide_eq_true h)]
        walk_at "s"
        exact ⟨rfl, _, rfl⟩
      · rw [if_neg (of_decide_eq_false h)]
        walk_at "s"
        exact ⟨rfl, _, rfl⟩
    · rintro ss' st' ⟨rfl, y, rfl⟩
      rw [List.length_map, List.take_length]
      walk_at "s"
      exact fin_pd (by simp) q
/-! ### _law_purse -/
abbrev N__law_purse : List Str := ["script", "at", "cell", "size", "one"]
theorem sc__law_purse : FnScope N__law_purse ["script", "at"] (defScope s__law_purse) := ⟨rfl, rfl, rfl, by decide +kernel, rfl, by decide +kernel, by decide +kernel⟩
theorem ok__law_purse (Z : Zs mg) (dd : Df K mg "_law_purse" s__law_purse) : Cal P w K mg base 1 "_law_purse" ["script", "at"] (spP K T 2 pre__law_purse) := by
  refine dd.cal (fun f fd F => F.ok sc__law_purse (fun vs H Q E h => spP_len h) fun cdv A outer s H vs Q E hr h => ?_) (fun _ _ _ _ _ _ us hl => match us, hl with | [_, _], _ => rfl)
  have nd := sc__law_purse.nd
  have hu := room_u hr
  refine ⟨_, (pss_cons (ps_asg (pe_ifExp (pt_cmpR op_lt (pv 1) (pe_callB (call_lenK (K := K) rfl) (by rfl) Z.len PySem.boot_len (pa_cons (pv 0) pa_nil)) (nomark _)) (pe_callTy call_int1 (by rfl) Z.int_ boot_int (pa_cons (pe_ix (ix_seqK (K := K) rfl) (pv 0) (pv 1) (fun _ _ => rfl)) pa_nil)) (pe_op op_mul pe_int (pe_callB (cr_sumK (K := K) rfl rfl) (by rfl) Z.sum boot_sum (pa_cons (pe_lc (own := [("one", 4)]) (g := gName 4) (tt := tYes) rfl nd (pi_list (pe_slice (sl_listK (K := K) rfl) (pv 0) po_none (po_some pe_int))) (blkOk_by (N := N__law_purse) (sc := defScope s__law_purse) (by decide +kernel)) (fun _ _ _ _ _ => (pg_name (i := 4) nd rfl (.inl rfl))) (fun _ _ _ _ _ => pts_nil) (fun _ _ _ _ _ => (pe_callTy call_int1 (by rfl) Z.int_ boot_int (pa_cons (pv 4) pa_nil)))) pa_nil)))) (pg_name (i := 2) nd rfl (.inl rfl))) (pss_cons (ps_asg (pe_op (op_addK (K := K) rfl) (pe_op op_mul pe_int (pe_callB call_abs (by rfl) Z.abs boot_abs (pa_cons (pv 2) pa_nil))) (pe_ifExp (pt_cmpR op_lt (pv 2) pe_int (nomark _)) pe_int pe_int)) (pg_name (i := 3) nd rfl (.inl rfl))) (pss_one (ps_ret (pe_lst (pa_cons (pe_ifExp (pt_cmpR op_ge (pv 3) (pe_op op_pow pe_int pe_int) (nomark _)) (pv 3) pe_int) (pa_cons (pe_op op_mod (pe_callTy call_int1 (by rfl) Z.int_ boot_int (pa_cons (pe_op (op_addK (K := K) rfl) (pe_op (op_addK (K := K) rfl) (pv 3) (pe_op op_mul (pv 1) pe_int)) pe_int) pa_nil)) pe_int) (pa_cons (pv 1) pa_nil)))))))), fn_run h ?_⟩
  intro xs st Φ hl hp
  clear hl h hu hr nd
  try dsimp only [L2.cxOf, NdefX.ncx]
  obtain ⟨ns, at_, rfl, hl, h0, h1, q⟩ := hp
  refine ws_mid (fun ss' st' => st' = st ∧ ∃ v : Int, ss' = [some (.pd (.list (ns.map PyData.int))), some (.pd (.int at_)), some (.pd (.int v)), none, none]) ?_ ?_
  · walk_at "s"
    refine ⟨fun h => ?_, fun h => ?_⟩
    · have h := of_decide_eq_true h
      rw [List.length_map] at h
      obtain ⟨v, hv⟩ := at_int h0 h
      walk_at "s"
      refine wr_ixuL rfl hv ?_
      walk_at "s"
      exact ⟨rfl, v, rfl⟩
    · walk_at "s"
      refine we_lcL (gw_name (by simp)) ?_
      walk_at "s"
      obtain ⟨ms, em, hm⟩ := cut_ints ns none (some 4)
      rw [em]
      refine ⟨by rw [List.length_map]; exact big_lt (by omega), fun d => some d, ?_, ?_⟩
      · intro i d acc hd
        obtain ⟨z, hz, rfl⟩ := List.mem_map.mp (List.mem_of_getElem? hd)
        walk_at "s"
        refine ⟨fun _ => ?_, fun h => (by cases h)⟩
        walk_at "s"
        exact ⟨_, _, rfl, take_snoc, rfl⟩
      rw [show (ms.map PyData.int).filterMap (fun d => some d) = ms.map PyData.int by rw [List.filterMap_some]]
      walk_at "s"
      refine wc_sum rfl ?_
      walk_at "s"
      exact ⟨rfl, _, rfl⟩
  · rintro ss' st' ⟨rfl, v, rfl⟩
    refine ws_mid (fun ss' st'' => st'' = st' ∧ ∃ z : Int, ss' = [some (.pd (.list (ns.map PyData.int))), some (.pd (.int at_)), some (.pd (.int v)), some (.pd (.int z)), none]) ?_ ?_
    · walk_at "s"
      refine ⟨fun h => ?_, fun h => ?_⟩
      · walk_at "s"
        exact ⟨rfl, _, rfl⟩
      · walk_at "s"
        exact ⟨rfl, _, rfl⟩
    · rintro ss' st'' ⟨rfl, z, rfl⟩
      refine ws_ret (we_lstC ?_)
      walk_at "s"
      refine wr_pow (by unfold CPow; omega) ?_
      walk_at "s"
      have fin : ∀ p0 p1 : Int, Ct.Fin st'' Φ (.cell st''.length) (st'' ++ [.mu [.int p0, .int p1, .int at_]]) := fun p0 p1 => fin_all (q p0 p1)
      refine ⟨fun h => ?_, fun h => ?_⟩
      · walk_at "s"
        exact fin _ _
      · walk_at "s"
        exact fin _ _
/-! ### _law_draw -/
abbrev N__law_draw : List Str := ["purse", "many", "found"]
theorem sc__law_draw : FnScope N__law_draw ["purse", "many"] (defScope s__law_draw) := ⟨rfl, rfl, rfl, by decide +kernel, rfl, by decide +kernel, by decide +kernel⟩
theorem ok__law_draw (Z : Zs mg) (dd : Df K mg "_law_draw" s__law_draw) : Cal P w K mg base 1 "_law_draw" ["purse", "many"] (spP K T 2 pre__law_draw) := by
  refine dd.cal (fun f fd F => F.ok sc__law_draw (fun vs H Q E h => spP_len h) fun cdv A outer s H vs Q E hr h => ?_) (fun _ _ _ _ _ _ us hl => match us, hl with | [_, _], _ => rfl)
  have nd := sc__law_draw.nd
  have hu := room_u hr
  refine ⟨_, (pss_cons (ps_if (pt_cmpR op_gt (pe_ix (ix_seqK (K := K) rfl) (pv 0) pe_int (fun _ _ => rfl)) pe_int (nomark _)) (pss_cons (ps_asg (pe_op op_mod (pe_callTy call_int1 (by rfl) Z.int_ boot_int (pa_cons (pe_ix (ix_seqK (K := K) rfl) (pv 0) pe_int (fun _ _ => rfl)) pa_nil)) (pv 1)) (pg_name (i := 2) nd rfl (.inl rfl))) (pss_cons (ps_asg (pe_op op_fdiv (pe_ix (ix_seqK (K := K) rfl) (pv 0) pe_int (fun _ _ => rfl)) (pv 1)) (pg_sub (pv 0) pe_int set_list)) (pss_one (ps_ret (pv 2))))) pss_nil) (pss_cons (ps_augS (pv 0) pe_int get_list pe_int ip_add set_list) (pss_cons (ps_asg (pe_op op_mod (pe_callTy call_int1 (by rfl) Z.int_ boot_int (pa_cons (pe_op (op_addK (K := K) rfl) (pe_op op_mul (pe_ix (ix_seqK (K := K) rfl) (pv 0) pe_int (fun _ _ => rfl)) pe_int) (pe_op op_mul (pe_ix (ix_seqK (K := K) rfl) (pv 0) pe_int (fun _ _ => rfl)) pe_int)) pa_nil)) pe_int) (pg_sub (pv 0) pe_int set_list)) (pss_one (ps_ret (pe_op op_mod (pe_op op_fdiv (pe_op op_mod (pe_callTy call_int1 (by rfl) Z.int_ boot_int (pa_cons (pe_op (op_addK (K := K) rfl) (pe_op op_mul (pe_ix (ix_seqK (K := K) rfl) (pv 0) pe_int (fun _ _ => rfl)) pe_int) (pe_op op_mul (pe_ix (ix_seqK (K := K) rfl) (pv 0) pe_int (fun _ _ => rfl)) pe_int)) pa_nil)) pe_int) pe_int) (pv 1))))))), fn_run h ?_⟩
  intro xs st Φ hl hp
  clear hl h hu hr nd
  try dsimp only [L2.cxOf, NdefX.ncx]
  obtain ⟨n, many, rfl, h1, h2, ⟨p0, p1, p2, e⟩, q⟩ := hp
  walk_at "f"
  refine wr_ixuL (look_mu e) rfl ?_
  walk_at "s"
  refine ⟨fun _ => ?_, fun _ => ?_⟩
  · walk_at "s"
    refine wr_ixuL (look_mu e) rfl ?_
    walk_at "s"
    refine wr_ixuL (look_mu e) rfl ?_
    walk_at "s"
    refine wg_sub ?_
    walk_at "s"
    refine wx_list e rfl ?_
    walk_at "s"
    exact fin_same List.length_set (q _ _ (Int.emod_nonneg _ (by omega)) (Int.emod_lt_of_pos _ h1) Only.set ⟨_, _, _, get_setSelf e⟩)
  · refine ws_next ?_
    refine ws_sS (ws_augS ?_)
    walk_at "s"
    refine wr_ixL (look_mu e) rfl ?_
    walk_at "s"
    refine wx_list e rfl ?_
    have e2 := get_setSelf (c' := .mu ([.int p0, .int p1, .int p2].set (Int.toNat 2) (.int (p2 + 1)))) e
    have o2 : Only st (st.set n (.mu ([.int p0, .int p1, .int p2].set (Int.toNat 2) (.int (p2 + 1))))) n := Only.set
    generalize st.set n (.mu ([.int p0, .int p1, .int p2].set (Int.toNat 2) (.int (p2 + 1)))) = st2 at e2 o2 ⊢
    walk_at "s"
    refine wr_ixuL (look_mu e2) rfl ?_
    walk_at "s"
    refine wr_ixuL (look_mu e2) rfl ?_
    walk_at "s"
    refine wg_sub ?_
    walk_at "s"
    refine wx_list e2 rfl ?_
    have e3 := get_setSelf (c' := .mu (([.int p0, .int p1, .int p2].set (Int.toNat 2) (.int (p2 + 1))).set (Int.toNat 1) (.int ((p1 * 48271 + (p2 + 1) * 69621) % 2147483647)))) e2
    have o3 : Only st (st2.set n (.mu (([.int p0, .int p1, .int p2].set (Int.toNat 2) (.int (p2 + 1))).set (Int.toNat 1) (.int ((p1 * 48271 + (p2 + 1) * 69621) % 2147483647))))) n := o2.trans Only.set
    generalize st2.set n (.mu (([.int p0, .int p1, .int p2].set (Int.toNat 2) (.int (p2 + 1))).set (Int.toNat 1) (.int ((p1 * 48271 + (p2 + 1) * 69621) % 2147483647)))) = st3 at e3 o3 ⊢
    walk_at "s"
    refine wr_ixuL (look_mu e3) rfl ?_
    walk_at "s"
    refine wr_ixuL (look_mu e3) rfl ?_
    walk_at "s"
    exact fin_same o3.len (q _ _ (Int.emod_nonneg _ (by omega)) (Int.emod_lt_of_pos _ h1) o3 ⟨_, _, _, e3⟩)
/-! ### _law_over -/
abbrev N__law_over : List Str := ["like"]
theorem sc__law_over : FnScope N__law_over ["like"] (defScope s__law_over) := ⟨rfl, rfl, rfl, by decide +kernel, rfl, by decide +kernel, by decide +kernel⟩
theorem ok__law_over (dd : Df K mg "_law_over" s__law_over) : Cal P w K mg base 1 "_law_over" ["like"] (spP K T 1 pre__law_over) := by
  refine dd.cal (fun f fd F => F.ok sc__law_over (fun vs H Q E h => spP_len h) fun cdv A outer s H vs Q E hr h => ?_) (fun _ _ _ _ _ _ us hl => match us, hl with | [_], _ => rfl)
  have nd := sc__law_over.nd
  have hu := room_u hr
  refine ⟨_, (pss_one (ps_ret (pe_op op_sub (pe_op op_mul (pe_ix (ix_seqK (K := K) rfl) (pv 0) pe_int (fun _ _ => rfl)) (pe_op op_sub (pe_op op_sub (pe_ix (ix_seqK (K := K) rfl) (pv 0) pe_int (fun _ _ => rfl)) (pe_ix (ix_seqK (K := K) rfl) (pv 0) pe_int (fun _ _ => rfl))) (pe_ix (ix_seqK (K := K) rfl) (pv 0) pe_int (fun _ _ => rfl)))) (pe_op op_mul (pe_op op_sub (pe_ix (ix_seqK (K := K) rfl) (pv 0) pe_int (fun _ _ => rfl)) pe_int) (pe_ix (ix_seqK (K := K) rfl) (pv 0) pe_int (fun _ _ => rfl)))))), fn_run h ?_⟩
  intro xs st Φ hl hp
  clear hl h hu hr nd
  try dsimp only [L2.cxOf, NdefX.ncx]
  obtain ⟨a, b, c, H, m, r, rfl, ⟨⟨g1, g2, g3, g4, g5⟩, ⟨g6, g7, g8⟩, g9, g10, g11, g12, g13, g14⟩, q⟩ := hp
  walk_at "s"
  exact fin_pd (by simp) q
/-! ### _law_rest -/
abbrev N__law_rest : List Str := ["many", "part"]
theorem sc__law_rest : FnScope N__law_rest ["many", "part"] (defScope s__law_rest) := ⟨rfl, rfl, rfl, by decide +kernel, rfl, by decide +kernel, by decide +kernel⟩
theorem ok__law_rest (Z : Zs mg) (dd : Df K mg "_law_rest" s__law_rest) : Cal P w K mg base 1 "_law_rest" ["many", "part"] (spP K T 2 pre__law_rest) := by
  refine dd.cal (fun f fd F => F.ok sc__law_rest (fun vs H Q E h => spP_len h) fun cdv A outer s H vs Q E hr h => ?_) (fun _ _ _ _ _ _ us hl => match us, hl with | [_, _], _ => rfl)
  have nd := sc__law_rest.nd
  have hu := room_u hr
  refine ⟨_, (pss_one (ps_ret (pe_op op_mod (pe_callTy call_int1 (by rfl) Z.int_ boot_int (pa_cons (pv 0) pa_nil)) (pv 1)))), fn_run h ?_⟩
  intro xs st Φ hl hp
  clear hl h hu hr nd
  try dsimp only [L2.cxOf, NdefX.ncx]
  obtain ⟨n, p, rfl, h1, q⟩ := hp
  walk_at "s"
  exact fin_pd (by simp) q
/-! ### _law_up -/
abbrev N__law_up : List Str := ["many", "part", "found"]
theorem sc__law_up : FnScope N__law_up ["many", "part"] (defScope s__law_up) := ⟨rfl, rfl, rfl, by decide +kernel, rfl, by decide +kernel, by decide +kernel⟩
theorem ok__law_up (dd : Df K mg "_law_up" s__law_up) : Cal P w K mg base 1 "_law_up" ["many", "part"] (spP K T 2 pre__law_up) := by
  refine dd.cal (fun f fd F => F.ok sc__law_up (fun vs H Q E h => spP_len h) fun cdv A outer s H vs Q E hr h => ?_) (fun _ _ _ _ _ _ us hl => match us, hl with | [_, _], _ => rfl)
  have nd := sc__law_up.nd
  have hu := room_u hr
  refine ⟨_, (pss_cons (ps_asg (pe_op op_fdiv (pv 0) (pv 1)) (pg_name (i := 2) nd rfl (.inl rfl))) (pss_one (ps_ret (pe_ifExp (pt_cmpR (op_eqK (K := K) rfl hu) (pe_op op_mul (pv 2) (pv 1)) (pv 0) (nomark _)) (pv 2) (pe_op (op_addK (K := K) rfl) (pv 2) pe_int))))), fn_run h ?_⟩
  intro xs st Φ hl hp
  clear hl h hu hr nd
  try dsimp only [L2.cxOf, NdefX.ncx]
  obtain ⟨n, p, rfl, h1, h2, q⟩ := hp
  rw [up_eq h1] at q
  walk_at "s"
  refine ⟨fun h => ?_, fun h => ?_⟩
  · rw [if_pos (of_decide_eq_true h)] at q
    walk_at "s"
    exact fin_pd (by simp) q
  · rw [if_neg (of_decide_eq_false h)] at q
    walk_at "s"
    exact fin_pd (by simp) q
/-! ### _law_forever -/
abbrev N__law_forever : List Str := ["like", "a", "b", "c", "H", "m", "r", "over", "ways", "k", "short", "beyond", "least", "many", "way"]
theorem sc__law_forever : FnScope N__law_forever ["like"] (defScope s__law_forever) := ⟨rfl, rfl, rfl, by decide +kernel, rfl, by decide +kernel, by decide +kernel⟩
theorem ok__law_forever (c__law_up : Cal P w K mg base 1 "_law_up" ["many", "part"] (spP K T 2 pre__law_up)) (c__law_rest : Cal P w K mg base 1 "_law_rest" ["many", "part"] (spP K T 2 pre__law_rest)) (c__law_over : Cal P w K mg base 1 "_law_over" ["like"] (spP K T 1 pre__law_over)) (Z : Zs mg) (dd : Df K mg "_law_forever" s__law_forever) : Cal P w K mg base 2 "_law_forever" ["like"] (spP K T 1 pre__law_forever) := by
  refine dd.cal (fun f fd F => F.ok sc__law_forever (fun vs H Q E h => spP_len h) fun cdv A outer s H vs Q E hr h => ?_) (fun _ _ _ _ _ _ us hl => match us, hl with | [_], _ => rfl)
  have nd := sc__law_forever.nd
  have hu := room_u hr
  refine ⟨_, (pss_cons (ps_asg (pv 0) (pg_or (pg_tup (n := 6) rfl (pgs_cons (pg_name (i := 1) nd rfl (.inl rfl)) (pgs_cons (pg_name (i := 2) nd rfl (.inl rfl)) (pgs_cons (pg_name (i := 3) nd rfl (.inl rfl)) (pgs_cons (pg_name (i := 4) nd rfl (.inl rfl)) (pgs_cons (pg_name (i := 5) nd rfl (.inl rfl)) (pgs_cons (pg_name (i := 6) nd rfl (.inl rfl)) pgs_nil))))))) (pg_unl (n := 6) rfl (pgs_cons (pg_name (i := 1) nd rfl (.inl rfl)) (pgs_cons (pg_name (i := 2) nd rfl (.inl rfl)) (pgs_cons (pg_name (i := 3) nd rfl (.inl rfl)) (pgs_cons (pg_name (i := 4) nd rfl (.inl rfl)) (pgs_cons (pg_name (i := 5) nd rfl (.inl rfl)) (pgs_cons (pg_name (i := 6) nd rfl (.inl rfl)) pgs_nil))))))))) (pss_cons (ps_asg (pe_callC c__law_over (hr.mono (by decide)) (by rfl) (pa_cons (pv 0) pa_nil)) (pg_name (i := 7) nd rfl (.inl rfl))) (pss_cons (ps_if (pt_cmpR op_le (pv 7) pe_int (nomark _)) (pss_one (ps_ret (pe_tup (pa_cons pe_str (pa_cons pe_str pa_nil))))) pss_nil) (pss_cons (ps_if (pt_cmpR op_ge (pv 7) (pv 4) (nomark _)) (pss_one (ps_ret (pe_tup (pa_cons pe_str (pa_cons (pv 5) (pa_cons (pe_tup (pa_cons pe_str pa_nil)) pa_nil)))))) pss_nil) (pss_cons (ps_asg (pe_ifExp (pt_cmpR op_gt (pv 7) (pv 3) (nomark _)) (pe_lst (pa_cons (pe_tup (pa_cons (pe_op (op_addK (K := K) rfl) (pv 5) (pe_callC c__law_up (hr.mono (by decide)) (by rfl) (pa_cons (pe_op op_sub (pv 4) (pv 7)) (pa_cons (pe_op op_sub (pe_op op_sub (pv 2) (pv 1)) (pv 3)) pa_nil)))) (pa_cons (pe_tup (pa_cons pe_str pa_nil)) pa_nil))) pa_nil)) (pe_lst pa_nil)) (pg_name (i := 8) nd rfl (.inl rfl))) (pss_cons (ps_for PassesOwn.never rfl (pi_range2 rfl Z.range_ (pa_cons pe_int (pa_cons (pe_op (op_addK (K := K) rfl) (pv 5) pe_int) pa_nil))) (pg_name (i := 9) nd rfl (.inl rfl)) (pss_cons (ps_asg (pe_callC c__law_rest (hr.mono (by decide)) (by rfl) (pa_cons (pe_op op_mul (pv 9) (pe_op (op_addK (K := K) rfl) (pv 1) (pv 3))) (pa_cons (pv 4) pa_nil))) (pg_name (i := 10) nd rfl (.inl rfl))) (pss_one (ps_if (pt_cmpR op_le (pe_op op_sub (pv 4) (pv 10)) (pv 7) (nomark _)) (pss_one (ps_expr (pe_bm PySem.F.plainAttrs_list PySem.F.slot_list_append PySem.F.type_list_append mt_append (pv 8) (pa_cons (pe_tup (pa_cons (pe_op (op_addK (K := K) rfl) (pv 5) (pe_op op_mul (pv 9) (pe_callC c__law_up (hr.mono (by decide)) (by rfl) (pa_cons (pe_op op_sub (pv 4) (pv 7)) (pa_cons (pe_op op_sub (pv 4) (pv 10)) pa_nil))))) (pa_cons (pe_tup (pa_cons pe_str (pa_cons (pv 9) pa_nil))) pa_nil))) pa_nil)))) pss_nil)))) (pss_cons (ps_for PassesOwn.never rfl (pi_range2 rfl Z.range_ (pa_cons pe_int (pa_cons (pe_op (op_addK (K := K) rfl) (pv 5) pe_int) pa_nil))) (pg_name (i := 9) nd rfl (.inl rfl)) (pss_cons (ps_asg (pe_callC c__law_rest (hr.mono (by decide)) (by rfl) (pa_cons (pe_op op_mul (pv 9) (pv 2)) (pa_cons (pv 4) pa_nil))) (pg_name (i := 11) nd rfl (.inl rfl))) (pss_one (ps_if (pt_chain op_lt op_le pe_int (pv 11) (pv 7)) (pss_one (ps_expr (pe_bm PySem.F.plainAttrs_list PySem.F.slot_list_append PySem.F.type_list_append mt_append (pv 8) (pa_cons (pe_tup (pa_cons (pe_op (op_addK (K := K) rfl) (pv 5) (pe_op op_mul (pv 9) (pe_callC c__law_up (hr.mono (by decide)) (by rfl) (pa_cons (pe_op op_sub (pv 4) (pv 7)) (pa_cons (pv 11) pa_nil))))) (pa_cons (pe_tup (pa_cons pe_str (pa_cons (pv 9) pa_nil))) pa_nil))) pa_nil)))) pss_nil)))) (pss_cons (ps_if (pt_cmpR (op_eqK (K := K) rfl hu) (pv 8) (pe_lst pa_nil) (nomark _)) (pss_one (ps_ret (pe_tup (pa_cons pe_str (pa_cons pe_str pa_nil))))) pss_nil) (pss_cons (ps_asg (pe_callB (cr_minK' (K := K) rfl rfl) (by rfl) Z.min boot_min (pa_cons (pe_lc (own := [("many", 13), ("way", 14)]) (g := gTup K 2 (gCons (gName 13) (gCons (gName 14) gNil))) (tt := tYes) rfl nd (pi_list (pv 8)) (blkOk_by (N := N__law_forever) (sc := defScope s__law_forever) (by decide +kernel)) (fun _ _ _ _ _ => (pg_tup (n := 2) rfl (pgs_cons (pg_name (i := 13) nd rfl (.inl rfl)) (pgs_cons (pg_name (i := 14) nd rfl (.inl rfl)) pgs_nil)))) (fun _ _ _ _ _ => pts_nil) (fun _ _ _ _ _ => (pv 13))) pa_nil)) (pg_name (i := 12) nd rfl (.inr rfl))) (pss_one (ps_ret (pe_ix (ix_seqK (K := K) rfl) (pe_lc (own := [("many", 13), ("way", 14)]) (g := gTup K 2 (gCons (gName 13) (gCons (gName 14) gNil))) (tt := _) rfl nd (pi_list (pv 8)) (blkOk_by (N := N__law_forever) (sc := defScope s__law_forever) (by decide +kernel)) (fun _ _ _ _ _ => (pg_tup (n := 2) rfl (pgs_cons (pg_name (i := 13) nd rfl (.inl rfl)) (pgs_cons (pg_name (i := 14) nd rfl (.inl rfl)) pgs_nil)))) (fun _ _ _ _ _ => (pts_one (pt_cmpR (op_eqK (K := K) rfl hu) (pv 13) (pv 12) (nomark _)))) (fun _ _ _ _ _ => (pe_tup (pa_cons pe_str (pa_cons (pv 13) (pa_cons (pv 14) pa_nil)))))) pe_int (fun _ _ => rfl))))))))))))), fn_run h ?_⟩
  intro xs st Φ hl hp
  clear hl h hu hr nd
  try dsimp only [L2.cxOf, NdefX.ncx]
  obtain ⟨a, b, c, H, m, r, rfl, G, q⟩ := hp
  have G' := G
  obtain ⟨⟨g1, g2, g3, g4, g5⟩, ⟨g6, g7, g8⟩, g9, g10, g11, g12, g13, g14⟩ := G'
  unfold forEver at q
  walk_at "s"
  refine ⟨by rfl, a, b, c, H, m, r, rfl, G, ?_⟩
  walk_at "s"
  walk_at "f"
  refine ⟨fun h => ?_, fun h => ?_⟩
  · rw [if_pos (of_decide_eq_true h)] at q
    walk_at "s"
    exact fin_pd (by simp) q
  rw [if_neg (of_decide_eq_false h)] at q
  have o1 : 0 < overOf a b c H m r := by
    have := of_decide_eq_false h
    omega
  refine ws_next ?_
  walk_at "f"
  refine ⟨fun h => ?_, fun h => ?_⟩
  · rw [if_pos (of_decide_eq_true h)] at q
    walk_at "s"
    exact fin_pd (by simp) q
  rw [if_neg (of_decide_eq_false h)] at q
  have o2 : overOf a b c H m r < H := by
    have := of_decide_eq_false h
    omega
  have o3 : 0 < b - a - c := by
    have e : overOf a b c H m r = m * (b - a - c) - (r - 1) * H := rfl
    rcases Int.lt_or_le 0 (b - a - c) with h | h
    · exact h
    · have h1 : m * (b - a - c) ≤ 0 := Int.mul_nonpos_of_nonneg_of_nonpos (by omega) h
      have h2 : 0 ≤ (r - 1) * H := Int.mul_nonneg (by omega) (by omega)
      omega
  refine ws_next ?_
  generalize overOf a b c H m r = over at q o1 o2 ⊢
  refine ws_mid (fun ss' st' => ss' = [some (.pd (.list [.int a, .int b, .int c, .int H, .int m, .int r])), some (.pd (.int a)), some (.pd (.int b)), some (.pd (.int c)), some (.pd (.int H)), some (.pd (.int m)), some (.pd (.int r)), some (.pd (.int over)), some (.cell st.length), none, none, none, none, none, none] ∧
    st' = st ++ [.mu ((if over > c then [(m + partsUp (H - over) (b - a - c), Way.gap)] else []).map eRow)]) ?_ ?_
  · refine ws_asg (we_if ?_)
    walk_at "s"
    refine ⟨fun h => ?_, fun h => ?_⟩
    · rw [if_pos (of_decide_eq_true h)]
      refine we_lstC ?_
      walk_at "s"
      refine ⟨by rfl, _, _, rfl, by omega, by omega, ?_⟩
      walk_at "s"
      exact ⟨rfl, rfl⟩
    · rw [if_neg (of_decide_eq_false h)]
      refine we_lstC ?_
      walk_at "s"
      exact ⟨rfl, rfl⟩
  rintro ss' st' ⟨rfl, rfl⟩
  generalize hw0 : (if over > c then [(m + partsUp (H - over) (b - a - c), Way.gap)] else []) = w0
  have hl0 : w0.length ≤ 1 := by
    rw [← hw0]
    split <;> simp
  have hrl := rems_len a b c H m
  have hq : caughtWays a b c H m over = w0 ++ waysS H m over 1 (rems a b c H m) ++ waysO H m over 1 (rems a b c H m) := by
    unfold caughtWays
    rw [hw0]
  have hSl := waysS_le H m over 1 (rems a b c H m)
  have hOl := waysO_le H m over 1 (rems a b c H m)
  have hget := fun i (h : i < m.toNat) => rems_get (a := a) (b := b) (c := c) (H := H) h
  generalize rems a b c H m = R at hrl hq hSl hOl hget ⊢
  refine ws_seq (ws_forR2 (wa_cons (we_c rfl (wa_cons (we_op (we_var rfl (we_c rfl (wr_addI (wa_nil ⟨_, _, rfl, by omega, fun i ss' st' => ∃ (made : List (Int × Way)) (y9 y10 : Option Val), ss' = [some (.pd (.list [.int a, .int b, .int c, .int H, .int m, .int r])), some (.pd (.int a)), some (.pd (.int b)), some (.pd (.int c)), some (.pd (.int H)), some (.pd (.int m)), some (.pd (.int r)), some (.pd (.int over)), some (.cell st.length), y9, y10, none, none, none, none] ∧
    st' = st ++ [.mu (made.map eRow)] ∧ made ++ waysS H m over (1 + (i : Int)) (R.drop i) = w0 ++ waysS H m over 1 R, ⟨w0, none, none, rfl, rfl, rfl⟩, ?_, ?_⟩)))))))))
  · rintro i ss' st' hi ⟨made, y9, y10, rfl, rfl, he⟩
    have hi : i < m.toNat := by omega
    have hx := hget i hi
    have b1 := Int.emod_nonneg ((1 + (i : Int)) * (a + c)) (show H ≠ 0 by omega)
    have b2 := Int.emod_lt_of_pos ((1 + (i : Int)) * (a + c)) (show 0 < H by omega)
    obtain ⟨hi2, hxi⟩ := List.getElem?_eq_some_iff.mp hx
    have hb := congrArg List.length he
    rw [List.length_append, List.length_append] at hb
    rw [List.drop_eq_getElem_cons hi2, hxi] at he
    walk_at "s"
    refine ⟨by rfl, _, _, rfl, by omega, ?_⟩
    generalize (1 + (i : Int)) * (a + c) % H = s at b1 b2 he hx hxi ⊢
    generalize (1 + (i : Int)) * b % H = y at he hx hxi ⊢
    have he : made ++ ((if s ≥ H - over then [(m + (1 + (i : Int)) * partsUp (H - over) (H - s), Way.short (1 + (i : Int)))] else []) ++ waysS H m over (1 + (i : Int) + 1) (R.drop (i + 1))) = w0 ++ waysS H m over 1 R := he
    have ei : (1 + (i : Int) + 1) = (1 + ((i + 1 : Nat) : Int)) := by omega
    rw [ei] at he
    walk_at "s"
    refine ⟨fun h => ?_, fun h => ?_⟩
    · rw [if_pos (by have := of_decide_eq_true h; omega)] at he
      walk_at "s"
      refine ⟨by rfl, _, _, rfl, by omega, by omega, ?_⟩
      walk_at "s"
      refine ⟨made ++ [(m + (1 + (i : Int)) * partsUp (H - over) (H - s), Way.short (1 + (i : Int)))], _, _, rfl, ?_, ?_⟩
      · rw [← snoc_row made _ rfl]
        rfl
      · rw [List.append_assoc]
        exact he
    · rw [if_neg (by have := of_decide_eq_false h; omega)] at he
      walk_at "s"
      exact ⟨made, _, _, rfl, rfl, he⟩
  · rintro ss' st' ⟨made, y9, y10, rfl, rfl, he⟩
    rw [show (m + 1 - 1).toNat = R.length by omega, List.drop_length] at he
    have he : made = w0 ++ waysS H m over 1 R := by
      rw [← he]
      exact (List.append_nil _).symm
    rw [← he] at hq
    have hml := congrArg List.length he
    rw [List.length_append] at hml
    refine ws_seq (ws_forR2 (wa_cons (we_c rfl (wa_cons (we_op (we_var rfl (we_c rfl (wr_addI (wa_nil ⟨_, _, rfl, by omega, fun i ss' st' => ∃ (made2 : List (Int × Way)) (y9 y11 : Option Val), ss' = [some (.pd (.list [.int a, .int b, .int c, .int H, .int m, .int r])), some (.pd (.int a)), some (.pd (.int b)), some (.pd (.int c)), some (.pd (.int H)), some (.pd (.int m)), some (.pd (.int r)), some (.pd (.int over)), some (.cell st.length), y9, y10, y11, none, none, none] ∧
      st' = st ++ [.mu (made2.map eRow)] ∧ made2 ++ waysO H m over (1 + (i : Int)) (R.drop i) = made ++ waysO H m over 1 R, ⟨made, _, _, rfl, rfl, rfl⟩, ?_, ?_⟩)))))))))
    · rintro i ss' st' hi ⟨made2, y9, y11, rfl, rfl, he⟩
      have hi : i < m.toNat := by omega
      have hx := hget i hi
      have b1 := Int.emod_nonneg ((1 + (i : Int)) * b) (show H ≠ 0 by omega)
      have b2 := Int.emod_lt_of_pos ((1 + (i : Int)) * b) (show 0 < H by omega)
      obtain ⟨hi2, hxi⟩ := List.getElem?_eq_some_iff.mp hx
      have hb := congrArg List.length he
      rw [List.length_append, List.length_append] at hb
      rw [List.drop_eq_getElem_cons hi2, hxi] at he
      walk_at "s"
      refine ⟨by rfl, _, _, rfl, by omega, ?_⟩
      generalize (1 + (i : Int)) * (a + c) % H = s at he hx hxi ⊢
      generalize (1 + (i : Int)) * b % H = y at b1 b2 he hx hxi ⊢
      have he : made2 ++ ((if 1 ≤ y ∧ y ≤ over then [(m + (1 + (i : Int)) * partsUp (H - over) y, Way.over (1 + (i : Int)))] else []) ++ waysO H m over (1 + (i : Int) + 1) (R.drop (i + 1))) = made ++ waysO H m over 1 R := he
      have ei : (1 + (i : Int) + 1) = (1 + ((i + 1 : Nat) : Int)) := by omega
      rw [ei] at he
      walk_at "s"
      have no : ¬ (1 ≤ y ∧ y ≤ over) → ∃ (made2' : List (Int × Way)) (y9' y11' : Option Val), [some (.pd (.list [.int a, .int b, .int c, .int H, .int m, .int r])), some (.pd (.int a)), some (.pd (.int b)), some (.pd (.int c)), some (.pd (.int H)), some (.pd (.int m)), some (.pd (.int r)), some (.pd (.int over)), some (.cell st.length), some (.pd (.int (1 + (i : Int)))), y10, some (.pd (.int y)), none, none, none] = [some (.pd (.list [.int a, .int b, .int c, .int H, .int m, .int r])), some (.pd (.int a)), some (.pd (.int b)), some (.pd (.int c)), some (.pd (.int H)), some (.pd (.int m)), some (.pd (.int r)), some (.pd (.int over)), some (.cell st.length), y9', y10, y11', none, none, none] ∧
          st ++ [.mu (made2.map eRow)] = st ++ [.mu (made2'.map eRow)] ∧ made2' ++ waysO H m over (1 + ((i + 1 : Nat) : Int)) (R.drop (i + 1)) = made ++ waysO H m over 1 R := fun hn => by
        rw [if_neg hn] at he
        exact ⟨made2, _, _, rfl, rfl, he⟩
      refine ⟨fun h => ?_, fun h => ⟨_, rfl, fun h2 => (by cases h2), fun _ => ?_⟩⟩
      · walk_at "s"
        refine ⟨fun h2 => ?_, fun h2 => ?_⟩
        · have h1 := of_decide_eq_true h
          have h2 := of_decide_eq_true h2
          rw [if_pos ⟨by omega, h2⟩] at he
          walk_at "s"
          refine ⟨by rfl, _, _, rfl, by omega, by omega, ?_⟩
          walk_at "s"
          refine ⟨made2 ++ [(m + (1 + (i : Int)) * partsUp (H - over) y, Way.over (1 + (i : Int)))], _, _, rfl, ?_, ?_⟩
          · rw [← snoc_row made2 _ rfl]
            rfl
          · rw [List.append_assoc]
            exact he
        · walk_at "s"
          exact no fun hn => absurd hn.2 (of_decide_eq_false h2)
      · walk_at "s"
        exact no fun hn => absurd (show 0 < y by omega) (of_decide_eq_false h)
    · rintro ss' st' ⟨made2, y9, y11, rfl, rfl, he2⟩
      rw [show (m + 1 - 1).toNat = R.length by omega, List.drop_length] at he2
      have he2 : made2 = made ++ waysO H m over 1 R := by
        rw [← he2]
        exact (List.append_nil _).symm
      rw [← he2] at hq
      rw [hq] at q
      have hml2 := congrArg List.length he2
      rw [List.length_append] at hml2
      clear he2 he hq
      walk_at "f"
      refine wr_eqD look_end rfl (sh_rows made2) rfl ?_
      rw [eqv_isNil]
      walk_at "s"
      cases made2 with
      | nil =>
        refine ⟨fun _ => ?_, fun h => (by cases h)⟩
        walk_at "s"
        exact fin_end q
      | cons x t =>
        refine ⟨fun h => (by cases h), fun _ => ?_⟩
        refine ws_next ?_
        refine ws_sA (we_cb (wa_cons ?_))
        refine we_lcL (gw_tup (gw_cons gm_name (gm_cons gm_name gm_nil) (gw_name (by simp)) (gw_cons gm_name gm_nil (gw_name (by simp)) gw_nil))) ?_
        refine we_pur (we_var rfl ⟨_, _, pur_end, ?_⟩)
        refine ⟨_, rfl, by rw [List.length_map]; exact big_lt (by omega), rowN, ?_, ?_⟩
        · intro i d acc hd
          obtain ⟨z, hz, rfl⟩ := List.mem_map.mp (List.mem_of_getElem? hd)
          walk_at "s"
          refine ⟨fun _ => ?_, fun h => (by cases h)⟩
          walk_at "s"
          exact ⟨_, _, rfl, take_snoc, rfl⟩
        rw [rowN_map]
        refine wa_nil (wc_min rfl (by simp) fun least hm hle => ?_)
        walk_at "s"
        refine we_lcL (gw_tup (gw_cons gm_name (gm_cons gm_name gm_nil) (gw_name (by simp)) (gw_cons gm_name gm_nil (gw_name (by simp)) gw_nil))) ?_
        refine we_pur (we_var rfl ⟨_, _, pur_endF, ?_⟩)
        refine ⟨_, rfl, by rw [List.length_map]; exact big_lt (by omega), rowC least, ?_, ?_⟩
        · intro i d acc hd
          obtain ⟨z, hz, rfl⟩ := List.mem_map.mp (List.mem_of_getElem? hd)
          walk_at "s"
          refine ⟨fun h => ?_, fun h => ?_⟩
          · walk_at "s"
            exact ⟨_, _, rfl, take_snoc, if_pos (of_decide_eq_true h)⟩
          · exact ⟨take_snoc, if_neg (of_decide_eq_false h)⟩
        rw [rowC_map]
        obtain ⟨y, hy, hy2⟩ := List.mem_map.mp hm
        have hle2 := fun (z : Int × Way) (hz : z ∈ x :: t) => hle z.1 (List.mem_map.mpr ⟨z, hz, rfl⟩)
        obtain ⟨t2, e2⟩ := best_min (least := least) (x :: t) x (hle2 x (List.mem_cons_self ..)) hle2 (.inr ⟨y, hy, hy2⟩)
        have e3 : ∃ t3, (x :: t).filter (fun y => decide (y.1 = least)) = bestOf x (x :: t) :: t3 := by
          by_cases hx : x.1 = least
          · rw [List.filter_cons_of_pos (by simpa using hx)] at e2
            exact ⟨_, by rw [List.filter_cons_of_pos (by simpa using hx), ← (List.cons.inj e2).1]⟩
          · rw [List.filter_cons_of_neg (by simpa using hx)] at e2
            exact ⟨t2, e2⟩
        obtain ⟨t3, e3⟩ := e3
        rw [e3]
        walk_at "s"
        refine wr_ixuL rfl (atI_nat (j := 0) rfl) ?_
        exact fin_end q
/-! ### _law_draw_like -/
abbrev N__law_draw_like : List Str := ["purse", "kind", "H", "m", "r", "g", "over", "c", "w", "a"]
theorem sc__law_draw_like : FnScope N__law_draw_like ["purse"] (defScope s__law_draw_like) := ⟨rfl, rfl, rfl, by decide +kernel, rfl, by decide +kernel, by decide +kernel⟩
theorem ok__law_draw_like (c__law_draw : Cal P w K mg base 1 "_law_draw" ["purse", "many"] (spP K T 2 pre__law_draw)) (c__law_rest : Cal P w K mg base 1 "_law_rest" ["many", "part"] (spP K T 2 pre__law_rest)) (Z : Zs mg) (dd : Df K mg "_law_draw_like" s__law_draw_like) : Cal P w K mg base 2 "_law_draw_like" ["purse"] (spP K T 1 pre__law_draw_like) := by
  refine dd.cal (fun f fd F => F.ok sc__law_draw_like (fun vs H Q E h => spP_len h) fun cdv A outer s H vs Q E hr h => ?_) (fun _ _ _ _ _ _ us hl => match us, hl with | [_], _ => rfl)
  have nd := sc__law_draw_like.nd
  have hu := room_u hr
  refine ⟨_, (pss_cons (ps_asg (pe_callC c__law_draw (hr.mono (by decide)) (by rfl) (pa_cons (pv 0) (pa_cons pe_int pa_nil))) (pg_name (i := 1) nd rfl (.inl rfl))) (pss_cons (ps_asg (pe_op (op_addK (K := K) rfl) pe_int (pe_callC c__law_draw (hr.mono (by decide)) (by rfl) (pa_cons (pv 0) (pa_cons pe_int pa_nil)))) (pg_name (i := 2) nd rfl (.inl rfl))) (pss_cons (ps_asg (pe_op (op_addK (K := K) rfl) pe_int (pe_callC c__law_draw (hr.mono (by decide)) (by rfl) (pa_cons (pv 0) (pa_cons pe_int pa_nil)))) (pg_name (i := 3) nd rfl (.inl rfl))) (pss_cons (ps_asg (pe_ifExp (pt_cmpR (op_eqK (K := K) rfl hu) (pe_callC c__law_draw (hr.mono (by decide)) (by rfl) (pa_cons (pv 0) (pa_cons pe_int pa_nil))) pe_int (nomark _)) pe_int pe_int) (pg_name (i := 4) nd rfl (.inl rfl))) (pss_cons (ps_asg (pe_op (op_addK (K := K) rfl) pe_int (pe_callC c__law_draw (hr.mono (by decide)) (by rfl) (pa_cons (pv 0) (pa_cons pe_int pa_nil)))) (pg_name (i := 5) nd rfl (.inl rfl))) (pss_cons (ps_if (pt_cmpR (op_eqK (K := K) rfl hu) (pv 1) pe_int (nomark _)) (pss_one (ps_asg pe_int (pg_name (i := 5) nd rfl (.inl rfl)))) pss_nil) (pss_cons (ps_asg (pe_op op_sub (pe_op op_mul (pv 3) (pv 5)) (pe_op op_mul (pe_op op_sub (pv 4) pe_int) (pv 2))) (pg_name (i := 6) nd rfl (.inl rfl))) (pss_cons (ps_asg (pe_ifExp (pt_cmpR op_gt (pv 1) pe_int (nomark _)) (pe_op (op_addK (K := K) rfl) (pe_callB (call_max2 rfl) (by rfl) Z.max boot_max (pa_cons pe_int (pa_cons (pv 6) pa_nil))) (pe_callC c__law_draw (hr.mono (by decide)) (by rfl) (pa_cons (pv 0) (pa_cons pe_int pa_nil)))) (pe_callC c__law_draw (hr.mono (by decide)) (by rfl) (pa_cons (pv 0) (pa_cons pe_int pa_nil)))) (pg_name (i := 7) nd rfl (.inl rfl))) (pss_cons (ps_if (pt_cmpR (op_eqK (K := K) rfl hu) (pv 1) pe_int (nomark _)) (pss_one (ps_asg (pe_callC c__law_draw (hr.mono (by decide)) (by rfl) (pa_cons (pv 0) (pa_cons (pe_callB (call_max2 rfl) (by rfl) Z.max boot_max (pa_cons pe_int (pa_cons (pv 6) pa_nil))) pa_nil))) (pg_name (i := 7) nd rfl (.inl rfl)))) pss_nil) (pss_cons (ps_asg (pe_op (op_addK (K := K) rfl) (pv 7) (pv 5)) (pg_name (i := 8) nd rfl (.inl rfl))) (pss_cons (ps_asg (pe_callC c__law_draw (hr.mono (by decide)) (by rfl) (pa_cons (pv 0) (pa_cons (pv 2) pa_nil))) (pg_name (i := 9) nd rfl (.inl rfl))) (pss_cons (ps_if (pt_cmpR (op_inK (K := K) rfl) (pv 1) (pe_lst (pa_cons pe_int (pa_cons pe_int pa_nil))) (by rfl)) (pss_one (ps_asg (pe_callC c__law_rest (hr.mono (by decide)) (by rfl) (pa_cons (pe_op op_sub (pe_op (op_addK (K := K) rfl) (pe_op op_sub (pe_op op_sub (pv 2) pe_int) (pv 6)) (pe_callC c__law_draw (hr.mono (by decide)) (by rfl) (pa_cons (pv 0) (pa_cons pe_int pa_nil)))) (pv 7)) (pa_cons (pv 2) pa_nil))) (pg_name (i := 9) nd rfl (.inl rfl)))) pss_nil) (pss_cons (ps_if (pt_cmpR (op_eqK (K := K) rfl hu) (pv 1) pe_int (nomark _)) (pss_one (ps_asg (pe_callC c__law_rest (hr.mono (by decide)) (by rfl) (pa_cons (pe_op op_sub (pe_op (op_addK (K := K) rfl) (pv 6) (pe_callC c__law_draw (hr.mono (by decide)) (by rfl) (pa_cons (pv 0) (pa_cons pe_int pa_nil)))) (pv 8)) (pa_cons (pv 2) pa_nil))) (pg_name (i := 9) nd rfl (.inl rfl)))) pss_nil) (pss_cons (ps_if (pt_cmpR (op_eqK (K := K) rfl hu) (pv 1) pe_int (nomark _)) (pss_one (ps_asg (pe_callC c__law_rest (hr.mono (by decide)) (by rfl) (pa_cons (pe_op op_sub (pv 2) (pv 8)) (pa_cons (pv 2) pa_nil))) (pg_name (i := 9) nd rfl (.inl rfl)))) pss_nil) (pss_cons (ps_if (PW.pt (pw_or (pt_cmpR (op_eqK (K := K) rfl hu) (pe_callC c__law_draw (hr.mono (by decide)) (by rfl) (pa_cons (pv 0) (pa_cons pe_int pa_nil))) pe_int (nomark _)) (pw_or1 (pt_cmpR (op_eqK (K := K) rfl hu) (pe_op (op_addK (K := K) rfl) (pv 9) (pv 8)) pe_int (nomark _))))) (pss_one (ps_aug (i := 9) nd rfl (.inl rfl) (pv 2) ip_add)) pss_nil) (pss_one (ps_ret (pe_lst (pa_cons (pv 9) (pa_cons (pe_op (op_addK (K := K) rfl) (pv 9) (pv 8)) (pa_cons (pv 7) (pa_cons (pv 2) (pa_cons (pv 3) (pa_cons (pv 4) pa_nil)))))))))))))))))))))))), fn_run h ?_⟩
  intro xs st Φ hl hp
  clear hl h hu hr nd
  try dsimp only [L2.cxOf, NdefX.ncx]
  obtain ⟨n, rfl, hP, q⟩ := hp
  walk_at "s"
  refine ⟨by rfl, n, 8, rfl, by omega, by omega, hP, fun kind st1 k0 k1 o1 p1 => ?_⟩
  walk_at "s"
  refine ⟨by rfl, n, 10, rfl, by omega, by omega, p1, fun v2 st2 h20 h21 o2 p2 => ?_⟩
  have o2 := o1.trans o2
  walk_at "s"
  refine ⟨by rfl, n, 3, rfl, by omega, by omega, p2, fun v3 st3 h30 h31 o3 p3 => ?_⟩
  have o3 := o2.trans o3
  refine wr_addI ?_
  refine wg_name ?_
  refine ws_mid (fun ss' st' => Only st st' n ∧ Pur st' n ∧ ∃ r : Int, (1 ≤ r ∧ r ≤ 2) ∧ ss' = [some (.cell n), some (.pd (.int kind)), some (.pd (.int (3 + v2))), some (.pd (.int (1 + v3))), some (.pd (.int r)), none, none, none, none, none]) ?_ ?_
  · walk_at "s"
    refine ⟨by rfl, n, 4, rfl, by omega, by omega, p3, fun v4 st4 h40 h41 o4 p4 => ?_⟩
    have o4 := o3.trans o4
    walk_at "s"
    refine ⟨fun h => ?_, fun h => ?_⟩
    · walk_at "s"
      exact ⟨o4, p4, _, by omega, rfl⟩
    · walk_at "s"
      exact ⟨o4, p4, _, by omega, rfl⟩
  rintro ss' st4 ⟨o4, p4, r, ⟨r1, r2⟩, rfl⟩
  walk_at "s"
  refine ⟨by rfl, n, 2, rfl, by omega, by omega, p4, fun v5 st5 h50 h51 o5 p5 => ?_⟩
  have o5 := o4.trans o5
  refine wr_addI ?_
  refine wg_name ?_
  refine ws_mid (fun ss' st' => st5 = st' ∧ ∃ g : Int, (0 ≤ g ∧ g ≤ 2) ∧ ss' = [some (.cell n), some (.pd (.int kind)), some (.pd (.int (3 + v2))), some (.pd (.int (1 + v3))), some (.pd (.int r)), some (.pd (.int g)), none, none, none, none]) ?_ ?_
  · walk_at "s"
    refine ⟨fun h => ?_, fun h => ?_⟩
    · walk_at "s"
      exact ⟨rfl, _, by omega, rfl⟩
    · walk_at "s"
      exact ⟨rfl, _, by omega, rfl⟩
  rintro ss' st' ⟨rfl, g, ⟨g0, g2⟩, rfl⟩
  have hmg := mul_small (m := 1 + v3) (g := g) (by omega) (by omega) g0 g2
  have hrH := Int.mul_nonneg (show 0 ≤ r - 1 by omega) (show 0 ≤ 3 + v2 by omega)
  refine ws_mid (fun ss' st' => st5 = st' ∧ ∃ over : Int, over ≤ 6 ∧ ss' = [some (.cell n), some (.pd (.int kind)), some (.pd (.int (3 + v2))), some (.pd (.int (1 + v3))), some (.pd (.int r)), some (.pd (.int g)), some (.pd (.int over)), none, none, none]) ?_ ?_
  · walk_at "s"
    exact ⟨rfl, _, by omega, rfl⟩
  rintro ss' st' ⟨rfl, over, ho, rfl⟩
  refine ws_mid (fun ss' st' => Only st st' n ∧ Pur st' n ∧ ∃ c : Int, (0 ≤ c ∧ c ≤ 8) ∧ ss' = [some (.cell n), some (.pd (.int kind)), some (.pd (.int (3 + v2))), some (.pd (.int (1 + v3))), some (.pd (.int r)), some (.pd (.int g)), some (.pd (.int over)), some (.pd (.int c)), none, none]) ?_ ?_
  · walk_at "s"
    refine ⟨fun h => ?_, fun h => ?_⟩
    · walk_at "s"
      refine ⟨by rfl, n, 3, rfl, by omega, by omega, p5, fun v6 st6 h60 h61 o6 p6 => ?_⟩
      walk_at "s"
      exact ⟨o5.trans o6, p6, _, by split <;> omega, rfl⟩
    · walk_at "s"
      refine ⟨by rfl, n, 4, rfl, by omega, by omega, p5, fun v6 st6 h60 h61 o6 p6 => ?_⟩
      walk_at "s"
      exact ⟨o5.trans o6, p6, _, by omega, rfl⟩
  rintro ss' st6 ⟨o6, p6, c0, ⟨c00, c08⟩, rfl⟩
  refine ws_mid (fun ss' st' => Only st st' n ∧ Pur st' n ∧ ∃ c : Int, (0 ≤ c ∧ c ≤ 8) ∧ ss' = [some (.cell n), some (.pd (.int kind)), some (.pd (.int (3 + v2))), some (.pd (.int (1 + v3))), some (.pd (.int r)), some (.pd (.int g)), some (.pd (.int over)), some (.pd (.int c)), none, none]) ?_ ?_
  · walk_at "s"
    refine ⟨fun h => ?_, fun h => ?_⟩
    · walk_at "s"
      refine ⟨by rfl, n, _, rfl, by split <;> omega, by split <;> omega, p6, fun v6 st7 h60 h61 o7 p7 => ?_⟩
      walk_at "s"
      refine ⟨o6.trans o7, p7, _, ⟨h60, ?_⟩, rfl⟩
      split at h61 <;> omega
    · walk_at "s"
      exact ⟨o6, p6, _, ⟨c00, c08⟩, rfl⟩
  rintro ss' st7 ⟨o7, p7, c, ⟨c0, c8⟩, rfl⟩
  walk_at "s"
  refine ⟨by rfl, n, _, rfl, by omega, by omega, p7, fun a0 st8 a00 a01 o8 p8 => ?_⟩
  have o8 := o7.trans o8
  refine wg_name ?_
  refine ws_mid (fun ss' st' => Only st st' n ∧ Pur st' n ∧ ∃ a : Int, (0 ≤ a ∧ a < 3 + v2) ∧ ss' = [some (.cell n), some (.pd (.int kind)), some (.pd (.int (3 + v2))), some (.pd (.int (1 + v3))), some (.pd (.int r)), some (.pd (.int g)), some (.pd (.int over)), some (.pd (.int c)), some (.pd (.int (c + g))), some (.pd (.int a))]) ?_ ?_
  · walk_at "s"
    refine wr_in rfl rfl rfl ?_
    walk_at "s"
    refine ⟨fun h => ?_, fun h => ?_⟩
    · walk_at "s"
      refine ⟨by rfl, n, 2, rfl, by omega, by omega, p8, fun v9 st9 h90 h91 o9 p9 => ?_⟩
      walk_at "s"
      refine ⟨by rfl, _, _, rfl, by omega, ?_⟩
      walk_at "s"
      exact ⟨o8.trans o9, p9, _, ⟨Int.emod_nonneg _ (by omega), Int.emod_lt_of_pos _ (by omega)⟩, rfl⟩
    · walk_at "s"
      exact ⟨o8, p8, _, ⟨a00, a01⟩, rfl⟩
  rintro ss' st9 ⟨o9, p9, a1, ⟨a10, a11⟩, rfl⟩
  refine ws_mid (fun ss' st' => Only st st' n ∧ Pur st' n ∧ ∃ a : Int, (0 ≤ a ∧ a < 3 + v2) ∧ ss' = [some (.cell n), some (.pd (.int kind)), some (.pd (.int (3 + v2))), some (.pd (.int (1 + v3))), some (.pd (.int r)), some (.pd (.int g)), some (.pd (.int over)), some (.pd (.int c)), some (.pd (.int (c + g))), some (.pd (.int a))]) ?_ ?_
  · walk_at "s"
    refine ⟨fun h => ?_, fun h => ?_⟩
    · walk_at "s"
      refine ⟨by rfl, n, 2, rfl, by omega, by omega, p9, fun v10 st10 h100 h101 o10 p10 => ?_⟩
      walk_at "s"
      refine ⟨by rfl, _, _, rfl, by omega, ?_⟩
      walk_at "s"
      exact ⟨o9.trans o10, p10, _, ⟨Int.emod_nonneg _ (by omega), Int.emod_lt_of_pos _ (by omega)⟩, rfl⟩
    · walk_at "s"
      exact ⟨o9, p9, _, ⟨a10, a11⟩, rfl⟩
  rintro ss' st10 ⟨o10, p10, a2, ⟨a20, a21⟩, rfl⟩
  refine ws_mid (fun ss' st' => Only st st' n ∧ Pur st' n ∧ ∃ a : Int, (0 ≤ a ∧ a < 3 + v2) ∧ ss' = [some (.cell n), some (.pd (.int kind)), some (.pd (.int (3 + v2))), some (.pd (.int (1 + v3))), some (.pd (.int r)), some (.pd (.int g)), some (.pd (.int over)), some (.pd (.int c)), some (.pd (.int (c + g))), some (.pd (.int a))]) ?_ ?_
  · walk_at "s"
    refine ⟨fun h => ?_, fun h => ?_⟩
    · walk_at "s"
      refine ⟨by rfl, _, _, rfl, by omega, ?_⟩
      walk_at "s"
      exact ⟨o10, p10, _, ⟨Int.emod_nonneg _ (by omega), Int.emod_lt_of_pos _ (by omega)⟩, rfl⟩
    · walk_at "s"
      exact ⟨o10, p10, _, ⟨a20, a21⟩, rfl⟩
  rintro ss' st11 ⟨o11, p11, a3, ⟨a30, a31⟩, rfl⟩
  refine ws_mid (fun ss' st' => Only st st' n ∧ Pur st' n ∧ ∃ a : Int, (0 ≤ a ∧ a < 2 * (3 + v2) ∧ a + (c + g) ≠ 0) ∧ ss' = [some (.cell n), some (.pd (.int kind)), some (.pd (.int (3 + v2))), some (.pd (.int (1 + v3))), some (.pd (.int r)), some (.pd (.int g)), some (.pd (.int over)), some (.pd (.int c)), some (.pd (.int (c + g))), some (.pd (.int a))]) ?_ ?_
  · walk_at "s"
    refine ⟨by rfl, n, 4, rfl, by omega, by omega, p11, fun v12 st12 h120 h121 o12 p12 => ?_⟩
    have o12 := o11.trans o12
    walk_at "s"
    refine ⟨fun h => ?_, fun h => ?_⟩
    · refine ⟨fun _ => ?_, fun h => (by cases h)⟩
      walk_at "s"
      exact ⟨o12, p12, _, by omega, rfl⟩
    · walk_at "s"
      refine ⟨fun h => ?_, fun h => ?_⟩
      · walk_at "s"
        exact ⟨o12, p12, _, by omega, rfl⟩
      · have h := of_decide_eq_false h
        walk_at "s"
        exact ⟨o12, p12, _, ⟨a30, by omega, h⟩, rfl⟩
  rintro ss' st12 ⟨o12, p12, a, ⟨a0, aH, aw⟩, rfl⟩
  walk_at "s"
  refine fin_same o12.len (q _ _ _ _ _ _ _ ⟨by omega, by omega, by omega, by omega, by omega, by omega, by omega, by omega, by omega, by omega, by omega, by omega, by omega⟩ o12 p12)
/-! ### _law_draw_verdict -/
abbrev N__law_draw_verdict : List Str := ["purse", "word", "most", "like", "turn", "tried", "told"]
theorem sc__law_draw_verdict : FnScope N__law_draw_verdict ["purse", "word", "most"] (defScope s__law_draw_verdict) := ⟨rfl, rfl, rfl, by decide +kernel, rfl, by decide +kernel, by decide +kernel⟩
theorem ok__law_draw_verdict (c__law_over : Cal P w K mg base 1 "_law_over" ["like"] (spP K T 1 pre__law_over)) (c__law_forever : Cal P w K mg base 2 "_law_forever" ["like"] (spP K T 1 pre__law_forever)) (c__law_draw_like : Cal P w K mg base 2 "_law_draw_like" ["purse"] (spP K T 1 pre__law_draw_like)) (Z : Zs mg) (dd : Df K mg "_law_draw_verdict" s__law_draw_verdict) : Cal P w K mg base 3 "_law_draw_verdict" ["purse", "word", "most"] (spP K T 3 pre__law_draw_verdict) := by
  refine dd.cal (fun f fd F => F.ok sc__law_draw_verdict (fun vs H Q E h => spP_len h) fun cdv A outer s H vs Q E hr h => ?_) (fun _ _ _ _ _ _ us hl => match us, hl with | [_, _, _], _ => rfl)
  have nd := sc__law_draw_verdict.nd
  have hu := room_u hr
  refine ⟨_, (pss_cons (ps_asg (pe_ifExp (pt_cmpR (op_eqK (K := K) rfl hu) (pv 1) pe_str (nomark _)) (pe_lst (pa_cons pe_int (pa_cons pe_int (pa_cons pe_int (pa_cons pe_int (pa_cons pe_int (pa_cons pe_int pa_nil))))))) (pe_lst (pa_cons pe_int (pa_cons pe_int (pa_cons pe_int (pa_cons pe_int (pa_cons pe_int (pa_cons pe_int pa_nil)))))))) (pg_name (i := 3) nd rfl (.inl rfl))) (pss_cons (ps_for PassesOwn.never rfl (pi_range1 rfl Z.range_ (pa_cons pe_int pa_nil)) (pg_name (i := 4) nd rfl (.inl rfl)) (pss_cons (ps_asg (pe_callC c__law_draw_like (hr.mono (by decide)) (by rfl) (pa_cons (pv 0) pa_nil)) (pg_name (i := 5) nd rfl (.inl rfl))) (pss_cons (ps_asg (pe_callC c__law_forever (hr.mono (by decide)) (by rfl) (pa_cons (pv 5) pa_nil)) (pg_name (i := 6) nd rfl (.inl rfl))) (pss_one (ps_if (PW.pt (pw_and (pt_cmpR (op_eqK (K := K) rfl hu) (pe_ix (ix_seqK (K := K) rfl) (pv 6) pe_int (fun _ _ => rfl)) (pv 1) (nomark _)) (pw_and (PW.pt (pw_or (pt_cmpR (op_eqK (K := K) rfl hu) (pv 1) pe_str (nomark _)) (pw_or1 (pt_cmpR op_le (pe_ix (ix_seqK (K := K) rfl) (pv 6) pe_int (fun _ _ => rfl)) (pv 2) (nomark _))))) (pw_and1 (PW.pt (pw_or (pt_cmpR op_gt (pv 4) pe_int (nomark _)) (pw_or1 (pt_cmpR op_gt (pe_callC c__law_over (hr.mono (by decide)) (by rfl) (pa_cons (pv 5) pa_nil)) pe_int (nomark _))))))))) (pss_one (ps_ret (pv 5))) pss_nil))))) (pss_one (ps_ret (pv 3))))), fn_run h ?_⟩
  intro xs st Φ hl hp
  clear hl h hu hr nd
  try dsimp only [L2.cxOf, NdefX.ncx]
  obtain ⟨n, rfl, hP, q⟩ := hp
  refine ws_mid (fun ss' st' => st = st' ∧ ss' = [some (.cell n), some (.pd (.str "ever")), some (.pd (.int 0)), some (.pd (.list [.int 2, .int 4, .int 2, .int 7, .int 1, .int 1])), none, none, none]) ?_ ?_
  · walk_at "s"
    refine ⟨fun h => ?_, fun h => ?_⟩
    · walk_at "s"
      exact ⟨rfl, rfl⟩
    · exact absurd h (by decide)
  rintro ss' st' ⟨rfl, rfl⟩
  refine ws_seq (ws_forR1 (wa_cons (we_c rfl (wa_nil ⟨_, rfl, by omega, by omega, fun i ss' st' => Only st st' n ∧ Pur st' n ∧ ∃ y4 y5 y6 : Option Val, ss' = [some (.cell n), some (.pd (.str "ever")), some (.pd (.int 0)), some (.pd (.list [.int 2, .int 4, .int 2, .int 7, .int 1, .int 1])), y4, y5, y6], ⟨Only.refl, hP, _, _, _, rfl⟩, ?_, ?_⟩))))
  · rintro i ss' st' hi ⟨o1, p1, y4, y5, y6, rfl⟩
    walk_at "s"
    refine ⟨by rfl, n, rfl, p1, fun a b c H m r st2 L o2 p2 => ?_⟩
    have o2 := o1.trans o2
    walk_at "s"
    refine ⟨by rfl, a, b, c, H, m, r, rfl, L.good, ?_⟩
    walk_at "s"
    obtain ⟨w, rest, hv, hw⟩ := ver_word (forEver a b c H m r)
    rw [hv]
    refine wr_ixuT (atI_nat (j := 0) rfl) ?_
    rcases hw with ⟨rfl, hE⟩ | rfl
    · walk_at "s"
      refine ⟨fun _ => ?_, fun h => absurd h (by decide)⟩
      walk_at "s"
      refine ⟨fun _ => ?_, fun h => absurd h (by decide)⟩
      refine ⟨fun _ => ?_, fun h => absurd h (by decide)⟩
      walk_at "s"
      refine ⟨fun _ => ?_, fun h => ?_⟩
      · refine ⟨fun _ => ?_, fun h => absurd h (by decide)⟩
        walk_at "s"
        exact fin_same o2.len (q _ _ _ _ _ _ _ L hE o2 p2)
      · walk_at "s"
        refine ⟨by rfl, a, b, c, H, m, r, rfl, L.good, ?_⟩
        walk_at "s"
        refine ⟨fun h => ?_, fun h => ?_⟩
        · walk_at "s"
          exact fin_same o2.len (q _ _ _ _ _ _ _ L hE o2 p2)
        · walk_at "s"
          exact ⟨o2, p2, _, _, _, rfl⟩
    · walk_at "s"
      refine ⟨fun h => absurd h (by decide), fun _ => ⟨fun h => absurd h (by decide), fun _ => ?_⟩⟩
      walk_at "s"
      exact ⟨o2, p2, _, _, _, rfl⟩
  · rintro ss' st' ⟨o1, p1, y4, y5, y6, rfl⟩
    walk_at "s"
    exact fin_same o1.len (q _ _ _ _ _ _ _ ⟨by omega, by omega, by omega, by omega, by omega, by omega, by omega, by omega, by omega, by omega, by omega, by omega, by omega⟩ (by decide +kernel) o1 p1)
/-! ### is_row -/
abbrev N_is_row : List Str := ["value"]
theorem sc_is_row : FnScope N_is_row ["value"] (defScope s_is_row) := ⟨rfl, rfl, rfl, by decide +kernel, rfl, by decide +kernel, by decide +kernel⟩
theorem ok_is_row (Z : Zs mg) (dd : Df K mg "is_row" s_is_row) : Cal P w K mg base 1 "is_row" ["value"] (spP K T 1 pre_is_row) := by
  refine dd.cal (fun f fd F => F.ok sc_is_row (fun vs H Q E h => spP_len h) fun cdv A outer s H vs Q E hr h => ?_) (fun _ _ _ _ _ _ us hl => match us, hl with | [_], _ => rfl)
  have nd := sc_is_row.nd
  have hu := room_u hr
  refine ⟨_, (pss_one (ps_ret (pe_callB (call_isiTK (K := K) rfl) (by rfl) Z.isinstance boot_isinstance (pa_cons (pv 0) (pa_cons (pe_tup (pa_cons (pe_tyN (by rfl) Z.list_ boot_list) (pa_cons (pe_tyN (by rfl) Z.tuple_ boot_tuple) pa_nil))) pa_nil))))), fn_run h ?_⟩
  intro xs st Φ hl hp
  clear hl h hu hr nd
  try dsimp only [L2.cxOf, NdefX.ncx]
  obtain ⟨D, ds, rfl, hD, q⟩ := hp
  refine ws_ret (we_isiT (we_var rfl ⟨D, true, rfl, ?_, ?_⟩))
  · rcases hD with rfl | rfl <;> rfl
  · exact fin_pd (by simp) q
/-! ### are_whole -/
abbrev N_are_whole : List Str := ["row", "many", "one"]
theorem sc_are_whole : FnScope N_are_whole ["row", "many"] (defScope s_are_whole) := ⟨rfl, rfl, rfl, by decide +kernel, rfl, by decide +kernel, by decide +kernel⟩
theorem ok_are_whole (c_is_whole : Cal P w K mg base 1 "is_whole" ["value"] (spP K T 1 pre_is_whole)) (c_is_row : Cal P w K mg base 1 "is_row" ["value"] (spP K T 1 pre_is_row)) (Z : Zs mg) (dd : Df K mg "are_whole" s_are_whole) : Cal P w K mg base 2 "are_whole" ["row", "many"] (spP K T 2 pre_are_whole) := by
  refine dd.cal (fun f fd F => F.ok sc_are_whole (fun vs H Q E h => spP_len h) fun cdv A outer s H vs Q E hr h => ?_) (fun _ _ _ _ _ _ us hl => match us, hl with | [_, _], _ => rfl)
  have nd := sc_are_whole.nd
  have hu := room_u hr
  refine ⟨_, (pss_one (ps_ret (pe_and (pe_callC c_is_row (hr.mono (by decide)) (by rfl) (pa_cons (pv 0) pa_nil)) (pe_and (pe_cmpR (op_eqK (K := K) rfl hu) (pe_callB (call_lenK (K := K) rfl) (by rfl) Z.len PySem.boot_len (pa_cons (pv 0) pa_nil)) (pv 1) (nomark _)) (pe_one (pe_cmpR (op_notInK (K := K) rfl) pe_bl (pe_lc (own := [("one", 2)]) (g := gName 2) (tt := tYes) rfl nd (pi_or (pi_list (pv 0)) (pi_tup (pv 0))) (blkOk_by (N := N_are_whole) (sc := defScope s_are_whole) (by decide +kernel)) (fun _ _ _ _ _ => (pg_name (i := 2) nd rfl (.inl rfl))) (fun _ _ _ _ _ => pts_nil) (fun _ _ _ _ _ => (pe_callC c_is_whole (hr.mono (by decide)) (by rfl) (pa_cons (pv 2) pa_nil)))) (by rfl))))))), fn_run h ?_⟩
  intro xs st Φ hl hp
  clear hl h hu hr nd
  try dsimp only [L2.cxOf, NdefX.ncx]
  obtain ⟨D, ns, rfl, hD, hl, q⟩ := hp
  have hq : Ct.Fin st Φ (.pd (.bool true)) st := fin_pd (by simp) q
  have hfm : ∀ ns : List Int, (ns.map PyData.int).filterMap (fun _ => some (PyData.bool true)) = List.replicate ns.length (PyData.bool true) := by
    intro ns
    induction ns with
    | nil => rfl
    | cons n t ih => rw [List.map_cons, List.filterMap_cons, ih]; rfl
  have hfl : (List.replicate ns.length (PyData.bool true)).all flatD = true := List.all_eq_true.mpr fun x hx => by
    rw [(List.mem_replicate.mp hx).2]
    rfl
  refine ws_ret (we_andV ?_)
  walk_at "s"
  refine ⟨by rfl, D, _, rfl, hD, ?_⟩
  refine ⟨_, rfl, fun _ => ?_, fun h => (by cases h)⟩
  refine we_andV ?_
  rcases hD with rfl | rfl
  · walk_at "s"
    refine ⟨fun _ => ?_, fun h => absurd (of_decide_eq_false h) (by simp)⟩
    refine we_op (we_c rfl ?_)
    refine we_lcO1 (we_lcL (gw_name (by simp)) ?_)
    walk_at "s"
    refine ⟨by rw [List.length_map]; exact big_lt (by omega), fun _ => some (.bool true), ?_, ?_⟩
    · intro i d acc hd
      obtain ⟨n, _, rfl⟩ := List.mem_map.mp (List.mem_of_getElem? hd)
      walk_at "s"
      refine ⟨fun _ => ?_, fun h => (by cases h)⟩
      walk_at "s"
      refine ⟨by rfl, _, rfl, ⟨_, rfl⟩, ?_⟩
      exact ⟨_, _, rfl, take_snoc, rfl⟩
    rw [hfm]
    refine wr_nin rfl rfl hfl ?_
    rw [inD_false]
    exact hq
  · refine we_op (we_cb (wa_cons (we_var rfl (wa_nil (wc_lenT ?_)))))
    walk_at "s"
    refine ⟨fun _ => ?_, fun h => absurd (of_decide_eq_false h) (by simp)⟩
    refine we_op (we_c rfl ?_)
    refine we_lcO2 (we_lcT (gw_name (by simp)) ?_)
    walk_at "s"
    refine ⟨by rw [List.length_map]; exact big_lt (by omega), fun _ => some (.bool true), ?_, ?_⟩
    · intro i d acc hd
      obtain ⟨n, _, rfl⟩ := List.mem_map.mp (List.mem_of_getElem? hd)
      walk_at "s"
      refine ⟨fun _ => ?_, fun h => (by cases h)⟩
      walk_at "s"
      refine ⟨by rfl, _, rfl, ⟨_, rfl⟩, ?_⟩
      exact ⟨_, _, rfl, take_snoc, rfl⟩
    rw [hfm]
    refine wr_nin rfl rfl hfl ?_
    rw [inD_false]
    exact hq
/-! ### right_section -/
abbrev N_right_section : List Str := ["section"]
theorem sc_right_section : FnScope N_right_section ["section"] (defScope s_right_section) := ⟨rfl, rfl, rfl, by decide +kernel, rfl, by decide +kernel, by decide +kernel⟩
theorem ok_right_section (c_are_whole : Cal P w K mg base 2 "are_whole" ["row", "many"] (spP K T 2 pre_are_whole)) (dd : Df K mg "right_section" s_right_section) : Cal P w K mg base 3 "right_section" ["section"] (spP K T 1 pre_right_section) := by
  refine dd.cal (fun f fd F => F.ok sc_right_section (fun vs H Q E h => spP_len h) fun cdv A outer s H vs Q E hr h => ?_) (fun _ _ _ _ _ _ us hl => match us, hl with | [_], _ => rfl)
  have nd := sc_right_section.nd
  have hu := room_u hr
  refine ⟨_, (pss_cons (ps_if (pt_not (pt_val (pe_callC c_are_whole (hr.mono (by decide)) (by rfl) (pa_cons (pv 0) (pa_cons pe_int pa_nil))))) (pss_one (ps_ret pe_bl)) pss_nil) (pss_one (ps_ret (pe_and (pe_chain op_le op_le pe_int (pe_ix (ix_seqK (K := K) rfl) (pv 0) pe_int (fun _ _ => rfl)) (pe_ix (ix_seqK (K := K) rfl) (pv 0) pe_int (fun _ _ => rfl))) (pe_one (pe_chain op_le op_le pe_int (pe_ix (ix_seqK (K := K) rfl) (pv 0) pe_int (fun _ _ => rfl)) (pe_op op_sub (pe_ix (ix_seqK (K := K) rfl) (pv 0) pe_int (fun _ _ => rfl)) (pe_ix (ix_seqK (K := K) rfl) (pv 0) pe_int (fun _ _ => rfl))))))))), fn_run h ?_⟩
  intro xs st Φ hl hp
  clear hl h hu hr nd
  try dsimp only [L2.cxOf, NdefX.ncx]
  obtain ⟨D, a, b, c, rfl, hD, ⟨h1, h2, h3, h4⟩, q⟩ := hp
  have hq : Ct.Fin st Φ (.pd (.bool true)) st := fin_pd (by simp) q
  walk_at "f"
  refine ⟨by rfl, D, [a, b, c], rfl, hD, by simp, ?_⟩
  refine ⟨_, rfl, fun h => (by cases h), fun _ => ?_⟩
  refine ws_next ?_
  rcases hD with rfl | rfl
  · walk_at "s"
    refine ⟨fun _ => ?_, fun h => absurd (of_decide_eq_false h) (by omega)⟩
    walk_at "s"
    refine ⟨fun _ => ?_, fun h => absurd (of_decide_eq_false h) (by omega)⟩
    walk_at "s"
    refine ⟨fun _ => ?_, fun h => absurd (of_decide_eq_false h) (by omega)⟩
    walk_at "s"
    rw [decide_eq_true h4]
    exact hq
  · walk_at "s"
    refine ⟨fun _ => ?_, fun h => absurd (of_decide_eq_false h) (by omega)⟩
    walk_at "s"
    refine ⟨fun _ => ?_, fun h => absurd (of_decide_eq_false h) (by omega)⟩
    walk_at "s"
    refine ⟨fun _ => ?_, fun h => absurd (of_decide_eq_false h) (by omega)⟩
    walk_at "s"
    rw [decide_eq_true h4]
    exact hq
/-! ### check_lengths_bound -/
abbrev N_check_lengths_bound : List Str := ["rows", "row"]
theorem sc_check_lengths_bound : FnScope N_check_lengths_bound ["rows"] (defScope s_check_lengths_bound) := ⟨rfl, rfl, rfl, by decide +kernel, rfl, by decide +kernel, by decide +kernel⟩
theorem ok_check_lengths_bound (c_is_row : Cal P w K mg base 1 "is_row" ["value"] (spP K T 1 pre_is_row)) (c_check_numbers : Cal P w K mg base 3 "check_numbers" ["what", "numbers", "most"] (spP K T 3 pre_check_numbers)) (x_LENGTHS : ∃ t, mg "LENGTHS" = some (.int c_LENGTHS t)) (dd : Df K mg "check_lengths_bound" s_check_lengths_bound) : Cal P w K mg base 4 "check_lengths_bound" ["rows"] (spP K T 1 pre_check_lengths_bound) := by
  obtain ⟨_, h_LENGTHS⟩ := x_LENGTHS
  refine dd.cal (fun f fd F => F.ok sc_check_lengths_bound (fun vs H Q E h => spP_len h) fun cdv A outer s H vs Q E hr h => ?_) (fun _ _ _ _ _ _ us hl => match us, hl with | [_], _ => rfl)
  have nd := sc_check_lengths_bound.nd
  have hu := room_u hr
  refine ⟨_, (pss_one (ps_for PassesOwn.never rfl (pi_list (pv 0)) (pg_name (i := 1) nd rfl (.inl rfl)) (pss_one (ps_if (pt_val (pe_callC c_is_row (hr.mono (by decide)) (by rfl) (pa_cons (pv 1) pa_nil))) (pss_one (ps_expr (pe_callC c_check_numbers (hr.mono (by decide)) (by rfl) (pa_cons pe_str (pa_cons (pv 1) (pa_cons (pe_glob (v := .int c_LENGTHS) rfl h_LENGTHS ⟨_, rfl⟩) pa_nil)))))) pss_nil)))), fn_run h ?_⟩
  intro xs st Φ hl hp
  clear hl h hu hr nd
  try dsimp only [L2.cxOf, NdefX.ncx]
  obtain ⟨ss, rfl, hS, q⟩ := hp
  refine ws_forL (we_var rfl ?_)
  refine ⟨_, rfl, fun i ss' st' => st' = st ∧ ∃ y, ss' = [some (.pd (.list (ss.map secD))), y], ⟨rfl, _, rfl⟩, ?_, ?_⟩
  · rintro i d ss' st' hd ⟨rfl, y, rfl⟩
    obtain ⟨s, hs, rfl⟩ := List.mem_map.mp (List.mem_of_getElem? hd)
    obtain ⟨a, b, c⟩ := s
    obtain ⟨h1, h2, h3, h4, h5⟩ := hS _ hs
    dsimp only at h1 h2 h3 h4 h5
    walk_at "s"
    refine ⟨by rfl, _, [.int a, .int b, .int c], rfl, .inr rfl, ?_⟩
    refine ⟨_, rfl, fun _ => ?_, fun h => (by cases h)⟩
    walk_at "s"
    refine ⟨by rfl, _, [a, b, c], _, _, rfl, .inr rfl, ?_, ?_⟩
    · intro n hn
      simp at hn
      show n ≤ 10000
      omega
    exact ⟨rfl, _, rfl⟩
  · rintro ss' st' ⟨rfl, y, rfl⟩
    exact fin_pd (by simp) q
/-! ### checked_sections -/
abbrev N_checked_sections : List Str := ["sections", "made", "place", "section"]
theorem sc_checked_sections : FnScope N_checked_sections ["sections"] (defScope s_checked_sections) := ⟨rfl, rfl, rfl, by decide +kernel, rfl, by decide +kernel, by decide +kernel⟩
theorem ok_checked_sections (c_right_section : Cal P w K mg base 3 "right_section" ["section"] (spP K T 1 pre_right_section)) (Z : Zs mg) (dd : Df K mg "checked_sections" s_checked_sections) : Cal P w K mg base 4 "checked_sections" ["sections"] (spP K T 1 pre_checked_sections) := by
  refine dd.cal (fun f fd F => F.ok sc_checked_sections (fun vs H Q E h => spP_len h) fun cdv A outer s H vs Q E hr h => ?_) (fun _ _ _ _ _ _ us hl => match us, hl with | [_], _ => rfl)
  have nd := sc_checked_sections.nd
  have hu := room_u hr
  refine ⟨_, (pss_cons (ps_asg (pe_lst pa_nil) (pg_name (i := 1) nd rfl (.inl rfl))) (pss_cons (ps_for PassesOwn.never rfl (pi_enum (by rfl) Z.enumerate (pa_cons (pv 0) pa_nil)) (pg_tup (n := 2) rfl (pgs_cons (pg_name (i := 2) nd rfl (.inl rfl)) (pgs_cons (pg_name (i := 3) nd rfl (.inl rfl)) pgs_nil))) (pss_cons (ps_if (pt_not (pt_val (pe_callC c_right_section (hr.mono (by decide)) (by rfl) (pa_cons (pv 3) pa_nil)))) (pss_one ps_never) pss_nil) (pss_one (ps_expr (pe_bm PySem.F.plainAttrs_list PySem.F.slot_list_append PySem.F.type_list_append mt_append (pv 1) (pa_cons (pe_callTy (call_tupleK (K := K) rfl) (by rfl) Z.tuple_ boot_tuple (pa_cons (pv 3) pa_nil)) pa_nil)))))) (pss_one (ps_ret (pv 1))))), fn_run h ?_⟩
  intro xs st Φ hl hp
  clear hl h hu hr nd
  try dsimp only [L2.cxOf, NdefX.ncx]
  obtain ⟨ss, rfl, hS, hl, q⟩ := hp
  walk_at "c"
  refine ws_seq (ws_forE (wa_cons (we_var rfl (wa_nil ⟨_, rfl, fun i ss' st' => st' = st ++ [.mu ((ss.take i).map secD)] ∧ ∃ y2 y3 : Option Val, ss' = [vL (ss.map secD), vC st.length, y2, y3], ⟨rfl, _, _, rfl⟩, ?_, ?_⟩))))
  · rintro i d ss' st' hd ⟨rfl, y2, y3, rfl⟩
    have hi := (List.getElem?_eq_some_iff.mp hd).1
    rw [List.length_map] at hi
    have hdd := (List.getElem?_eq_some_iff.mp hd).2
    rw [List.getElem_map] at hdd
    have hs := hS _ (List.getElem_mem hi)
    have hnext : (ss.take (i + 1)).map secD = (ss.take i).map secD ++ [secD ss[i]] := by rw [List.take_succ_eq_append_getElem hi, List.map_append]; rfl
    have hti : (ss.take i).length ≤ i := by rw [List.length_take]; omega
    generalize ss[i] = s at hs hdd hnext ⊢
    subst hdd
    obtain ⟨a, b, c⟩ := s
    obtain ⟨h1, h2, h3, h4, h5⟩ := hs
    dsimp only at h1 h2 h3 h4 h5
    walk_at "s"
    walk_at "f"
    refine ⟨by rfl, _, a, b, c, rfl, .inr rfl, ⟨h1, h2, h3, h4⟩, ?_⟩
    refine ⟨_, rfl, fun h => (by cases h), fun _ => ?_⟩
    refine ws_next ?_
    walk_at "s"
    refine wc_tupT ?_
    exact ⟨_, _, rfl, rfl, by rw [hnext], _, _, rfl⟩
  · rintro ss' st' ⟨rfl, y2, y3, rfl⟩
    rw [List.length_map, List.take_length]
    walk_at "s"
    exact fin_end q
/-! ### checked_tells -/
abbrev N_checked_tells : List Str := ["tells", "many", "made", "place", "tell"]
theorem sc_checked_tells : FnScope N_checked_tells ["tells", "many"] (defScope s_checked_tells) := ⟨rfl, rfl, rfl, by decide +kernel, rfl, by decide +kernel, by decide +kernel⟩
theorem ok_checked_tells (c_are_whole : Cal P w K mg base 2 "are_whole" ["row", "many"] (spP K T 2 pre_are_whole)) (Z : Zs mg) (dd : Df K mg "checked_tells" s_checked_tells) : Cal P w K mg base 3 "checked_tells" ["tells", "many"] (spP K T 2 pre_checked_tells) := by
  refine dd.cal (fun f fd F => F.ok sc_checked_tells (fun vs H Q E h => spP_len h) fun cdv A outer s H vs Q E hr h => ?_) (fun _ _ _ _ _ _ us hl => match us, hl with | [_, _], _ => rfl)
  have nd := sc_checked_tells.nd
  have hu := room_u hr
  refine ⟨_, (pss_cons (ps_asg (pe_lst pa_nil) (pg_name (i := 2) nd rfl (.inl rfl))) (pss_cons (ps_for PassesOwn.never rfl (pi_enum (by rfl) Z.enumerate (pa_cons (pv 0) pa_nil)) (pg_tup (n := 2) rfl (pgs_cons (pg_name (i := 3) nd rfl (.inl rfl)) (pgs_cons (pg_name (i := 4) nd rfl (.inl rfl)) pgs_nil))) (pss_cons (ps_if (PW.pt (pw_or (pt_not (pt_val (pe_callC c_are_whole (hr.mono (by decide)) (by rfl) (pa_cons (pv 4) (pa_cons pe_int pa_nil))))) (pw_or (pt_not (pt_chain3 op_le op_lt op_le pe_int (pe_ix (ix_seqK (K := K) rfl) (pv 4) pe_int (fun _ _ => rfl)) (pe_ix (ix_seqK (K := K) rfl) (pv 4) pe_int (fun _ _ => rfl)) (pv 1))) (pw_or1 (pt_cmpR (op_inDK (K := K) rfl (room_u65 hr)) (pe_callTy (call_tupleK (K := K) rfl) (by rfl) Z.tuple_ boot_tuple (pa_cons (pv 4) pa_nil)) (pv 2) (by rfl)))))) (pss_one ps_never) pss_nil) (pss_one (ps_expr (pe_bm PySem.F.plainAttrs_list PySem.F.slot_list_append PySem.F.type_list_append mt_append (pv 2) (pa_cons (pe_callTy (call_tupleK (K := K) rfl) (by rfl) Z.tuple_ boot_tuple (pa_cons (pv 4) pa_nil)) pa_nil)))))) (pss_one (ps_ret (pe_callB (cr_sortedK (K := K) rfl rfl) (by rfl) Z.sorted boot_sorted (pa_cons (pv 2) pa_nil)))))), fn_run h ?_⟩
  intro xs st Φ hl hp
  clear hl h hu hr nd
  try dsimp only [L2.cxOf, NdefX.ncx]
  obtain ⟨ts, many, rfl, ⟨hT, hP⟩, hl, q⟩ := hp
  walk_at "c"
  refine ws_seq (ws_forE (wa_cons (we_var rfl (wa_nil ⟨_, rfl, fun i ss' st' => st' = st ++ [.mu ((ts.take i).map pairT)] ∧ ∃ y3 y4 : Option Val, ss' = [vL (ts.map pairT), vI many, vC st.length, y3, y4], ⟨rfl, _, _, rfl⟩, ?_, ?_⟩))))
  · rintro i d ss' st' hd ⟨rfl, y3, y4, rfl⟩
    have hi := (List.getElem?_eq_some_iff.mp hd).1
    rw [List.length_map] at hi
    have hdd := (List.getElem?_eq_some_iff.mp hd).2
    rw [List.getElem_map] at hdd
    have hs := hT _ (List.getElem_mem hi)
    have hnext : (ts.take (i + 1)).map pairT = (ts.take i).map pairT ++ [pairT ts[i]] := by rw [List.take_succ_eq_append_getElem hi, List.map_append]; rfl
    have hno : ¬ ts[i] ∈ ts.take i := fun hm => by
      obtain ⟨j, hj, e⟩ := List.mem_iff_getElem.mp hm
      rw [List.length_take] at hj
      have := (List.pairwise_iff_getElem.mp hP) j i (by omega) hi (by omega)
      rw [List.getElem_take] at e
      rw [e] at this
      omega
    have hti : (ts.take i).length ≤ i := by rw [List.length_take]; omega
    generalize ts[i] = s at hs hdd hno hnext ⊢
    subst hdd
    obtain ⟨a, b⟩ := s
    obtain ⟨h1, h2, h3⟩ := hs
    dsimp only at h1 h2 h3
    walk_at "s"
    walk_at "f"
    refine ⟨by rfl, _, [a, b], rfl, .inr rfl, by simp, ?_⟩
    refine ⟨_, rfl, fun h => (by cases h), fun _ => ?_⟩
    walk_at "s"
    refine we_chain3 ?_
    walk_at "s"
    refine ⟨fun _ => ?_, fun h => absurd (of_decide_eq_false h) (by omega)⟩
    walk_at "s"
    refine ⟨fun _ => ?_, fun h => absurd (of_decide_eq_false h) (by omega)⟩
    walk_at "s"
    refine ⟨fun h => absurd h (by simp; omega), fun _ => ?_⟩
    walk_at "s"
    refine wc_tupT ?_
    walk_at "s"
    refine wr_inD rfl look_end (sh_pair (k := 0) (a, b)).shaped (sh_pairs (k := 0) _).shaped ?_
    rw [any_pair, decide_eq_false hno]
    walk_at "s"
    refine ⟨fun h => (by cases h), fun _ => ?_⟩
    refine ws_next ?_
    walk_at "s"
    refine wc_tupT ?_
    exact ⟨_, _, rfl, rfl, by rw [hnext], _, _, rfl⟩
  · rintro ss' st' ⟨rfl, y3, y4, rfl⟩
    rw [List.length_map, List.take_length]
    refine ws_ret (we_cb (wa_cons (we_var rfl (wa_nil (wc_sortP look_end fun qs hp hs => ?_)))))
    rw [srt_eq hp hs hP]
    exact fin_end q
/-! ### is_pages -/
abbrev N_is_pages : List Str := ["ruler"]
theorem sc_is_pages : FnScope N_is_pages ["ruler"] (defScope s_is_pages) := ⟨rfl, rfl, rfl, by decide +kernel, rfl, by decide +kernel, by decide +kernel⟩
theorem ok_is_pages (c_is_row : Cal P w K mg base 1 "is_row" ["value"] (spP K T 1 pre_is_row)) (Z : Zs mg) (dd : Df K mg "is_pages" s_is_pages) : Cal P w K mg base 2 "is_pages" ["ruler"] (spP K T 1 pre_is_pages) := by
  refine dd.cal (fun f fd F => F.ok sc_is_pages (fun vs H Q E h => spP_len h) fun cdv A outer s H vs Q E hr h => ?_) (fun _ _ _ _ _ _ us hl => match us, hl with | [_], _ => rfl)
  have nd := sc_is_pages.nd
  have hu := room_u hr
  refine ⟨_, (pss_one (ps_ret (pe_and (pe_callC c_is_row (hr.mono (by decide)) (by rfl) (pa_cons (pv 0) pa_nil)) (pe_and (pe_cmpR (op_eqK (K := K) rfl hu) (pe_callB (call_lenK (K := K) rfl) (by rfl) Z.len PySem.boot_len (pa_cons (pv 0) pa_nil)) pe_int (nomark _)) (pe_one (pe_cmpR (op_eqK (K := K) rfl hu) (pe_ix (ix_seqK (K := K) rfl) (pv 0) pe_int (fun _ _ => rfl)) pe_str (nomark _))))))), fn_run h ?_⟩
  intro xs st Φ hl hp
  clear hl h hu hr nd
  try dsimp only [L2.cxOf, NdefX.ncx]
  obtain ⟨H, rfl, q⟩ := hp
  refine ws_ret (we_andV ?_)
  walk_at "s"
  refine ⟨by rfl, _, _, rfl, .inr rfl, ?_⟩
  refine ⟨_, rfl, fun _ => ?_, fun h => (by cases h)⟩
  refine we_andV (we_op (we_cb (wa_cons (we_var rfl (wa_nil (wc_lenT ?_))))))
  walk_at "s"
  refine ⟨fun _ => ?_, fun h => absurd (of_decide_eq_false h) (by simp)⟩
  walk_at "s"
  exact fin_pd (by simp) q
/-! ### Plan_start -/
abbrev N_Plan_start : List Str := ["self"]
theorem sc_Plan_start : FnScope N_Plan_start ["self"] (defScope s_Plan_start) := ⟨rfl, rfl, rfl, by decide +kernel, rfl, by decide +kernel, by decide +kernel⟩
theorem ok_Plan_start (h_Plan : Cls K C_Plan) (na_Plan : ∀ f ∈ fl_Plan, NoAttr K C_Plan f) (dd : Dm K C_Plan "start" "Plan.start" s_Plan_start) : CalM P w K mg base 1 C_Plan "start" ["self"] (spP K T 1 (pre_Plan_start K C_Plan)) := by
  refine dd.cal (fun f fd F => F.ok sc_Plan_start (fun vs H Q E h => spP_len h) fun cdv A outer s H vs Q E hr h => ?_) (fun _ _ _ _ _ _ us hl => match us, hl with | [_], _ => rfl)
  have nd := sc_Plan_start.nd
  have hu := room_u hr
  refine ⟨_, (pss_one (ps_ret (pe_fld (pv 0) rfl))), fn_run h ?_⟩
  intro xs st Φ hl hp
  clear hl h hu hr nd
  try dsimp only [L2.cxOf, NdefX.ncx]
  obtain ⟨p, rfl, q⟩ := hp
  refine ws_ret (we_fld (we_var rfl ⟨_, _, _, .ob, h_Plan, na_Plan _ (by decide), rfl, ?_⟩))
  exact fin_pd (by simp) q
/-! ### Plan_range_cells -/
abbrev N_Plan_range_cells : List Str := ["self"]
theorem sc_Plan_range_cells : FnScope N_Plan_range_cells ["self"] (defScope s_Plan_range_cells) := ⟨rfl, rfl, rfl, by decide +kernel, rfl, by decide +kernel, by decide +kernel⟩
theorem ok_Plan_range_cells (h_Plan : Cls K C_Plan) (na_Plan : ∀ f ∈ fl_Plan, NoAttr K C_Plan f) (dd : Dm K C_Plan "range_cells" "Plan.range_cells" s_Plan_range_cells) : CalM P w K mg base 1 C_Plan "range_cells" ["self"] (spP K T 1 (pre_Plan_range_cells K C_Plan)) := by
  refine dd.cal (fun f fd F => F.ok sc_Plan_range_cells (fun vs H Q E h => spP_len h) fun cdv A outer s H vs Q E hr h => ?_) (fun _ _ _ _ _ _ us hl => match us, hl with | [_], _ => rfl)
  have nd := sc_Plan_range_cells.nd
  have hu := room_u hr
  refine ⟨_, (pss_one (ps_ret (pe_fld (pv 0) rfl))), fn_run h ?_⟩
  intro xs st Φ hl hp
  clear hl h hu hr nd
  try dsimp only [L2.cxOf, NdefX.ncx]
  obtain ⟨p, rfl, q⟩ := hp
  refine ws_ret (we_fld (we_var rfl ⟨_, _, _, .ob, h_Plan, na_Plan _ (by decide), rfl, ?_⟩))
  exact fin_pd (by simp) q
/-! ### Plan_sections -/
abbrev N_Plan_sections : List Str := ["self"]
theorem sc_Plan_sections : FnScope N_Plan_sections ["self"] (defScope s_Plan_sections) := ⟨rfl, rfl, rfl, by decide +kernel, rfl, by decide +kernel, by decide +kernel⟩
theorem ok_Plan_sections (Z : Zs mg) (h_Plan : Cls K C_Plan) (na_Plan : ∀ f ∈ fl_Plan, NoAttr K C_Plan f) (dd : Dm K C_Plan "sections" "Plan.sections" s_Plan_sections) : CalM P w K mg base 1 C_Plan "sections" ["self"] (spP K T 1 (pre_Plan_sections K C_Plan)) := by
  refine dd.cal (fun f fd F => F.ok sc_Plan_sections (fun vs H Q E h => spP_len h) fun cdv A outer s H vs Q E hr h => ?_) (fun _ _ _ _ _ _ us hl => match us, hl with | [_], _ => rfl)
  have nd := sc_Plan_sections.nd
  have hu := room_u hr
  refine ⟨_, (pss_one (ps_ret (pe_callTy (call_listK (K := K) rfl) (by rfl) Z.list_ boot_list (pa_cons (pe_fld (pv 0) rfl) pa_nil)))), fn_run h ?_⟩
  intro xs st Φ hl hp
  clear hl h hu hr nd
  try dsimp only [L2.cxOf, NdefX.ncx]
  obtain ⟨p, rfl, q⟩ := hp
  refine ws_ret (we_pur (we_cb (wa_cons (we_fld (we_var rfl ⟨_, _, _, .ob, h_Plan, na_Plan _ (by decide), rfl, wa_nil (wc_listC rfl ?_)⟩)))))
  exact ⟨_, _, pur_end, fin_end q⟩
/-! ### Plan_tells -/
abbrev N_Plan_tells : List Str := ["self"]
theorem sc_Plan_tells : FnScope N_Plan_tells ["self"] (defScope s_Plan_tells) := ⟨rfl, rfl, rfl, by decide +kernel, rfl, by decide +kernel, by decide +kernel⟩
theorem ok_Plan_tells (Z : Zs mg) (h_Plan : Cls K C_Plan) (na_Plan : ∀ f ∈ fl_Plan, NoAttr K C_Plan f) (dd : Dm K C_Plan "tells" "Plan.tells" s_Plan_tells) : CalM P w K mg base 1 C_Plan "tells" ["self"] (spP K T 1 (pre_Plan_tells K C_Plan)) := by
  refine dd.cal (fun f fd F => F.ok sc_Plan_tells (fun vs H Q E h => spP_len h) fun cdv A outer s H vs Q E hr h => ?_) (fun _ _ _ _ _ _ us hl => match us, hl with | [_], _ => rfl)
  have nd := sc_Plan_tells.nd
  have hu := room_u hr
  refine ⟨_, (pss_one (ps_ret (pe_callTy (call_listK (K := K) rfl) (by rfl) Z.list_ boot_list (pa_cons (pe_fld (pv 0) rfl) pa_nil)))), fn_run h ?_⟩
  intro xs st Φ hl hp
  clear hl h hu hr nd
  try dsimp only [L2.cxOf, NdefX.ncx]
  obtain ⟨p, rfl, q⟩ := hp
  refine ws_ret (we_pur (we_cb (wa_cons (we_fld (we_var rfl ⟨_, _, _, .ob, h_Plan, na_Plan _ (by decide), rfl, wa_nil (wc_listC rfl ?_)⟩)))))
  exact ⟨_, _, pur_end, fin_end q⟩
/-! ### Plan_many -/
abbrev N_Plan_many : List Str := ["self"]
theorem sc_Plan_many : FnScope N_Plan_many ["self"] (defScope s_Plan_many) := ⟨rfl, rfl, rfl, by decide +kernel, rfl, by decide +kernel, by decide +kernel⟩
theorem ok_Plan_many (Z : Zs mg) (h_Plan : Cls K C_Plan) (na_Plan : ∀ f ∈ fl_Plan, NoAttr K C_Plan f) (dd : Dm K C_Plan "many" "Plan.many" s_Plan_many) : CalM P w K mg base 1 C_Plan "many" ["self"] (spP K T 1 (pre_Plan_many K C_Plan)) := by
  refine dd.cal (fun f fd F => F.ok sc_Plan_many (fun vs H Q E h => spP_len h) fun cdv A outer s H vs Q E hr h => ?_) (fun _ _ _ _ _ _ us hl => match us, hl with | [_], _ => rfl)
  have nd := sc_Plan_many.nd
  have hu := room_u hr
  refine ⟨_, (pss_one (ps_ret (pe_callB (call_lenK (K := K) rfl) (by rfl) Z.len PySem.boot_len (pa_cons (pe_fld (pv 0) rfl) pa_nil)))), fn_run h ?_⟩
  intro xs st Φ hl hp
  clear hl h hu hr nd
  try dsimp only [L2.cxOf, NdefX.ncx]
  obtain ⟨p, rfl, q⟩ := hp
  refine ws_ret (we_cb (wa_cons (we_fld (we_var rfl ⟨_, _, _, .ob, h_Plan, na_Plan _ (by decide), rfl, wa_nil (wc_len rfl ?_)⟩))))
  rw [List.length_map]
  exact fin_pd (by simp) q
/-! ### Plan_section -/
abbrev N_Plan_section : List Str := ["self", "k"]
theorem sc_Plan_section : FnScope N_Plan_section ["self", "k"] (defScope s_Plan_section) := ⟨rfl, rfl, rfl, by decide +kernel, rfl, by decide +kernel, by decide +kernel⟩
theorem ok_Plan_section (Z : Zs mg) (h_Plan : Cls K C_Plan) (na_Plan : ∀ f ∈ fl_Plan, NoAttr K C_Plan f) (dd : Dm K C_Plan "section" "Plan.section" s_Plan_section) : CalM P w K mg base 1 C_Plan "section" ["self", "k"] (spP K T 2 (pre_Plan_section K C_Plan)) := by
  refine dd.cal (fun f fd F => F.ok sc_Plan_section (fun vs H Q E h => spP_len h) fun cdv A outer s H vs Q E hr h => ?_) (fun _ _ _ _ _ _ us hl => match us, hl with | [_, _], _ => rfl)
  have nd := sc_Plan_section.nd
  have hu := room_u hr
  refine ⟨_, (pss_cons (ps_if (pt_not (pt_chain op_le op_le pe_int (pv 1) (pe_callB (call_lenK (K := K) rfl) (by rfl) Z.len PySem.boot_len (pa_cons (pe_fld (pv 0) rfl) pa_nil)))) (pss_one ps_never) pss_nil) (pss_one (ps_ret (pe_ix (ix_seqK (K := K) rfl) (pe_fld (pv 0) rfl) (pe_op op_sub (pv 1) pe_int) (fun _ _ => rfl))))), fn_run h ?_⟩
  intro xs st Φ hl hp
  clear hl h hu hr nd
  try dsimp only [L2.cxOf, NdefX.ncx]
  obtain ⟨p, i, s, rfl, hs, q⟩ := hp
  have hi := (List.getElem?_eq_some_iff.mp hs).1
  walk_at "f"
  refine ⟨fun _ => ?_, fun h => absurd (of_decide_eq_false h) (by omega)⟩
  walk_at "s"
  refine we_fld (we_var rfl ⟨_, _, _, .ob, h_Plan, na_Plan _ (by decide), rfl, ?_⟩)
  walk_at "s"
  rw [List.length_map]
  refine ⟨fun h => absurd h (by simp; omega), fun _ => ?_⟩
  refine ws_next ?_
  refine ws_ret (we_op (we_fld (we_var rfl ⟨_, _, _, .ob, h_Plan, na_Plan _ (by decide), rfl, ?_⟩)))
  walk_at "s"
  refine wr_ixuL rfl (d := secD s) ?_ (fin_pd (by simp) q)
  rw [show (1 + (i : Int)) - 1 = ((i : Nat) : Int) by omega]
  exact atI_nat (by rw [List.getElem?_map, hs]; rfl)
/-! ### Plan_check_mark -/
abbrev N_Plan_check_mark : List Str := ["self", "mark"]
theorem sc_Plan_check_mark : FnScope N_Plan_check_mark ["self", "mark"] (defScope s_Plan_check_mark) := ⟨rfl, rfl, rfl, by decide +kernel, rfl, by decide +kernel, by decide +kernel⟩
theorem ok_Plan_check_mark (Z : Zs mg) (h_Plan : Cls K C_Plan) (na_Plan : ∀ f ∈ fl_Plan, NoAttr K C_Plan f) (dd : Dm K C_Plan "check_mark" "Plan.check_mark" s_Plan_check_mark) : CalM P w K mg base 1 C_Plan "check_mark" ["self", "mark"] (spP K T 2 (pre_Plan_check_mark K C_Plan)) := by
  refine dd.cal (fun f fd F => F.ok sc_Plan_check_mark (fun vs H Q E h => spP_len h) fun cdv A outer s H vs Q E hr h => ?_) (fun _ _ _ _ _ _ us hl => match us, hl with | [_, _], _ => rfl)
  have nd := sc_Plan_check_mark.nd
  have hu := room_u hr
  refine ⟨_, (pss_one (ps_if (pt_not (pt_chain op_le op_le pe_int (pv 1) (pe_callB (call_lenK (K := K) rfl) (by rfl) Z.len PySem.boot_len (pa_cons (pe_fld (pv 0) rfl) pa_nil)))) (pss_one ps_never) pss_nil)), fn_run h ?_⟩
  intro xs st Φ hl hp
  clear hl h hu hr nd
  try dsimp only [L2.cxOf, NdefX.ncx]
  obtain ⟨p, m, rfl, ⟨h1, h2⟩, q⟩ := hp
  walk_at "s"
  refine ⟨fun _ => ?_, fun h => absurd (of_decide_eq_false h) (by omega)⟩
  walk_at "s"
  refine we_fld (we_var rfl ⟨_, _, _, .ob, h_Plan, na_Plan _ (by decide), rfl, ?_⟩)
  walk_at "s"
  rw [List.length_map]
  refine ⟨fun h => absurd h (by simp; omega), fun _ => ?_⟩
  walk_at "s"
  exact fin_pd (by simp) q
/-! ### Plan_cell -/
abbrev N_Plan_cell : List Str := ["self", "line"]
theorem sc_Plan_cell : FnScope N_Plan_cell ["self", "line"] (defScope s_Plan_cell) := ⟨rfl, rfl, rfl, by decide +kernel, rfl, by decide +kernel, by decide +kernel⟩
theorem ok_Plan_cell (h_Plan : Cls K C_Plan) (na_Plan : ∀ f ∈ fl_Plan, NoAttr K C_Plan f) (dd : Dm K C_Plan "cell" "Plan.cell" s_Plan_cell) : CalM P w K mg base 1 C_Plan "cell" ["self", "line"] (spP K T 2 (pre_Plan_cell K C_Plan)) := by
  refine dd.cal (fun f fd F => F.ok sc_Plan_cell (fun vs H Q E h => spP_len h) fun cdv A outer s H vs Q E hr h => ?_) (fun _ _ _ _ _ _ us hl => match us, hl with | [_, _], _ => rfl)
  have nd := sc_Plan_cell.nd
  have hu := room_u hr
  refine ⟨_, (pss_cons (ps_if (pt_cmpR op_lt (pv 1) pe_int (nomark _)) (pss_one ps_never) pss_nil) (pss_one (ps_ret (pe_ifExp (pt_cmpR op_isN (pe_fld (pv 0) rfl) pe_non (nomark _)) (pe_op (op_addK (K := K) rfl) (pe_op op_fdiv (pv 1) (pe_fld (pv 0) rfl)) pe_int) pe_dead)))), fn_run h ?_⟩
  intro xs st Φ hl hp
  clear hl h hu hr nd
  try dsimp only [L2.cxOf, NdefX.ncx]
  obtain ⟨p, l, rfl, h1, h2, h3, q⟩ := hp
  walk_at "f"
  refine ⟨fun h => absurd (of_decide_eq_true h) (by omega), fun _ => ?_⟩
  refine ws_next ?_
  refine ws_ret (we_if ?_)
  walk_at "s"
  refine we_fld (we_var rfl ⟨_, _, _, .ob, h_Plan, na_Plan _ (by decide), rfl, ?_⟩)
  walk_at "s"
  refine ⟨fun _ => ?_, fun h => (by cases h)⟩
  walk_at "s"
  refine we_fld (we_var rfl ⟨_, _, _, .ob, h_Plan, na_Plan _ (by decide), rfl, ?_⟩)
  walk_at "s"
  exact fin_pd (by simp) q
/-! ### Plan_has_cell -/
abbrev N_Plan_has_cell : List Str := ["self", "cell"]
theorem sc_Plan_has_cell : FnScope N_Plan_has_cell ["self", "cell"] (defScope s_Plan_has_cell) := ⟨rfl, rfl, rfl, by decide +kernel, rfl, by decide +kernel, by decide +kernel⟩
theorem ok_Plan_has_cell (h_Plan : Cls K C_Plan) (na_Plan : ∀ f ∈ fl_Plan, NoAttr K C_Plan f) (dd : Dm K C_Plan "has_cell" "Plan.has_cell" s_Plan_has_cell) : CalM P w K mg base 1 C_Plan "has_cell" ["self", "cell"] (spP K T 2 (pre_Plan_has_cell K C_Plan)) := by
  refine dd.cal (fun f fd F => F.ok sc_Plan_has_cell (fun vs H Q E h => spP_len h) fun cdv A outer s H vs Q E hr h => ?_) (fun _ _ _ _ _ _ us hl => match us, hl with | [_, _], _ => rfl)
  have nd := sc_Plan_has_cell.nd
  have hu := room_u hr
  refine ⟨_, (pss_one (ps_ret (pe_and (pe_cmpR op_ge (pv 1) pe_int (nomark _)) (pe_one (pe_or (pe_cmpR op_isN (pe_fld (pv 0) rfl) pe_non (nomark _)) (pe_one (pe_cmpR op_le (pv 1) pe_dead (nomark _)))))))), fn_run h ?_⟩
  intro xs st Φ hl hp
  clear hl h hu hr nd
  try dsimp only [L2.cxOf, NdefX.ncx]
  obtain ⟨p, l, rfl, q⟩ := hp
  walk_at "s"
  refine ⟨fun h => ?_, fun h => ?_⟩
  · walk_at "s"
    refine we_fld (we_var rfl ⟨_, _, _, .ob, h_Plan, na_Plan _ (by decide), rfl, ?_⟩)
    walk_at "s"
    refine ⟨fun _ => ?_, fun h => (by cases h)⟩
    rw [decide_eq_true (show 1 ≤ l from of_decide_eq_true h)] at q
    exact fin_pd (by simp) q
  · rw [show decide (1 ≤ l) = false from h] at q
    exact fin_pd (by simp) q
/-! ### Plan_first_tell -/
abbrev N_Plan_first_tell : List Str := ["self", "mark", "i", "j"]
theorem sc_Plan_first_tell : FnScope N_Plan_first_tell ["self", "mark"] (defScope s_Plan_first_tell) := ⟨rfl, rfl, rfl, by decide +kernel, rfl, by decide +kernel, by decide +kernel⟩
theorem ok_Plan_first_tell (h_Plan : Cls K C_Plan) (na_Plan : ∀ f ∈ fl_Plan, NoAttr K C_Plan f) (dd : Dm K C_Plan "first_tell" "Plan.first_tell" s_Plan_first_tell) : CalM P w K mg base 1 C_Plan "first_tell" ["self", "mark"] (spP K T 2 (pre_Plan_first_tell K C_Plan)) := by
  refine dd.cal (fun f fd F => F.ok sc_Plan_first_tell (fun vs H Q E h => spP_len h) fun cdv A outer s H vs Q E hr h => ?_) (fun _ _ _ _ _ _ us hl => match us, hl with | [_, _], _ => rfl)
  have nd := sc_Plan_first_tell.nd
  have hu := room_u hr
  refine ⟨_, (pss_cons (ps_for PassesOwn.never rfl (pi_list (pe_fld (pv 0) rfl)) (pg_tup (n := 2) rfl (pgs_cons (pg_name (i := 2) nd rfl (.inl rfl)) (pgs_cons (pg_name (i := 3) nd rfl (.inl rfl)) pgs_nil))) (pss_one (ps_if (pt_cmpR (op_eqK (K := K) rfl hu) (pv 3) (pv 1) (nomark _)) (pss_one (ps_ret (pv 2))) pss_nil))) (pss_one (ps_ret pe_non))), fn_run h ?_⟩
  intro xs st Φ hl hp
  clear hl h hu hr nd
  try dsimp only [L2.cxOf, NdefX.ncx]
  obtain ⟨p, m, rfl, q⟩ := hp
  refine ws_seq (ws_forL (we_fld (we_var rfl ⟨_, _, _, .ob, h_Plan, na_Plan _ (by decide), rfl, ?_⟩)))
  refine ⟨_, rfl, fun i ss' st' => st' = st ∧ firstTell p.ts m = firstTell (p.ts.drop i) m ∧ ∃ y2 y3 : Option Val, ss' = [some (planO K C_Plan p), vI m, y2, y3], ⟨rfl, rfl, _, _, rfl⟩, ?_, ?_⟩
  · rintro i d ss' st' hd ⟨rfl, hf, y2, y3, rfl⟩
    obtain ⟨t, ht, rfl⟩ : ∃ t, p.ts[i]? = some t ∧ d = pairT t := by
      rw [List.getElem?_map] at hd
      cases e : p.ts[i]? with
      | none => rw [e] at hd; cases hd
      | some t => rw [e] at hd; exact ⟨t, rfl, (Option.some.inj hd).symm⟩
    obtain ⟨hi, e⟩ := List.getElem?_eq_some_iff.mp ht
    rw [List.drop_eq_getElem_cons hi, e] at hf
    unfold firstTell at hf
    rw [List.find?_cons] at hf
    obtain ⟨a, b⟩ := t
    walk_at "s"
    refine ⟨fun h => ?_, fun h => ?_⟩
    · have hf : firstTell p.ts m = some a := by
        unfold firstTell
        rw [hf]
        simp only [h]
        rfl
      rw [hf] at q
      walk_at "s"
      exact fin_pd (by simp) q
    · walk_at "s"
      refine ⟨rfl, ?_, _, _, rfl⟩
      unfold firstTell
      rw [hf]
      simp only [h]
  · rintro ss' st' ⟨rfl, hf, y2, y3, rfl⟩
    rw [List.length_map, List.drop_length] at hf
    rw [hf] at q
    walk_at "s"
    exact fin_pd (by simp) q
/-! ### Plan_told_marks -/
abbrev N_Plan_told_marks : List Str := ["self", "t", "j"]
theorem sc_Plan_told_marks : FnScope N_Plan_told_marks ["self", "t"] (defScope s_Plan_told_marks) := ⟨rfl, rfl, rfl, by decide +kernel, rfl, by decide +kernel, by decide +kernel⟩
theorem ok_Plan_told_marks (c_Plan_first_tell : CalM P w K mg base 1 C_Plan "first_tell" ["self", "mark"] (spP K T 2 (pre_Plan_first_tell K C_Plan))) (c_Plan_many : CalM P w K mg base 1 C_Plan "many" ["self"] (spP K T 1 (pre_Plan_many K C_Plan))) (c_Plan_check_mark : CalM P w K mg base 1 C_Plan "check_mark" ["self", "mark"] (spP K T 2 (pre_Plan_check_mark K C_Plan))) (Z : Zs mg) (h_Plan : Cls K C_Plan) (na_Plan : ∀ f ∈ fl_Plan, NoAttr K C_Plan f) (dd : Dm K C_Plan "told_marks" "Plan.told_marks" s_Plan_told_marks) : CalM P w K mg base 2 C_Plan "told_marks" ["self", "t"] (spP K T 2 (pre_Plan_told_marks K C_Plan)) := by
  refine dd.cal (fun f fd F => F.ok sc_Plan_told_marks (fun vs H Q E h => spP_len h) fun cdv A outer s H vs Q E hr h => ?_) (fun _ _ _ _ _ _ us hl => match us, hl with | [_, _], _ => rfl)
  have nd := sc_Plan_told_marks.nd
  have hu := room_u hr
  refine ⟨_, (pss_cons (ps_expr (pe_methC c_Plan_check_mark h_Plan (hr.mono (by decide)) (pv 0) (pa_cons (pv 1) pa_nil))) (pss_one (ps_ret (pe_lc (own := [("j", 2)]) (g := gName 2) (tt := _) rfl nd (pi_range2 rfl Z.range_ (pa_cons (pe_op (op_addK (K := K) rfl) (pv 1) pe_int) (pa_cons (pe_op (op_addK (K := K) rfl) (pe_methC0 c_Plan_many h_Plan (hr.mono (by decide)) (pv 0)) pe_int) pa_nil))) (blkOk_by (N := N_Plan_told_marks) (sc := defScope s_Plan_told_marks) (by decide +kernel)) (fun _ _ _ _ _ => (pg_name (i := 2) nd rfl (.inl rfl))) (fun _ _ _ _ _ => (pts_one (pt_cmpR (op_eqK (K := K) rfl hu) (pe_methC c_Plan_first_tell h_Plan (hr.mono (by decide)) (pv 0) (pa_cons (pv 2) pa_nil)) (pv 1) (nomark _)))) (fun _ _ _ _ _ => (pv 2)))))), fn_run h ?_⟩
  intro xs st Φ hl hp
  clear hl h hu hr nd
  try dsimp only [L2.cxOf, NdefX.ncx]
  obtain ⟨p, t, rfl, ⟨h1, h2⟩, hT, hl, q⟩ := hp
  refine ws_seq (ws_drop (we_meth (we_var rfl ⟨_, .ob, rfl, ?_⟩)))
  walk_at "s"
  refine ⟨by rfl, p, t, rfl, ⟨h1, h2⟩, ?_⟩
  refine ws_ret (we_lcR2 (gw_name (by simp)) ?_)
  walk_at "s"
  refine we_meth (we_var rfl ⟨_, .ob, rfl, ?_⟩)
  walk_at "s"
  refine ⟨by rfl, p, rfl, ?_⟩
  walk_at "s"
  refine ⟨_, _, rfl, by omega, big_lt (by omega), fun i => if decide (firstTell p.ts (t + 1 + (i : Int)) = some t) = true then some (.int (t + 1 + (i : Int))) else none, ?_, ?_⟩
  · intro i acc hi
    walk_at "s"
    refine we_meth (we_var rfl ⟨_, .ob, rfl, ?_⟩)
    walk_at "s"
    refine ⟨by rfl, p, _, rfl, ?_⟩
    have hd : ∀ d : PyData, (oI (firstTell p.ts (t + 1 + (i : Int)))) = d → PyData.eqv d (.int t) = decide (firstTell p.ts (t + 1 + (i : Int)) = some t) := by
      rintro d rfl
      cases firstTell p.ts (t + 1 + (i : Int)) with
      | none => simp [oI, PyData.eqv]
      | some z => 
        rw [oI, eqv_int]
        by_cases e : z = t <;> simp [e]
    refine we_var rfl ?_
    refine wr_eqD rfl rfl ?_ (shaped_int _) ?_
    · cases firstTell p.ts (t + 1 + (i : Int)) with
      | none => exact shaped_none
      | some z => exact shaped_int _
    rw [hd _ rfl]
    walk_at "s"
    refine ⟨fun h => ?_, fun h => ?_⟩
    · walk_at "s"
      exact ⟨_, _, rfl, take_snoc, if_pos h⟩
    · exact ⟨take_snoc, if_neg (by rw [h]; exact Bool.false_ne_true)⟩
  · rw [filt_rng _ (t + 1) fun j => decide (firstTell p.ts j = some t), marks_eq hT h1]
    exact fin_pd (by simp) q
/-! ### Plan___init__ -/
abbrev N_Plan___init__ : List Str := ["self", "start", "ruler", "r", "sections", "tells"]
theorem sc_Plan___init__ : FnScope N_Plan___init__ ["self", "start", "ruler", "r", "sections", "tells"] (defScope s_Plan___init__) := ⟨rfl, rfl, rfl, by decide +kernel, rfl, by decide +kernel, by decide +kernel⟩
theorem ok_Plan___init__ (c_checked_tells : Cal P w K mg base 3 "checked_tells" ["tells", "many"] (spP K T 2 pre_checked_tells)) (c_checked_sections : Cal P w K mg base 4 "checked_sections" ["sections"] (spP K T 1 pre_checked_sections)) (c_is_pages : Cal P w K mg base 2 "is_pages" ["ruler"] (spP K T 1 pre_is_pages)) (c_whole_from : Cal P w K mg base 2 "whole_from" ["value", "least"] (spP K T 2 pre_whole_from)) (c_check_most : Cal P w K mg base 2 "check_most" ["what", "many", "most"] (spP K T 3 pre_check_most)) (c_check_lengths_bound : Cal P w K mg base 4 "check_lengths_bound" ["rows"] (spP K T 1 pre_check_lengths_bound)) (Z : Zs mg) (x_RANGE : ∃ t, mg "RANGE" = some (.int c_RANGE t)) (x_PAGE : ∃ t, mg "PAGE" = some (.int c_PAGE t)) (x_TELLS : ∃ t, mg "TELLS" = some (.int c_TELLS t)) (x_SECTIONS : ∃ t, mg "SECTIONS" = some (.int c_SECTIONS t)) (x_LINES : ∃ t, mg "LINES" = some (.int c_LINES t)) (h_Plan : Cls K C_Plan) (na_Plan : ∀ f ∈ fl_Plan, NoAttr K C_Plan f) (g_Ruler : mg "Ruler" = some (.ref C_Ruler)) (kt_Ruler : PySem.W.kitOne K (.type "tuple") (.ref C_Ruler) = some false) (dd : Di K mg "Plan" C_Plan "Plan.__init__" s_Plan___init__) : CalI P w K mg base 5 "Plan" C_Plan ["self", "start", "ruler", "r", "sections", "tells"] (spP K T 6 (pre_Plan___init__ C_Plan)) := by
  obtain ⟨_, h_RANGE⟩ := x_RANGE
  obtain ⟨_, h_PAGE⟩ := x_PAGE
  obtain ⟨_, h_TELLS⟩ := x_TELLS
  obtain ⟨_, h_SECTIONS⟩ := x_SECTIONS
  obtain ⟨_, h_LINES⟩ := x_LINES
  refine dd.cal (fun f fd F => F.ok sc_Plan___init__ (fun vs H Q E h => spP_len h) fun cdv A outer s H vs Q E hr h => ?_) (fun _ _ _ _ _ _ us hl => match us, hl with | [_, _, _, _, _, _], _ => rfl)
  have nd := sc_Plan___init__.nd
  have hu := room_u hr
  refine ⟨_, (pss_cons (ps_expr (pe_callC c_check_most (hr.mono (by decide)) (by rfl) (pa_cons pe_str (pa_cons (pv 1) (pa_cons (pe_glob (v := .int c_LINES) rfl h_LINES ⟨_, rfl⟩) pa_nil))))) (pss_cons (ps_expr (pe_callC c_check_most (hr.mono (by decide)) (by rfl) (pa_cons pe_str (pa_cons (pe_callB (call_lenK (K := K) rfl) (by rfl) Z.len PySem.boot_len (pa_cons (pv 4) pa_nil)) (pa_cons (pe_glob (v := .int c_SECTIONS) rfl h_SECTIONS ⟨_, rfl⟩) pa_nil))))) (pss_cons (ps_expr (pe_callC c_check_most (hr.mono (by decide)) (by rfl) (pa_cons pe_str (pa_cons (pe_callB (call_lenK (K := K) rfl) (by rfl) Z.len PySem.boot_len (pa_cons (pv 5) pa_nil)) (pa_cons (pe_glob (v := .int c_TELLS) rfl h_TELLS ⟨_, rfl⟩) pa_nil))))) (pss_cons (ps_expr (pe_callC c_check_lengths_bound (hr.mono (by decide)) (by rfl) (pa_cons (pv 4) pa_nil))) (pss_cons (ps_if (pt_val (pe_callC c_is_pages (hr.mono (by decide)) (by rfl) (pa_cons (pv 2) pa_nil))) (pss_one (ps_expr (pe_callC c_check_most (hr.mono (by decide)) (by rfl) (pa_cons pe_str (pa_cons (pe_ix (ix_seqK (K := K) rfl) (pv 2) pe_int (fun _ _ => rfl)) (pa_cons (pe_glob (v := .int c_PAGE) rfl h_PAGE ⟨_, rfl⟩) pa_nil)))))) pss_nil) (pss_cons (ps_expr (pe_callC c_check_most (hr.mono (by decide)) (by rfl) (pa_cons pe_str (pa_cons (pv 3) (pa_cons (pe_glob (v := .int c_RANGE) rfl h_RANGE ⟨_, rfl⟩) pa_nil))))) (pss_cons (ps_if (pt_not (pt_val (pe_callC c_whole_from (hr.mono (by decide)) (by rfl) (pa_cons (pv 1) (pa_cons pe_int pa_nil))))) (pss_one ps_never) pss_nil) (pss_cons (ps_if (PW.pt (pw_and (pt_not (pt_val (pe_callB (call_isiK (K := K) rfl) (by rfl) Z.isinstance boot_isinstance (pa_cons (pv 2) (pa_cons (pe_glob (v := .ref C_Ruler) rfl g_Ruler rfl) pa_nil))))) (pw_and1 (pt_not (PW.pt (pw_and (pt_val (pe_callC c_is_pages (hr.mono (by decide)) (by rfl) (pa_cons (pv 2) pa_nil))) (pw_and1 (pt_val (pe_callC c_whole_from (hr.mono (by decide)) (by rfl) (pa_cons (pe_ix (ix_seqK (K := K) rfl) (pv 2) pe_int (fun _ _ => rfl)) (pa_cons pe_int pa_nil))))))))))) (pss_one ps_never) pss_nil) (pss_cons (ps_if (pt_not (pt_val (pe_callC c_whole_from (hr.mono (by decide)) (by rfl) (pa_cons (pv 3) (pa_cons pe_int pa_nil))))) (pss_one ps_never) pss_nil) (pss_cons (ps_fld (pv 0) (pv 1) rfl) (pss_cons (ps_fld (pv 0) (pe_ifExp (pt_val (pe_callC c_is_pages (hr.mono (by decide)) (by rfl) (pa_cons (pv 2) pa_nil))) (pe_ix (ix_seqK (K := K) rfl) (pv 2) pe_int (fun _ _ => rfl)) pe_non) rfl) (pss_cons (ps_fld (pv 0) (pe_ifExp (pt_val (pe_callC c_is_pages (hr.mono (by decide)) (by rfl) (pa_cons (pv 2) pa_nil))) pe_non (pv 2)) rfl) (pss_cons (ps_fld (pv 0) (pv 3) rfl) (pss_cons (ps_fld (pv 0) (pe_callC c_checked_sections (hr.mono (by decide)) (by rfl) (pa_cons (pv 4) pa_nil)) rfl) (pss_one (ps_fld (pv 0) (pe_callC c_checked_tells (hr.mono (by decide)) (by rfl) (pa_cons (pv 5) (pa_cons (pe_callB (call_lenK (K := K) rfl) (by rfl) Z.len PySem.boot_len (pa_cons (pv 4) pa_nil)) pa_nil))) rfl)))))))))))))))), fn_run h ?_⟩
  intro xs st Φ hl hp
  clear hl h hu hr nd
  try dsimp only [L2.cxOf, NdefX.ncx]
  obtain ⟨n, p, rfl, hn, ok, q⟩ := hp
  obtain ⟨s0, s1, H1, H2, r1, r2, sn, tn, sec, tel, srt⟩ := ok
  walk_at "s"
  refine ⟨by rfl, _, _, _, rfl, s1, ?_⟩
  walk_at "s"
  refine ⟨by rfl, _, _, _, rfl, by rw [List.length_map]; show (p.ss.length : Int) ≤ 60; omega, ?_⟩
  walk_at "s"
  refine ⟨by rfl, _, _, _, rfl, by rw [List.length_map]; show (p.ts.length : Int) ≤ 60; omega, ?_⟩
  walk_at "s"
  refine ⟨by rfl, _, rfl, sec, ?_⟩
  walk_at "f"
  refine ⟨by rfl, _, rfl, ?_⟩
  refine ⟨_, rfl, fun _ => ?_, fun h => (by cases h)⟩
  walk_at "s"
  refine ⟨by rfl, _, _, _, rfl, H2, ?_⟩
  walk_at "s"
  refine ⟨by rfl, _, _, _, rfl, r2, ?_⟩
  walk_at "f"
  refine ⟨by rfl, _, _, rfl, ?_⟩
  walk_at "s"
  refine ⟨fun h => absurd h (by simp; omega), fun _ => ?_⟩
  refine ws_next ?_
  walk_at "f"
  refine we_cls ?_
  walk_at "s"
  refine wc_isiC rfl kt_Ruler ?_
  walk_at "s"
  refine ⟨fun _ => ?_, fun h => (by cases h)⟩
  walk_at "s"
  refine ⟨by rfl, _, rfl, ?_⟩
  refine ⟨_, rfl, fun _ => ?_, fun h => (by cases h)⟩
  walk_at "s"
  refine ⟨by rfl, _, _, rfl, ?_⟩
  rw [decide_eq_true H1]
  refine ⟨_, rfl, fun h => (by cases h), fun _ => ?_⟩
  refine ws_next ?_
  walk_at "f"
  refine ⟨by rfl, _, _, rfl, ?_⟩
  walk_at "s"
  refine ⟨fun h => absurd h (by simp; omega), fun _ => ?_⟩
  refine ws_next ?_
  refine ws_sF (ws_fld (we_var rfl (we_var rfl ⟨n, _, _, rfl, hn, h_Plan, na_Plan _ (by decide), by simp, ?_⟩)))
  have h1 := get_setSelf (c' := .ins C_Plan (putG "start_line" (.pd (.int p.s)) [])) hn
  refine ws_sF (ws_fld ?_)
  walk_at "s"
  refine ⟨by rfl, _, rfl, ?_⟩
  refine ⟨_, rfl, fun _ => ?_, fun h => (by cases h)⟩
  walk_at "s"
  refine ⟨n, _, _, rfl, h1, h_Plan, na_Plan _ (by decide), by walk_at "n", ?_⟩
  rw [set_set]
  have h2 := get_setSelf (c' := .ins C_Plan (putG "page_height" (.pd (.int p.H)) (putG "start_line" (.pd (.int p.s)) []))) hn
  refine ws_sF (ws_fld ?_)
  walk_at "s"
  refine ⟨by rfl, _, rfl, ?_⟩
  refine ⟨_, rfl, fun _ => ?_, fun h => (by cases h)⟩
  walk_at "s"
  refine ⟨n, _, _, rfl, h2, h_Plan, na_Plan _ (by decide), by walk_at "n", ?_⟩
  rw [set_set]
  have h3 := get_setSelf (c' := .ins C_Plan (putG "ruler_told" (.pd .none) (putG "page_height" (.pd (.int p.H)) (putG "start_line" (.pd (.int p.s)) [])))) hn
  refine ws_sF (ws_fld ?_)
  walk_at "s"
  refine ⟨n, _, _, rfl, h3, h_Plan, na_Plan _ (by decide), by walk_at "n", ?_⟩
  rw [set_set]
  have h4 := get_setSelf (c' := .ins C_Plan (putG "range_most" (.pd (.int p.r)) (putG "ruler_told" (.pd .none) (putG "page_height" (.pd (.int p.H)) (putG "start_line" (.pd (.int p.s)) []))))) hn
  refine ws_sF (ws_fld ?_)
  walk_at "s"
  refine ⟨by rfl, _, rfl, sec, by omega, ?_⟩
  walk_at "s"
  refine ⟨n, _, _, rfl, h4, h_Plan, na_Plan _ (by decide), by walk_at "n", ?_⟩
  rw [set_set]
  have h5 := get_setSelf (c' := .ins C_Plan (putG "section_rows" (.pd (.list (p.ss.map secD))) (putG "range_most" (.pd (.int p.r)) (putG "ruler_told" (.pd .none) (putG "page_height" (.pd (.int p.H)) (putG "start_line" (.pd (.int p.s)) [])))))) hn
  refine ws_fld ?_
  walk_at "s"
  rw [List.length_map]
  refine ⟨by rfl, _, _, rfl, ⟨tel, srt⟩, by omega, ?_⟩
  walk_at "s"
  refine ⟨n, _, _, rfl, h5, h_Plan, na_Plan _ (by decide), by walk_at "n", ?_⟩
  rw [set_set]
  exact .inl q
/-! ### Plan_rows -/
abbrev N_Plan_rows : List Str := ["self", "form"]
theorem sc_Plan_rows : FnScope N_Plan_rows ["self"] (defScope s_Plan_rows) := ⟨rfl, rfl, rfl, by decide +kernel, rfl, by decide +kernel, by decide +kernel⟩
theorem ok_Plan_rows (c_Plan_tells : CalM P w K mg base 1 C_Plan "tells" ["self"] (spP K T 1 (pre_Plan_tells K C_Plan))) (c_Plan_sections : CalM P w K mg base 1 C_Plan "sections" ["self"] (spP K T 1 (pre_Plan_sections K C_Plan))) (h_Plan : Cls K C_Plan) (na_Plan : ∀ f ∈ fl_Plan, NoAttr K C_Plan f) (dd : Dm K C_Plan "rows" "Plan.rows" s_Plan_rows) : CalM P w K mg base 2 C_Plan "rows" ["self"] (spP K T 1 (pre_Plan_rows K C_Plan)) := by
  refine dd.cal (fun f fd F => F.ok sc_Plan_rows (fun vs H Q E h => spP_len h) fun cdv A outer s H vs Q E hr h => ?_) (fun _ _ _ _ _ _ us hl => match us, hl with | [_], _ => rfl)
  have nd := sc_Plan_rows.nd
  have hu := room_u hr
  refine ⟨_, (pss_cons (ps_asg (pe_ifExp (pt_cmpR op_isN (pe_fld (pv 0) rfl) pe_non (nomark _)) (pe_tup (pa_cons pe_str (pa_cons (pe_fld (pv 0) rfl) pa_nil))) (pe_tup (pa_cons pe_str (pa_cons pe_dead pa_nil)))) (pg_name (i := 1) nd rfl (.inl rfl))) (pss_one (ps_ret (pe_tup (pa_cons (pe_fld (pv 0) rfl) (pa_cons (pv 1) (pa_cons (pe_fld (pv 0) rfl) (pa_cons (pe_methC0 c_Plan_sections h_Plan (hr.mono (by decide)) (pv 0)) (pa_cons (pe_methC0 c_Plan_tells h_Plan (hr.mono (by decide)) (pv 0)) pa_nil))))))))), fn_run h ?_⟩
  intro xs st Φ hl hp
  clear hl h hu hr nd
  try dsimp only [L2.cxOf, NdefX.ncx]
  obtain ⟨p, rfl, q⟩ := hp
  walk_at "s"
  refine we_fld (we_var rfl ⟨_, _, _, .ob, h_Plan, na_Plan _ (by decide), rfl, ?_⟩)
  walk_at "s"
  refine ⟨fun _ => ?_, fun h => (by cases h)⟩
  walk_at "s"
  refine we_fld (we_var rfl ⟨_, _, _, .ob, h_Plan, na_Plan _ (by decide), rfl, ?_⟩)
  walk_at "s"
  refine we_fld (we_var rfl ⟨_, _, _, .ob, h_Plan, na_Plan _ (by decide), rfl, ?_⟩)
  walk_at "s"
  refine we_fld (we_var rfl ⟨_, _, _, .ob, h_Plan, na_Plan _ (by decide), rfl, ?_⟩)
  walk_at "s"
  refine we_meth (we_var rfl ⟨_, .ob, rfl, ?_⟩)
  walk_at "s"
  refine ⟨by rfl, p, rfl, ?_⟩
  walk_at "s"
  refine we_meth (we_var rfl ⟨_, .ob, rfl, ?_⟩)
  walk_at "s"
  refine ⟨by rfl, p, rfl, ?_⟩
  walk_at "s"
  exact fin_pd (by simp) q
/-! ### like_plan -/
abbrev N_like_plan : List Str := ["a", "b", "c", "H", "m", "r", "N", "start", "tells", "i"]
theorem sc_like_plan : FnScope N_like_plan ["a", "b", "c", "H", "m", "r", "N", "start"] (defScope s_like_plan) := ⟨rfl, rfl, rfl, by decide +kernel, rfl, by decide +kernel, by decide +kernel⟩
theorem ok_like_plan (c_Plan___init__ : CalI P w K mg base 5 "Plan" C_Plan ["self", "start", "ruler", "r", "sections", "tells"] (spP K T 6 (pre_Plan___init__ C_Plan))) (c_check_like : Cal P w K mg base 4 "check_like" ["a", "b", "c", "H", "m", "r"] (spP K T 6 pre_check_like)) (c_check_most : Cal P w K mg base 2 "check_most" ["what", "many", "most"] (spP K T 3 pre_check_most)) (Z : Zs mg) (x_SECTIONS : ∃ t, mg "SECTIONS" = some (.int c_SECTIONS t)) (x_LINES : ∃ t, mg "LINES" = some (.int c_LINES t)) (dd : Df K mg "like_plan" s_like_plan) : Cal P w K mg base 7 "like_plan" ["a", "b", "c", "H", "m", "r", "N", "start"] (spP K T 8 (pre_like_plan K C_Plan)) := by
  obtain ⟨_, h_SECTIONS⟩ := x_SECTIONS
  obtain ⟨_, h_LINES⟩ := x_LINES
  refine dd.cal (fun f fd F => F.ok sc_like_plan (fun vs H Q E h => spP_len h) fun cdv A outer s H vs Q E hr h => ?_) (fun _ _ _ _ _ _ us hl => match us, hl with | [_, _, _, _, _, _, _, _], _ => rfl)
  have nd := sc_like_plan.nd
  have hu := room_u hr
  refine ⟨_, (pss_cons (ps_expr (pe_callC c_check_most (hr.mono (by decide)) (by rfl) (pa_cons pe_str (pa_cons (pv 7) (pa_cons (pe_glob (v := .int c_LINES) rfl h_LINES ⟨_, rfl⟩) pa_nil))))) (pss_cons (ps_expr (pe_callC c_check_most (hr.mono (by decide)) (by rfl) (pa_cons pe_str (pa_cons (pv 6) (pa_cons (pe_glob (v := .int c_SECTIONS) rfl h_SECTIONS ⟨_, rfl⟩) pa_nil))))) (pss_cons (ps_expr (pe_callC c_check_like (hr.mono (by decide)) (by rfl) (pa_cons (pv 0) (pa_cons (pv 1) (pa_cons (pv 2) (pa_cons (pv 3) (pa_cons (pv 4) (pa_cons (pv 5) pa_nil)))))))) (pss_cons (ps_if (pt_cmpR op_lt (pv 7) pe_int (nomark _)) (pss_one ps_never) pss_nil) (pss_cons (ps_setLc (i := 8) (own := [("i", 9)]) (g := gName 9) (tt := tYes) rfl nd rfl rfl (sw_true rfl rfl rfl (by decide +kernel)) (pi_range1 rfl Z.range_ (pa_cons (pe_op (op_addK (K := K) rfl) (pe_op op_sub (pv 6) (pv 4)) pe_int) pa_nil)) (blkOk_by (N := N_like_plan) (sc := defScope s_like_plan) (by decide +kernel)) (fun _ _ _ _ _ => (pg_name (i := 9) nd rfl (.inl rfl))) (fun _ _ _ _ _ => pts_nil) (fun _ _ _ _ _ => (pe_tup (pa_cons (pv 9) (pa_cons (pe_op (op_addK (K := K) rfl) (pv 9) (pv 4)) pa_nil))))) (pss_one (ps_ret (pe_makeC c_Plan___init__ (hr.mono (by decide)) (by rfl) (pa_cons (pv 7) (pa_cons (pe_tup (pa_cons pe_str (pa_cons (pv 3) pa_nil))) (pa_cons (pv 5) (pa_cons (pe_op op_rep (pe_lst (pa_cons (pe_tup (pa_cons (pv 0) (pa_cons (pv 1) (pa_cons (pv 2) pa_nil)))) pa_nil)) (pv 6)) (pa_cons (pv 8) pa_nil))))))))))))), fn_run h ?_⟩
  intro xs st Φ hl hp
  clear hl h hu hr nd
  try dsimp only [L2.cxOf, NdefX.ncx]
  obtain ⟨a, b, c, H, m, r, N, start, rfl, G, ⟨h1, h2⟩, ⟨h3, h4⟩, q⟩ := hp
  have hok := likeP_ok G h1 h2 h3 h4
  walk_at "s"
  refine ⟨by rfl, _, _, _, rfl, h2, ?_⟩
  walk_at "s"
  refine ⟨by rfl, _, _, _, rfl, h4, ?_⟩
  walk_at "s"
  refine ⟨by rfl, a, b, c, H, m, r, rfl, G, ?_⟩
  have G' := G
  obtain ⟨⟨g1, g2, g3, g4, g5⟩, ⟨g6, g7, g8⟩, g9, g10, g11, g12, g13, g14⟩ := G'
  walk_at "f"
  refine ⟨fun h => absurd (of_decide_eq_true h) (by omega), fun _ => ?_⟩
  refine ws_next ?_
  refine ws_sA (we_lcR1 (gw_name (by simp)) ?_)
  walk_at "s"
  refine ⟨by omega, by omega, big_lt (by omega), fun i => some (pairT ((0 : Int) + (i : Int), (0 : Int) + (i : Int) + m)), ?_, ?_⟩
  · intro i acc hi
    walk_at "s"
    refine ⟨fun _ => ?_, fun h => (by cases h)⟩
    walk_at "s"
    exact ⟨_, _, rfl, take_snoc, rfl⟩
  rw [fm_map]
  have et : (List.range (N - m + 1).toNat).map (fun i : Nat => pairT ((0 : Int) + (i : Int), (0 : Int) + (i : Int) + m)) = (likeP a b c H m r N start).ts.map pairT := by
    show _ = ((List.range (N - m + 1).toNat).map _).map pairT
    rw [List.map_map]
    refine List.map_congr_left fun i _ => ?_
    show pairT (0 + (i : Int), 0 + (i : Int) + m) = pairT ((i : Int), (i : Int) + m)
    rw [Int.zero_add]
  rw [et]
  walk_at "s"
  refine we_frz (we_make (wa_cons (we_var rfl (wa_cons (we_tup (wa_cons (we_c rfl (wa_cons (we_var rfl (wa_nil ⟨_, _, purs_cons (purs_cons purs_nil), big_le (by simp), wa_cons (we_var rfl (wa_cons (we_op (we_lstC ?_))))⟩))))))))))
  walk_at "s"
  refine wr_rep get_end (by omega) (by omega) (big_le (by simp; omega)) ?_
  rw [show (List.replicate N.toNat [PyData.tuple [.int a, .int b, .int c]]).flatten = (likeP a b c H m r N start).ss.map secD from rep_flat secD (a, b, c) _]
  walk_at "s"
  refine ⟨by rfl, _, likeP a b c H m r N start, rfl, get_end, hok, ?_⟩
  refine ⟨rfl, _, _, _, _, _, rfl, get_setSelf get_end, rfl, get_setSelf get_end, ?_⟩
  refine fin_ob ?_ q
  simp
/-! ### range_begin -/
abbrev N_range_begin : List Str := ["numbers", "page", "distance", "a", "b", "c", "H", "m", "r"]
theorem sc_range_begin : FnScope N_range_begin ["numbers", "page", "distance"] (defScope s_range_begin) := ⟨rfl, rfl, rfl, by decide +kernel, rfl, by decide +kernel, by decide +kernel⟩
theorem ok_range_begin (dd : Df K mg "range_begin" s_range_begin) : Cal P w K mg base 1 "range_begin" ["numbers", "page", "distance"] (spP K T 3 pre_range_begin) := by
  refine dd.cal (fun f fd F => F.ok sc_range_begin (fun vs H Q E h => spP_len h) fun cdv A outer s H vs Q E hr h => ?_) (fun _ _ _ _ _ _ us hl => match us, hl with | [_, _, _], _ => rfl)
  have nd := sc_range_begin.nd
  have hu := room_u hr
  refine ⟨_, (pss_cons (ps_asg (pv 0) (pg_or (pg_tup (n := 6) rfl (pgs_cons (pg_name (i := 3) nd rfl (.inl rfl)) (pgs_cons (pg_name (i := 4) nd rfl (.inl rfl)) (pgs_cons (pg_name (i := 5) nd rfl (.inl rfl)) (pgs_cons (pg_name (i := 6) nd rfl (.inl rfl)) (pgs_cons (pg_name (i := 7) nd rfl (.inl rfl)) (pgs_cons (pg_name (i := 8) nd rfl (.inl rfl)) pgs_nil))))))) (pg_unl (n := 6) rfl (pgs_cons (pg_name (i := 3) nd rfl (.inl rfl)) (pgs_cons (pg_name (i := 4) nd rfl (.inl rfl)) (pgs_cons (pg_name (i := 5) nd rfl (.inl rfl)) (pgs_cons (pg_name (i := 6) nd rfl (.inl rfl)) (pgs_cons (pg_name (i := 7) nd rfl (.inl rfl)) (pgs_cons (pg_name (i := 8) nd rfl (.inl rfl)) pgs_nil))))))))) (pss_one (ps_ret (pe_op op_sub (pe_op op_mul (pe_op op_sub (pv 1) pe_int) (pv 6)) (pe_op op_mul (pv 2) (pe_op (op_addK (K := K) rfl) (pv 3) (pv 5))))))), fn_run h ?_⟩
  intro xs st Φ hl hp
  clear hl h hu hr nd
  try dsimp only [L2.cxOf, NdefX.ncx]
  obtain ⟨a, b, c, H, m, r, page, d, rfl, ⟨⟨g1, g2, g3, g4, g5⟩, ⟨g6, g7, g8⟩, g9, g10, g11, g12, g13, g14⟩, q⟩ := hp
  walk_at "s"
  exact fin_pd (by simp) q
/-! ### range_page -/
abbrev N_range_page : List Str := ["numbers", "line", "distance", "a", "b", "c", "H", "m", "r", "page"]
theorem sc_range_page : FnScope N_range_page ["numbers", "line", "distance"] (defScope s_range_page) := ⟨rfl, rfl, rfl, by decide +kernel, rfl, by decide +kernel, by decide +kernel⟩
theorem ok_range_page (c_range_begin : Cal P w K mg base 1 "range_begin" ["numbers", "page", "distance"] (spP K T 3 pre_range_begin)) (Z : Zs mg) (dd : Df K mg "range_page" s_range_page) : Cal P w K mg base 2 "range_page" ["numbers", "line", "distance"] (spP K T 3 pre_range_page) := by
  refine dd.cal (fun f fd F => F.ok sc_range_page (fun vs H Q E h => spP_len h) fun cdv A outer s H vs Q E hr h => ?_) (fun _ _ _ _ _ _ us hl => match us, hl with | [_, _, _], _ => rfl)
  have nd := sc_range_page.nd
  have hu := room_u hr
  refine ⟨_, (pss_cons (ps_asg (pv 0) (pg_or (pg_tup (n := 6) rfl (pgs_cons (pg_name (i := 3) nd rfl (.inl rfl)) (pgs_cons (pg_name (i := 4) nd rfl (.inl rfl)) (pgs_cons (pg_name (i := 5) nd rfl (.inl rfl)) (pgs_cons (pg_name (i := 6) nd rfl (.inl rfl)) (pgs_cons (pg_name (i := 7) nd rfl (.inl rfl)) (pgs_cons (pg_name (i := 8) nd rfl (.inl rfl)) pgs_nil))))))) (pg_unl (n := 6) rfl (pgs_cons (pg_name (i := 3) nd rfl (.inl rfl)) (pgs_cons (pg_name (i := 4) nd rfl (.inl rfl)) (pgs_cons (pg_name (i := 5) nd rfl (.inl rfl)) (pgs_cons (pg_name (i := 6) nd rfl (.inl rfl)) (pgs_cons (pg_name (i := 7) nd rfl (.inl rfl)) (pgs_cons (pg_name (i := 8) nd rfl (.inl rfl)) pgs_nil))))))))) (pss_cons (ps_asg (pe_callB (call_max2 rfl) (by rfl) Z.max boot_max (pa_cons pe_int (pa_cons (pe_op op_sub (pe_op (op_addK (K := K) rfl) (pe_op op_fdiv (pe_op (op_addK (K := K) rfl) (pv 1) (pe_op op_mul (pv 2) (pv 4))) (pv 6)) pe_int) (pv 8)) pa_nil))) (pg_name (i := 9) nd rfl (.inl rfl))) (pss_cons (ps_if (pt_cmpR op_le (pe_callC c_range_begin (hr.mono (by decide)) (by rfl) (pa_cons (pv 0) (pa_cons (pv 9) (pa_cons (pv 2) pa_nil)))) (pv 1) (nomark _)) (pss_one (ps_ret (pv 9))) pss_nil) (pss_one (ps_ret (pe_op (op_addK (K := K) rfl) (pe_op op_fdiv (pe_op (op_addK (K := K) rfl) (pv 1) (pe_op op_mul (pv 2) (pe_op (op_addK (K := K) rfl) (pv 3) (pv 5)))) (pv 6)) pe_int)))))), fn_run h ?_⟩
  intro xs st Φ hl hp
  clear hl h hu hr nd
  try dsimp only [L2.cxOf, NdefX.ncx]
  obtain ⟨a, b, c, H, m, r, line, d, rfl, G, q⟩ := hp
  have G' := G
  obtain ⟨⟨g1, g2, g3, g4, g5⟩, ⟨g6, g7, g8⟩, g9, g10, g11, g12, g13, g14⟩ := G'
  walk_at "s"
  walk_at "f"
  refine ⟨by rfl, a, b, c, H, m, r, _, _, rfl, G, ?_⟩
  walk_at "s"
  unfold rPage mx at q
  refine ⟨fun h => ?_, fun h => ?_⟩
  · rw [if_pos (of_decide_eq_true h)] at q
    walk_at "s"
    exact fin_pd (by simp) q
  · rw [if_neg (of_decide_eq_false h)] at q
    walk_at "s"
    exact fin_pd (by simp) q
/-! ### beyond_gap -/
abbrev N_beyond_gap : List Str := ["numbers", "line", "a", "b", "c", "H", "m", "r", "over", "place"]
theorem sc_beyond_gap : FnScope N_beyond_gap ["numbers", "line"] (defScope s_beyond_gap) := ⟨rfl, rfl, rfl, by decide +kernel, rfl, by decide +kernel, by decide +kernel⟩
theorem ok_beyond_gap (c_over_of : Cal P w K mg base 1 "over_of" ["a", "b", "c", "H", "m", "r"] (spP K T 6 pre_over_of)) (dd : Df K mg "beyond_gap" s_beyond_gap) : Cal P w K mg base 2 "beyond_gap" ["numbers", "line"] (spP K T 2 pre_beyond_gap) := by
  refine dd.cal (fun f fd F => F.ok sc_beyond_gap (fun vs H Q E h => spP_len h) fun cdv A outer s H vs Q E hr h => ?_) (fun _ _ _ _ _ _ us hl => match us, hl with | [_, _], _ => rfl)
  have nd := sc_beyond_gap.nd
  have hu := room_u hr
  refine ⟨_, (pss_cons (ps_asg (pv 0) (pg_or (pg_tup (n := 6) rfl (pgs_cons (pg_name (i := 2) nd rfl (.inl rfl)) (pgs_cons (pg_name (i := 3) nd rfl (.inl rfl)) (pgs_cons (pg_name (i := 4) nd rfl (.inl rfl)) (pgs_cons (pg_name (i := 5) nd rfl (.inl rfl)) (pgs_cons (pg_name (i := 6) nd rfl (.inl rfl)) (pgs_cons (pg_name (i := 7) nd rfl (.inl rfl)) pgs_nil))))))) (pg_unl (n := 6) rfl (pgs_cons (pg_name (i := 2) nd rfl (.inl rfl)) (pgs_cons (pg_name (i := 3) nd rfl (.inl rfl)) (pgs_cons (pg_name (i := 4) nd rfl (.inl rfl)) (pgs_cons (pg_name (i := 5) nd rfl (.inl rfl)) (pgs_cons (pg_name (i := 6) nd rfl (.inl rfl)) (pgs_cons (pg_name (i := 7) nd rfl (.inl rfl)) pgs_nil))))))))) (pss_cons (ps_asg (pe_callC c_over_of (hr.mono (by decide)) (by rfl) (pa_cons (pv 2) (pa_cons (pv 3) (pa_cons (pv 4) (pa_cons (pv 5) (pa_cons (pv 6) (pa_cons (pv 7) pa_nil))))))) (pg_name (i := 8) nd rfl (.inl rfl))) (pss_cons (ps_asg (pe_op op_mod (pe_op (op_addK (K := K) rfl) (pv 1) (pe_op op_mul (pv 6) (pv 3))) (pv 5)) (pg_name (i := 9) nd rfl (.inl rfl))) (pss_one (ps_ret (pe_ifExp (pt_chain op_lt op_lt (pv 9) (pv 8) (pv 5)) (pe_op op_sub (pe_op (op_addK (K := K) rfl) (pv 1) (pv 8)) (pv 9)) (pv 1))))))), fn_run h ?_⟩
  intro xs st Φ hl hp
  clear hl h hu hr nd
  try dsimp only [L2.cxOf, NdefX.ncx]
  obtain ⟨a, b, c, H, m, r, line, rfl, G, q⟩ := hp
  have G' := G
  obtain ⟨⟨g1, g2, g3, g4, g5⟩, ⟨g6, g7, g8⟩, g9, g10, g11, g12, g13, g14⟩ := G'
  walk_at "s"
  refine ⟨by rfl, a, b, c, H, m, r, rfl, G, ?_⟩
  walk_at "s"
  unfold bGap at q
  refine ⟨fun h => ?_, fun h => ⟨_, rfl, fun h2 => (by cases h2), fun _ => ?_⟩⟩
  · walk_at "s"
    refine ⟨fun h2 => ?_, fun h2 => ?_⟩
    · rw [if_pos ⟨of_decide_eq_true h, of_decide_eq_true h2⟩] at q
      walk_at "s"
      exact fin_pd (by simp) q
    · rw [if_neg fun z => absurd z.2 (of_decide_eq_false h2)] at q
      walk_at "s"
      exact fin_pd (by simp) q
  · rw [if_neg fun z => absurd z.1 (of_decide_eq_false h)] at q
    walk_at "s"
    exact fin_pd (by simp) q
/-! ### ever_house__begin_run -/
abbrev N_ever_house__begin_run : List Str := ["plan"]
theorem sc_ever_house__begin_run : NdefX.NScope N_ever_house__begin_run ["plan"] [] (C8.fnScope s_ever_house__begin_run) := NdefX.nscope_by (by decide +kernel)
theorem nk_ever_house__begin_run (c_Plan_start : CalM P w K mg base 1 C_Plan "start" ["self"] (spP K T 1 (pre_Plan_start K C_Plan))) (h_Plan : Cls K C_Plan) (na_Plan : ∀ f ∈ fl_Plan, NoAttr K C_Plan f) (f : Addr) (cl : List (Str × Addr)) (c : Addr) : NdefX.NOk P w K mg base CX0 2 f (NdefX.NF.of s_ever_house__begin_run "begin_run" "ever_house.<locals>.begin_run" cl c) ["plan"] [] (spN K T 1 0 (pre_ever_house__begin_run K C_Plan)) := by
  refine NdefX.nok_of sc_ever_house__begin_run (fun _ _ _ us hl => match us, hl with | [_], _ => rfl) (fun ws vs H Q E h => spN_len h) fun A outer s H vs ws Q E hr hf hc hl h => ?_
  have nd := sc_ever_house__begin_run.nd
  have hu := room_u hr
  refine ⟨_, PSs.nox (X := NdefX.ncx CX0 P w K mg base N_ever_house__begin_run (NdefX.NF.of s_ever_house__begin_run "begin_run" "ever_house.<locals>.begin_run" cl c) f A outer s H E) (pss_one (ps_ret (pe_tup (pa_cons (pe_methC0 c_Plan_start h_Plan (hr.mono (by decide)) (pv 0)) (pa_cons (pe_lst pa_nil) pa_nil))))), fn_runN h ?_⟩
  intro xs Φ hl hp
  clear hl h hu hr nd
  try dsimp only [L2.cxOf, NdefX.ncx]
  obtain ⟨p, rfl, q⟩ := hp
  walk_at "s"
  refine we_meth (we_var rfl ⟨_, .ob, rfl, ?_⟩)
  walk_at "s"
  refine ⟨by rfl, p, rfl, ?_⟩
  walk_at "s"
  exact fin_pd (by simp) q
/-! ### ever_house__tell_range -/
abbrev N_ever_house__tell_range : List Str := ["state", "section", "line", "mark", "numbers", "r", "page"]
theorem sc_ever_house__tell_range : NdefX.NScope N_ever_house__tell_range ["state", "section", "line", "mark"] ["numbers", "r"] (C8.fnScope s_ever_house__tell_range) := NdefX.nscope_by (by decide +kernel)
theorem nk_ever_house__tell_range (c_range_page : Cal P w K mg base 2 "range_page" ["numbers", "line", "distance"] (spP K T 3 pre_range_page)) (Z : Zs mg) (f : Addr) (cl : List (Str × Addr)) (c : Addr) : NdefX.NOk P w K mg base CX0 3 f (NdefX.NF.of s_ever_house__tell_range "tell_range" "ever_house.<locals>.tell_range" cl c) ["state", "section", "line", "mark"] ["numbers", "r"] (spN K T 4 2 pre_ever_house__tell_range) := by
  refine NdefX.nok_of sc_ever_house__tell_range (fun _ _ _ us hl => match us, hl with | [_, _, _, _], _ => rfl) (fun ws vs H Q E h => spN_len h) fun A outer s H vs ws Q E hr hf hc hl h => ?_
  have nd := sc_ever_house__tell_range.nd
  have hu := room_u hr
  refine ⟨_, PSs.nox (X := NdefX.ncx CX0 P w K mg base N_ever_house__tell_range (NdefX.NF.of s_ever_house__tell_range "tell_range" "ever_house.<locals>.tell_range" cl c) f A outer s H E) (pss_cons (ps_asg (pe_callC c_range_page (hr.mono (by decide)) (by rfl) (pa_cons (pv 4) (pa_cons (pv 2) (pa_cons (pe_op op_sub (pv 3) (pv 1)) pa_nil)))) (pg_name (i := 6) nd rfl (.inl rfl))) (pss_one (ps_ret (pe_tup (pa_cons (pe_tup (pa_cons (pe_ix (ix_seqK (K := K) rfl) (pv 0) pe_int (fun _ _ => rfl)) (pa_cons (pe_op (op_addK (K := K) rfl) (pe_callTy (call_listK (K := K) rfl) (by rfl) Z.list_ boot_list (pa_cons (pe_ix (ix_seqK (K := K) rfl) (pv 0) pe_int (fun _ _ => rfl)) pa_nil)) (pe_lst (pa_cons (pe_tup (pa_cons (pv 3) (pa_cons (pv 6) pa_nil))) pa_nil))) pa_nil))) (pa_cons (pv 6) (pa_cons (pe_op op_sub (pe_op (op_addK (K := K) rfl) (pv 6) (pv 5)) pe_int) pa_nil))))))), fn_runN h ?_⟩
  intro xs Φ hl hp
  clear hl h hu hr nd
  try dsimp only [L2.cxOf, NdefX.ncx]
  obtain ⟨a, b, c, H, m, r, x, ps, k, line, j, rfl, G, hl, q⟩ := hp
  walk_at "s"
  refine ⟨by rfl, a, b, c, H, m, r, _, _, rfl, G, ?_⟩
  walk_at "s"
  refine wc_listC rfl ?_
  walk_at "s"
  refine wr_addL look_end rfl (big_le (by simp; omega)) ?_
  walk_at "s"
  refine fin_pd (by simp) ?_
  simpa only [stD, List.map_append, List.map_cons, List.map_nil] using q
/-! ### ever_house__set_section -/
abbrev N_ever_house__set_section : List Str := ["state", "section", "lines", "c", "numbers", "least", "line", "mark", "page", "pad"]
theorem sc_ever_house__set_section : NdefX.NScope N_ever_house__set_section ["state", "section", "lines"] ["c", "numbers"] (C8.fnScope s_ever_house__set_section) := NdefX.nscope_by (by decide +kernel)
theorem nk_ever_house__set_section (c_beyond_gap : Cal P w K mg base 2 "beyond_gap" ["numbers", "line"] (spP K T 2 pre_beyond_gap)) (c_range_begin : Cal P w K mg base 1 "range_begin" ["numbers", "page", "distance"] (spP K T 3 pre_range_begin)) (Z : Zs mg) (f : Addr) (cl : List (Str × Addr)) (c : Addr) : NdefX.NOk P w K mg base CX0 3 f (NdefX.NF.of s_ever_house__set_section "set_section" "ever_house.<locals>.set_section" cl c) ["state", "section", "lines"] ["c", "numbers"] (spN K T 3 2 pre_ever_house__set_section) := by
  refine NdefX.nok_of sc_ever_house__set_section (fun _ _ _ us hl => match us, hl with | [_, _, _], _ => rfl) (fun ws vs H Q E h => spN_len h) fun A outer s H vs ws Q E hr hf hc hl h => ?_
  have nd := sc_ever_house__set_section.nd
  have hu := room_u hr
  refine ⟨_, PSs.nox (X := NdefX.ncx CX0 P w K mg base N_ever_house__set_section (NdefX.NF.of s_ever_house__set_section "set_section" "ever_house.<locals>.set_section" cl c) f A outer s H E) (pss_cons (ps_asg (pe_op (op_addK (K := K) rfl) (pe_ix (ix_seqK (K := K) rfl) (pv 0) pe_int (fun _ _ => rfl)) (pv 2)) (pg_name (i := 5) nd rfl (.inl rfl))) (pss_cons (ps_asg (pv 5) (pg_name (i := 6) nd rfl (.inl rfl))) (pss_cons (ps_for PassesOwn.never rfl (pi_list (pe_ix (ix_seqK (K := K) rfl) (pv 0) pe_int (fun _ _ => rfl))) (pg_tup (n := 2) rfl (pgs_cons (pg_name (i := 7) nd rfl (.inl rfl)) (pgs_cons (pg_name (i := 8) nd rfl (.inl rfl)) pgs_nil))) (pss_one (ps_if (pt_cmpR op_ge (pv 7) (pv 1) (nomark _)) (pss_one (ps_asg (pe_callB (call_max2 rfl) (by rfl) Z.max boot_max (pa_cons (pv 6) (pa_cons (pe_callC c_range_begin (hr.mono (by decide)) (by rfl) (pa_cons (pv 4) (pa_cons (pv 8) (pa_cons (pe_op op_sub (pv 7) (pv 1)) pa_nil)))) pa_nil))) (pg_name (i := 6) nd rfl (.inl rfl)))) pss_nil))) (pss_cons (ps_asg (pe_op op_sub (pe_callC c_beyond_gap (hr.mono (by decide)) (by rfl) (pa_cons (pv 4) (pa_cons (pv 6) pa_nil))) (pv 5)) (pg_name (i := 9) nd rfl (.inl rfl))) (pss_cons (ps_if (pt_cmpR op_gt (pv 9) (pv 3) (nomark _)) (pss_one (ps_asg pe_int (pg_name (i := 9) nd rfl (.inl rfl)))) pss_nil) (pss_one (ps_ret (pe_tup (pa_cons (pe_tup (pa_cons (pe_op (op_addK (K := K) rfl) (pv 5) (pv 9)) (pa_cons (pe_callTy (call_listK (K := K) rfl) (by rfl) Z.list_ boot_list (pa_cons (pe_ix (ix_seqK (K := K) rfl) (pv 0) pe_int (fun _ _ => rfl)) pa_nil)) pa_nil))) (pa_cons (pv 9) pa_nil)))))))))), fn_runN h ?_⟩
  intro xs Φ hl hp
  clear hl h hu hr nd
  try dsimp only [L2.cxOf, NdefX.ncx]
  obtain ⟨a, b, c, H, m, r, x, ps, k, L, rfl, G, hl, q⟩ := hp
  walk_at "s"
  refine ws_seq (ws_forL (we_op (we_var rfl (we_c rfl (wr_ixuT rfl ⟨_, rfl, fun i ss' st' => st' = [] ∧ ∃ (line : Int) (y7 y8 : Option Val), setLine a c H k line (ps.drop i) = setLine a c H k (x + L) ps ∧ ss' = [vD (stD x ps), vI k, vI L, vI c, vD (numsD a b c H m r), vI (x + L), vI line, y7, y8, none], ⟨rfl, _, _, _, rfl, rfl⟩, ?_, ?_⟩)))))
  · rintro i d ss' st' hd ⟨rfl, line, y7, y8, hf, rfl⟩
    obtain ⟨t, ht, rfl⟩ : ∃ t, ps[i]? = some t ∧ d = pairT t := by
      rw [List.getElem?_map] at hd
      cases e : ps[i]? with
      | none => rw [e] at hd; cases hd
      | some t => rw [e] at hd; exact ⟨t, rfl, (Option.some.inj hd).symm⟩
    obtain ⟨hi, e⟩ := List.getElem?_eq_some_iff.mp ht
    rw [List.drop_eq_getElem_cons hi, e] at hf
    obtain ⟨mark, page⟩ := t
    have hf : setLine a c H k (if mark ≥ k then mx line (rBegin a c H page (mark - k)) else line) (ps.drop (i + 1)) = _ := hf
    walk_at "s"
    refine ⟨fun h => ?_, fun h => ?_⟩
    · rw [if_pos (of_decide_eq_true h)] at hf
      walk_at "s"
      refine ⟨by rfl, a, b, c, H, m, r, _, _, rfl, G, ?_⟩
      walk_at "s"
      exact ⟨rfl, _, _, _, hf, rfl⟩
    · rw [if_neg (of_decide_eq_false h)] at hf
      walk_at "s"
      exact ⟨rfl, _, _, _, hf, rfl⟩
  · rintro ss' st' ⟨rfl, line, y7, y8, hf, rfl⟩
    rw [List.length_map, List.drop_length] at hf
    have hf : line = setLine a c H k (x + L) ps := hf
    subst hf
    walk_at "s"
    refine ⟨by rfl, a, b, c, H, m, r, _, rfl, G, ?_⟩
    walk_at "s"
    walk_at "f"
    unfold setPad at q
    refine ⟨fun h => ?_, fun h => ?_⟩
    · rw [if_pos (of_decide_eq_true h)] at q
      walk_at "s"
      refine wc_listC rfl ?_
      refine wa_nil ?_
      refine ⟨_, _, purs_cons (by unfold purs; rw [pur_end]; rfl), by simp only [List.length_cons, List.length_nil]; decide +kernel, ?_⟩
      walk_at "s"
      exact fin_end (st := []) q
    · rw [if_neg (of_decide_eq_false h)] at q
      walk_at "s"
      refine wc_listC rfl ?_
      refine wa_nil ?_
      refine ⟨_, _, purs_cons (by unfold purs; rw [pur_end]; rfl), by simp only [List.length_cons, List.length_nil]; decide +kernel, ?_⟩
      walk_at "s"
      exact fin_end (st := []) q
/-! ### ever_house -/
abbrev N_ever_house : List Str := ["a", "b", "c", "H", "m", "r", "begin_run", "tell_range", "set_section", "numbers"]
theorem hfree_ever_house__begin_run : ∀ y ∈ (C8.fnScope s_ever_house__begin_run).names, y.2 = .free → (defScope s_ever_house).names.lookup y.1 = some .cell ∨ (defScope s_ever_house).names.lookup y.1 = some .free := by decide +kernel
theorem hfree_ever_house__tell_range : ∀ y ∈ (C8.fnScope s_ever_house__tell_range).names, y.2 = .free → (defScope s_ever_house).names.lookup y.1 = some .cell ∨ (defScope s_ever_house).names.lookup y.1 = some .free := by decide +kernel
theorem hfree_ever_house__set_section : ∀ y ∈ (C8.fnScope s_ever_house__set_section).names, y.2 = .free → (defScope s_ever_house).names.lookup y.1 = some .cell ∨ (defScope s_ever_house).names.lookup y.1 = some .free := by decide +kernel
def nm_ever_house : Nat → Nat → Str := fun l _ => if l = lineOf s_ever_house__begin_run then "ever_house.<locals>.begin_run" else if l = lineOf s_ever_house__tell_range then "ever_house.<locals>.tell_range" else "ever_house.<locals>.set_section"
theorem sc_ever_house : FnScope N_ever_house ["a", "b", "c", "H", "m", "r"] (defScope s_ever_house) := ⟨rfl, rfl, rfl, by decide +kernel, rfl, by decide +kernel, by decide +kernel⟩
theorem ok_ever_house (c_check_like : Cal P w K mg base 4 "check_like" ["a", "b", "c", "H", "m", "r"] (spP K (tabN TN) 6 pre_check_like)) (dd : GathN K base mg TN "ever_house" s_ever_house nm_ever_house) : Cal P w K mg base 5 "ever_house" ["a", "b", "c", "H", "m", "r"] (spP K (tabN TN) 6 (pre_ever_house K)) := by
  refine mk_cal dd sc_ever_house (fun vs H Q E h => spP_len h) (fun _ _ _ _ _ _ us hl => match us, hl with | [_, _, _, _, _, _], _ => rfl) (fun f c P1 TB hmT huT A outer s H vs Q E hr h => ?_)
  have nd := sc_ever_house.nd
  have hu := room_u hr
  refine mk_fin (psc_cons (ps_expr (pe_callC c_check_like (hr.mono (by decide)) (by rfl) (pa_cons (pv 0) (pa_cons (pv 1) (pa_cons (pv 2) (pa_cons (pv 3) (pa_cons (pv 4) (pa_cons (pv 5) pa_nil)))))))) (psc_cons (ps_asg (pe_tup (pa_cons (pv 0) (pa_cons (pv 1) (pa_cons (pv 2) (pa_cons (pv 3) (pa_cons (pv 4) (pa_cons (pv 5) pa_nil))))))) (pg_name (i := 9) nd rfl (.inr rfl))) (psc_cons (NdefX.ps_ndefMS (i := 6) (st := s_ever_house__begin_run) rfl TB rfl hmT rfl huT hfree_ever_house__begin_run rfl rfl rfl nd rfl (.inl rfl) (.inr rfl)) (psc_cons (NdefX.ps_ndefMS (i := 7) (st := s_ever_house__tell_range) rfl TB rfl hmT rfl huT hfree_ever_house__tell_range rfl rfl rfl nd rfl (.inl rfl) (.inr rfl)) (psc_cons (NdefX.ps_ndefMS (i := 8) (st := s_ever_house__set_section) rfl TB rfl hmT rfl huT hfree_ever_house__set_section rfl rfl rfl nd rfl (.inl rfl) (.inr rfl)) (psc_ret (pe_lst (pa_cons (pv 6) (pa_cons (pv 7) (pa_cons (pv 8) pa_nil)))))))))) h ?_
  intro xs st Φ hl hp
  clear hl h hu hr nd
  try dsimp only [L2.cxOf, NdefX.ncx]
  obtain ⟨a, b, c, H, m, r, rfl, G, q⟩ := hp
  refine wk_cons ?_
  walk_at "s"
  refine ⟨by rfl, a, b, c, H, m, r, rfl, G, ?_⟩
  refine wk_cons ?_
  walk_at "s"
  refine wk_cons (ws_ndef ?_)
  refine wk_cons (ws_ndef ?_)
  refine wk_cons (ws_ndef ?_)
  refine wk_ret (we_lstM ?_)
  walk_at "s"
  refine ⟨big_le (by simp), ?_⟩
  refine .inr ⟨_, _, [evB K, evT K a b c H m r, evS K a b c H m r], rfl, get_end, ?_, ?_⟩
  · refine .cons ?_ (.cons ?_ (.cons ?_ .nil))
    · exact .clo (hin_by (by decide +kernel)) (by decide +kernel) rfl fun i y h => by cases i <;> cases h
    · refine .clo (hin_by (by decide +kernel)) (by decide +kernel) rfl fun i y h => ?_
      match i, h with
      | 0, h => exact ⟨9, _, by rw [← h]; rfl, rfl, (fun n z => by cases z), rfl⟩
      | 1, h => exact ⟨5, _, by rw [← h]; rfl, rfl, (fun n z => by cases z), rfl⟩
    · refine .clo (hin_by (by decide +kernel)) (by decide +kernel) rfl fun i y h => ?_
      match i, h with
      | 0, h => exact ⟨2, _, by rw [← h]; rfl, rfl, (fun n z => by cases z), rfl⟩
      | 1, h => exact ⟨9, _, by rw [← h]; rfl, rfl, (fun n z => by cases z), rfl⟩
  · rw [set_end]
    exact q
/-! ### checked_lengths -/
abbrev N_checked_lengths : List Str := ["sections", "lengths", "place", "number"]
theorem sc_checked_lengths : FnScope N_checked_lengths ["sections", "lengths"] (defScope s_checked_lengths) := ⟨rfl, rfl, rfl, by decide +kernel, rfl, by decide +kernel, by decide +kernel⟩
theorem ok_checked_lengths (c_is_whole : Cal P w K mg base 1 "is_whole" ["value"] (spP K T 1 pre_is_whole)) (Z : Zs mg) (dd : Df K mg "checked_lengths" s_checked_lengths) : Cal P w K mg base 2 "checked_lengths" ["sections", "lengths"] (spP K T 2 pre_checked_lengths) := by
  refine dd.cal (fun f fd F => F.ok sc_checked_lengths (fun vs H Q E h => spP_len h) fun cdv A outer s H vs Q E hr h => ?_) (fun _ _ _ _ _ _ us hl => match us, hl with | [_, _], _ => rfl)
  have nd := sc_checked_lengths.nd
  have hu := room_u hr
  refine ⟨_, (pss_cons (ps_if (pt_cmpR (op_neK (K := K) rfl hu) (pe_callB (call_lenK (K := K) rfl) (by rfl) Z.len PySem.boot_len (pa_cons (pv 1) pa_nil)) (pe_callB (call_lenK (K := K) rfl) (by rfl) Z.len PySem.boot_len (pa_cons (pv 0) pa_nil)) (nomark _)) (pss_one ps_never) pss_nil) (pss_one (ps_for PassesOwn.never rfl (pi_enum (by rfl) Z.enumerate (pa_cons (pv 1) pa_nil)) (pg_tup (n := 2) rfl (pgs_cons (pg_name (i := 2) nd rfl (.inl rfl)) (pgs_cons (pg_name (i := 3) nd rfl (.inl rfl)) pgs_nil))) (pss_one (ps_if (PW.pt (pw_or (pt_not (pt_val (pe_callC c_is_whole (hr.mono (by decide)) (by rfl) (pa_cons (pv 3) pa_nil)))) (pw_or1 (pt_not (pt_chain op_le op_le (pe_ix (ix_seqK (K := K) rfl) (pe_ix (ix_seqK (K := K) rfl) (pv 0) (pv 2) (fun _ _ => rfl)) pe_int (fun _ _ => rfl)) (pv 3) (pe_ix (ix_seqK (K := K) rfl) (pe_ix (ix_seqK (K := K) rfl) (pv 0) (pv 2) (fun _ _ => rfl)) pe_int (fun _ _ => rfl))))))) (pss_one ps_never) pss_nil))))), fn_run h ?_⟩
  intro xs st Φ hl hp
  clear hl h hu hr nd
  try dsimp only [L2.cxOf, NdefX.ncx]
  obtain ⟨ss, Ls, rfl, hl, hb, q⟩ := hp
  walk_at "f"
  rw [List.length_map, List.length_map]
  refine ⟨fun h => absurd h (by simp; omega), fun _ => ?_⟩
  refine ws_next ?_
  refine ws_forE (wa_cons (we_var rfl (wa_nil ⟨_, rfl, fun i ss' st' => st' = st ∧ ∃ y2 y3 : Option Val, ss' = [vL (ss.map secD), vL (Ls.map PyData.int), y2, y3], ⟨rfl, _, _, rfl⟩, ?_, ?_⟩)))
  · rintro i d ss' st' hd ⟨rfl, y2, y3, rfl⟩
    obtain ⟨L, hL, rfl⟩ : ∃ L, Ls[i]? = some L ∧ d = .int L := by
      rw [List.getElem?_map] at hd
      cases e : Ls[i]? with
      | none => rw [e] at hd; cases hd
      | some t => rw [e] at hd; exact ⟨t, rfl, (Option.some.inj hd).symm⟩
    have hi : i < ss.length := by
      have := (List.getElem?_eq_some_iff.mp hL).1
      omega
    obtain ⟨h1, h2⟩ := hb i ss[i] L (List.getElem?_eq_getElem hi) hL
    have hx : atI (ss.map secD) ((i : Nat) : Int) = some (secD ss[i]) := atI_nat (by rw [List.getElem?_map, List.getElem?_eq_getElem hi]; rfl)
    generalize ss[i] = s at h1 h2 hx
    obtain ⟨a, b, c⟩ := s
    walk_at "s"
    refine ⟨by rfl, _, rfl, ⟨_, rfl⟩, ?_⟩
    refine ⟨_, rfl, fun h => (by cases h), fun _ => ?_⟩
    walk_at "s"
    refine wr_ixuL rfl hx ?_
    walk_at "s"
    refine ⟨fun _ => ?_, fun h => absurd (of_decide_eq_false h) (by simp only at h1; omega)⟩
    walk_at "s"
    refine wr_ixuL rfl hx ?_
    walk_at "s"
    refine ⟨fun h => absurd h (by simp; exact h2), fun _ => ?_⟩
    walk_at "s"
    exact ⟨rfl, _, _, rfl⟩
  · rintro ss' st' ⟨rfl, y2, y3, rfl⟩
    exact fin_pd (by simp) q
/-! ### is_range -/
abbrev N_is_range : List Str := ["plan", "first", "last"]
theorem sc_is_range : FnScope N_is_range ["plan", "first", "last"] (defScope s_is_range) := ⟨rfl, rfl, rfl, by decide +kernel, rfl, by decide +kernel, by decide +kernel⟩
theorem ok_is_range (c_Plan_has_cell : CalM P w K mg base 1 C_Plan "has_cell" ["self", "cell"] (spP K T 2 (pre_Plan_has_cell K C_Plan))) (c_Plan_range_cells : CalM P w K mg base 1 C_Plan "range_cells" ["self"] (spP K T 1 (pre_Plan_range_cells K C_Plan))) (c_is_whole : Cal P w K mg base 1 "is_whole" ["value"] (spP K T 1 pre_is_whole)) (h_Plan : Cls K C_Plan) (na_Plan : ∀ f ∈ fl_Plan, NoAttr K C_Plan f) (dd : Df K mg "is_range" s_is_range) : Cal P w K mg base 2 "is_range" ["plan", "first", "last"] (spP K T 3 (pre_is_range K C_Plan)) := by
  refine dd.cal (fun f fd F => F.ok sc_is_range (fun vs H Q E h => spP_len h) fun cdv A outer s H vs Q E hr h => ?_) (fun _ _ _ _ _ _ us hl => match us, hl with | [_, _, _], _ => rfl)
  have nd := sc_is_range.nd
  have hu := room_u hr
  refine ⟨_, (pss_cons (ps_if (PW.pt (pw_or (pt_not (pt_val (pe_callC c_is_whole (hr.mono (by decide)) (by rfl) (pa_cons (pv 1) pa_nil)))) (pw_or (pt_not (pt_val (pe_callC c_is_whole (hr.mono (by decide)) (by rfl) (pa_cons (pv 2) pa_nil)))) (pw_or1 (pt_not (pt_chain op_le op_lt (pv 1) (pv 2) (pe_op (op_addK (K := K) rfl) (pv 1) (pe_methC0 c_Plan_range_cells h_Plan (hr.mono (by decide)) (pv 0))))))))) (pss_one (ps_ret pe_bl)) pss_nil) (pss_one (ps_ret (pe_and (pe_methC c_Plan_has_cell h_Plan (hr.mono (by decide)) (pv 0) (pa_cons (pv 1) pa_nil)) (pe_one (pe_methC c_Plan_has_cell h_Plan (hr.mono (by decide)) (pv 0) (pa_cons (pv 2) pa_nil))))))), fn_run h ?_⟩
  intro xs st Φ hl hp
  clear hl h hu hr nd
  try dsimp only [L2.cxOf, NdefX.ncx]
  obtain ⟨p, f, l, rfl, q⟩ := hp
  unfold rightR at q
  walk_at "f"
  refine ⟨by rfl, _, rfl, ⟨_, rfl⟩, ?_⟩
  refine ⟨_, rfl, fun h => (by cases h), fun _ => ?_⟩
  walk_at "s"
  refine ⟨by rfl, _, rfl, ⟨_, rfl⟩, ?_⟩
  refine ⟨_, rfl, fun h => (by cases h), fun _ => ?_⟩
  walk_at "s"
  refine ⟨fun h => ?_, fun h => ?_⟩
  · walk_at "s"
    refine we_meth (we_var rfl ⟨_, .ob, rfl, ?_⟩)
    walk_at "s"
    refine ⟨by rfl, p, rfl, ?_⟩
    walk_at "s"
    refine ⟨fun h2 => ?_, fun h2 => ?_⟩
    · rw [decide_eq_false (by intro z; have := z.2.2; simp at h2; omega)] at q
      walk_at "s"
      exact fin_pd (by simp) q
    · have h1 := of_decide_eq_true h
      have h2 : l < f + p.r := by simpa using h2
      refine ws_next ?_
      refine ws_ret (we_andV ?_)
      refine we_meth (we_var rfl ⟨_, .ob, rfl, ?_⟩)
      walk_at "s"
      refine ⟨by rfl, p, _, rfl, ?_⟩
      refine ⟨_, rfl, fun h3 => ?_, fun h3 => ?_⟩
      · have h3 := of_decide_eq_true h3
        refine we_meth (we_var rfl ⟨_, .ob, rfl, ?_⟩)
        walk_at "s"
        refine ⟨by rfl, p, _, rfl, ?_⟩
        rw [decide_eq_true (show 1 ≤ f ∧ f ≤ l ∧ l < f + p.r from ⟨h3, h1, h2⟩)] at q
        rw [decide_eq_true (show 1 ≤ l by omega)]
        exact fin_pd (by simp) q
      · have h3' := of_decide_eq_false h3
        rw [decide_eq_false (show ¬ (1 ≤ f ∧ f ≤ l ∧ l < f + p.r) from fun z => h3' z.1)] at q
        exact fin_pd (by simp) q
  · rw [decide_eq_false (show ¬ (1 ≤ f ∧ f ≤ l ∧ l < f + p.r) from fun z => of_decide_eq_false h z.2.1)] at q
    refine ⟨_, rfl, fun _ => ?_, fun h => (by cases h)⟩
    walk_at "s"
    exact fin_pd (by simp) q
/-! ### _law_right_range -/
abbrev N__law_right_range : List Str := ["world", "first", "last", "one", "cells"]
theorem sc__law_right_range : FnScope N__law_right_range ["world", "first", "last"] (defScope s__law_right_range) := ⟨rfl, rfl, rfl, by decide +kernel, rfl, by decide +kernel, by decide +kernel⟩
theorem ok__law_right_range (Z : Zs mg) (dd : Df K mg "_law_right_range" s__law_right_range) : Cal P w K mg base 1 "_law_right_range" ["world", "first", "last"] (spP K T 3 pre__law_right_range) := by
  refine dd.cal (fun f fd F => F.ok sc__law_right_range (fun vs H Q E h => spP_len h) fun cdv A outer s H vs Q E hr h => ?_) (fun _ _ _ _ _ _ us hl => match us, hl with | [_, _, _], _ => rfl)
  have nd := sc__law_right_range.nd
  have hu := room_u hr
  refine ⟨_, (pss_cons (ps_for PassesOwn.never rfl (pi_list (pe_lst (pa_cons (pv 1) (pa_cons (pv 2) pa_nil)))) (pg_name (i := 3) nd rfl (.inl rfl)) (pss_one (ps_if (PW.pt (pw_or (pt_not (pt_val (pe_callB (call_isiK (K := K) rfl) (by rfl) Z.isinstance boot_isinstance (pa_cons (pv 3) (pa_cons (pe_tyN (by rfl) Z.int_ boot_int) pa_nil))))) (pw_or (pt_val (pe_callB (call_isiK (K := K) rfl) (by rfl) Z.isinstance boot_isinstance (pa_cons (pv 3) (pa_cons (pe_tyN (by rfl) Z.bool_ boot_bool) pa_nil)))) (pw_or1 (pt_cmpR op_lt (pv 3) pe_int (nomark _)))))) (pss_one (ps_ret pe_bl)) pss_nil))) (pss_cons (ps_asg (pe_ifExp (pt_val (pe_callB (call_isiK (K := K) rfl) (by rfl) Z.isinstance boot_isinstance (pa_cons (pe_ix (ix_seqK (K := K) rfl) (pv 0) pe_int (fun _ _ => rfl)) (pa_cons (pe_tyN (by rfl) Z.tuple_ boot_tuple) pa_nil)))) (pv 2) (pe_op (op_addK (K := K) rfl) (pe_callB (call_lenK (K := K) rfl) (by rfl) Z.len PySem.boot_len (pa_cons (pe_ix (ix_seqK (K := K) rfl) (pv 0) pe_int (fun _ _ => rfl)) pa_nil)) pe_int)) (pg_name (i := 4) nd rfl (.inl rfl))) (pss_one (ps_ret (pe_and (pe_chain op_le op_le (pv 1) (pv 2) (pv 4)) (pe_one (pe_cmpR op_lt (pe_op op_sub (pv 2) (pv 1)) (pe_ix (ix_seqK (K := K) rfl) (pv 0) pe_int (fun _ _ => rfl)) (nomark _)))))))), fn_run h ?_⟩
  intro xs st Φ hl hp
  clear hl h hu hr nd
  try dsimp only [L2.cxOf, NdefX.ncx]
  obtain ⟨p, f, l, rfl, q⟩ := hp
  unfold rightR at q
  refine ws_seq (ws_forL ?_)
  walk_at "s"
  refine ⟨fun i ss' st' => st' = st ∧ ((0 < i → 1 ≤ f) ∧ (1 < i → 1 ≤ l)) ∧ ∃ y3 : Option Val, ss' = [vD (worldD p), vI f, vI l, y3, none], ⟨rfl, ⟨by omega, by omega⟩, _, rfl⟩, ?_, ?_⟩
  · rintro i d ss' st' hd ⟨rfl, ⟨h1, h2⟩, y3, rfl⟩
    obtain ⟨x, rfl, hx1, hx2, hx3⟩ : ∃ x, d = .int x ∧ (i = 0 → x = f) ∧ (i = 1 → x = l) ∧ i < 2 := by
      match i, hd with
      | 0, hd => exact ⟨f, (by cases hd; rfl), fun _ => rfl, fun h => (by omega), by omega⟩
      | 1, hd => exact ⟨l, (by cases hd; rfl), fun h => (by omega), fun _ => rfl, by omega⟩
    walk_at "s"
    refine wc_isi rfl rfl ?_
    walk_at "s"
    refine ⟨fun h => (by cases h), fun _ => ?_⟩
    walk_at "s"
    refine wc_isi rfl rfl ?_
    refine ⟨_, rfl, fun h => (by cases h), fun _ => ?_⟩
    walk_at "s"
    refine ⟨fun h => ?_, fun h => ?_⟩
    · have h := of_decide_eq_true h
      rw [decide_eq_false (show ¬ (1 ≤ f ∧ f ≤ l ∧ l < f + p.r) from fun z => by
        obtain ⟨z1, z2, z3⟩ := z
        rcases (show i = 0 ∨ i = 1 by omega) with e | e
        · have := hx1 e; omega
        · have := hx2 e; omega)] at q
      walk_at "s"
      exact fin_pd (by simp) q
    · have h := of_decide_eq_false h
      walk_at "s"
      refine ⟨rfl, ⟨fun _ => ?_, fun z => ?_⟩, _, rfl⟩
      · rcases (show i = 0 ∨ 0 < i by omega) with e | e
        · have := hx1 e; omega
        · exact h1 e
      · have := hx2 (by omega); omega
  · rintro ss' st' ⟨rfl, ⟨h1, h2⟩, y3, rfl⟩
    have h1 := h1 (by simp)
    have h2 := h2 (by simp)
    refine ws_sA (we_if ?_)
    walk_at "s"
    refine wc_isi rfl rfl ?_
    walk_at "s"
    refine ⟨fun _ => ?_, fun h => (by cases h)⟩
    walk_at "s"
    refine ⟨fun h => ?_, fun h => ⟨_, rfl, fun h2 => (by cases h2), fun _ => ?_⟩⟩
    · walk_at "s"
      rw [decide_eq_true (Int.le_refl l)]
      refine ⟨fun _ => ?_, fun h => (by cases h)⟩
      walk_at "s"
      have e : decide (1 ≤ f ∧ f ≤ l ∧ l < f + p.r) = decide (l - f < p.r) := by
        have := of_decide_eq_true h
        by_cases hz : l - f < p.r
        · rw [decide_eq_true hz, decide_eq_true (by omega)]
        · rw [decide_eq_false hz, decide_eq_false (by omega)]
      rw [e] at q
      exact fin_pd (by simp) q
    · rw [decide_eq_false (show ¬ (1 ≤ f ∧ f ≤ l ∧ l < f + p.r) from fun z => of_decide_eq_false h z.2.1)] at q
      exact fin_pd (by simp) q
/-! ### _law_is_gap -/
abbrev N__law_is_gap : List Str := ["like", "line", "a", "b", "c", "H", "m", "r"]
theorem sc__law_is_gap : FnScope N__law_is_gap ["like", "line"] (defScope s__law_is_gap) := ⟨rfl, rfl, rfl, by decide +kernel, rfl, by decide +kernel, by decide +kernel⟩
theorem ok__law_is_gap (dd : Df K mg "_law_is_gap" s__law_is_gap) : Cal P w K mg base 1 "_law_is_gap" ["like", "line"] (spP K T 2 pre__law_is_gap) := by
  refine dd.cal (fun f fd F => F.ok sc__law_is_gap (fun vs H Q E h => spP_len h) fun cdv A outer s H vs Q E hr h => ?_) (fun _ _ _ _ _ _ us hl => match us, hl with | [_, _], _ => rfl)
  have nd := sc__law_is_gap.nd
  have hu := room_u hr
  refine ⟨_, (pss_cons (ps_asg (pv 0) (pg_or (pg_tup (n := 6) rfl (pgs_cons (pg_name (i := 2) nd rfl (.inl rfl)) (pgs_cons (pg_name (i := 3) nd rfl (.inl rfl)) (pgs_cons (pg_name (i := 4) nd rfl (.inl rfl)) (pgs_cons (pg_name (i := 5) nd rfl (.inl rfl)) (pgs_cons (pg_name (i := 6) nd rfl (.inl rfl)) (pgs_cons (pg_name (i := 7) nd rfl (.inl rfl)) pgs_nil))))))) (pg_unl (n := 6) rfl (pgs_cons (pg_name (i := 2) nd rfl (.inl rfl)) (pgs_cons (pg_name (i := 3) nd rfl (.inl rfl)) (pgs_cons (pg_name (i := 4) nd rfl (.inl rfl)) (pgs_cons (pg_name (i := 5) nd rfl (.inl rfl)) (pgs_cons (pg_name (i := 6) nd rfl (.inl rfl)) (pgs_cons (pg_name (i := 7) nd rfl (.inl rfl)) pgs_nil))))))))) (pss_one (ps_ret (pe_cmpR op_ge (pe_op op_sub (pe_op op_fdiv (pe_op (op_addK (K := K) rfl) (pv 1) (pe_op op_mul (pv 6) (pv 3))) (pv 5)) (pe_op op_fdiv (pe_op (op_addK (K := K) rfl) (pv 1) (pe_op op_mul (pv 6) (pe_op (op_addK (K := K) rfl) (pv 2) (pv 4)))) (pv 5))) (pv 7) (nomark _))))), fn_run h ?_⟩
  intro xs st Φ hl hp
  clear hl h hu hr nd
  try dsimp only [L2.cxOf, NdefX.ncx]
  obtain ⟨a, b, c, H, m, r, line, rfl, ⟨⟨g1, g2, g3, g4, g5⟩, ⟨g6, g7, g8⟩, g9, g10, g11, g12, g13, g14⟩, q⟩ := hp
  walk_at "s"
  exact fin_pd (by simp) q
/-! ### _law_like_world -/
abbrev N__law_like_world : List Str := ["like", "many", "start", "a", "b", "c", "H", "m", "r", "i"]
theorem sc__law_like_world : FnScope N__law_like_world ["like", "many", "start"] (defScope s__law_like_world) := ⟨rfl, rfl, rfl, by decide +kernel, rfl, by decide +kernel, by decide +kernel⟩
theorem ok__law_like_world (Z : Zs mg) (dd : Df K mg "_law_like_world" s__law_like_world) : Cal P w K mg base 1 "_law_like_world" ["like", "many", "start"] (spP K T 3 pre__law_like_world) := by
  refine dd.cal (fun f fd F => F.ok sc__law_like_world (fun vs H Q E h => spP_len h) fun cdv A outer s H vs Q E hr h => ?_) (fun _ _ _ _ _ _ us hl => match us, hl with | [_, _, _], _ => rfl)
  have nd := sc__law_like_world.nd
  have hu := room_u hr
  refine ⟨_, (pss_cons (ps_asg (pv 0) (pg_or (pg_tup (n := 6) rfl (pgs_cons (pg_name (i := 3) nd rfl (.inl rfl)) (pgs_cons (pg_name (i := 4) nd rfl (.inl rfl)) (pgs_cons (pg_name (i := 5) nd rfl (.inl rfl)) (pgs_cons (pg_name (i := 6) nd rfl (.inl rfl)) (pgs_cons (pg_name (i := 7) nd rfl (.inr rfl)) (pgs_cons (pg_name (i := 8) nd rfl (.inl rfl)) pgs_nil))))))) (pg_unl (n := 6) rfl (pgs_cons (pg_name (i := 3) nd rfl (.inl rfl)) (pgs_cons (pg_name (i := 4) nd rfl (.inl rfl)) (pgs_cons (pg_name (i := 5) nd rfl (.inl rfl)) (pgs_cons (pg_name (i := 6) nd rfl (.inl rfl)) (pgs_cons (pg_name (i := 7) nd rfl (.inr rfl)) (pgs_cons (pg_name (i := 8) nd rfl (.inl rfl)) pgs_nil))))))))) (pss_one (ps_ret (pe_lst (pa_cons (pv 2) (pa_cons (pe_tup (pa_cons pe_str (pa_cons (pv 6) pa_nil))) (pa_cons (pv 8) (pa_cons (pe_op op_rep (pe_lst (pa_cons (pe_tup (pa_cons (pv 3) (pa_cons (pv 4) (pa_cons (pv 5) pa_nil)))) pa_nil)) (pv 1)) (pa_cons (pe_lc (own := [("i", 9)]) (g := gName 9) (tt := tYes) rfl nd (pi_range1 rfl Z.range_ (pa_cons (pe_callB (call_max2 rfl) (by rfl) Z.max boot_max (pa_cons pe_int (pa_cons (pe_op (op_addK (K := K) rfl) (pe_op op_sub (pv 1) (pv 7)) pe_int) pa_nil))) pa_nil)) (blkOk_by (N := N__law_like_world) (sc := defScope s__law_like_world) (by decide +kernel)) (fun _ _ _ _ _ => (pg_name (i := 9) nd rfl (.inl rfl))) (fun _ _ _ _ _ => pts_nil) (fun _ _ _ _ _ => (pe_tup (pa_cons (pv 9) (pa_cons (pe_op (op_addK (K := K) rfl) (pv 9) (pv 7)) pa_nil))))) pa_nil))))))))), fn_run h ?_⟩
  intro xs st Φ hl hp
  clear hl h hu hr nd
  try dsimp only [L2.cxOf, NdefX.ncx]
  obtain ⟨a, b, c, H, m, r, N, start, rfl, ⟨h1, h2, h3, h4⟩, q⟩ := hp
  refine ws_sA (we_var rfl (wg_orL rfl ?_))
  refine wgs_consM (wg_name (wgs_consM (wg_name (wgs_consM (wg_name (wgs_consM (wg_name (wgs_consM (wg_name (wgs_consM (wg_name (wgs_nilM ?_))))))))))))
  refine ws_ret (we_lst (wa_cons (we_var rfl (wa_cons (we_tup (wa_cons (we_c rfl (wa_cons (we_var rfl (wa_nil ⟨_, _, purs_cons (purs_cons purs_nil), big_le (by simp), ?_⟩))))))))))
  refine wa_cons (we_var rfl (wa_cons (we_op (we_lstC ?_))))
  walk_at "s"
  refine wr_rep get_end (by omega) (by omega) (big_le (by simp; omega)) ?_
  rw [show (List.replicate N.toNat [PyData.tuple [.int a, .int b, .int c]]).flatten = (likeP a b c H m r N start).ss.map secD from rep_flat secD (a, b, c) _]
  refine wa_cons (we_lcR1 (gw_name (by simp)) ?_)
  walk_at "s"
  refine ⟨by split <;> omega, by split <;> omega, big_lt (by split <;> omega), fun i => some (pairT ((0 : Int) + (i : Int), (0 : Int) + (i : Int) + m)), ?_, ?_⟩
  · intro i acc hi
    walk_at "s"
    refine ⟨fun _ => ?_, fun h => (by cases h)⟩
    walk_at "s"
    exact ⟨_, _, rfl, take_snoc, rfl⟩
  rw [fm_map]
  have et : (List.range (if N - m + 1 > 0 then N - m + 1 else 0).toNat).map (fun i : Nat => pairT ((0 : Int) + (i : Int), (0 : Int) + (i : Int) + m)) = (likeP a b c H m r N start).ts.map pairT := by
    show _ = ((List.range (N - m + 1).toNat).map _).map pairT
    rw [List.map_map, show (if N - m + 1 > 0 then N - m + 1 else 0).toNat = (N - m + 1).toNat by split <;> omega]
    refine List.map_congr_left fun i _ => ?_
    show pairT (0 + (i : Int), 0 + (i : Int) + m) = pairT ((i : Int), (i : Int) + m)
    rw [Int.zero_add]
  rw [et]
  refine wa_nil ⟨_, _, by (repeat apply purs_cons); exact purs_nil, big_le (by simp), fin_end q⟩
/-! ### _law_plan_cell -/
abbrev N__law_plan_cell : List Str := ["ruler", "line"]
theorem sc__law_plan_cell : FnScope N__law_plan_cell ["ruler", "line"] (defScope s__law_plan_cell) := ⟨rfl, rfl, rfl, by decide +kernel, rfl, by decide +kernel, by decide +kernel⟩
theorem ok__law_plan_cell (Z : Zs mg) (dd : Df K mg "_law_plan_cell" s__law_plan_cell) : Cal P w K mg base 1 "_law_plan_cell" ["ruler", "line"] (spP K T 2 pre__law_plan_cell) := by
  refine dd.cal (fun f fd F => F.ok sc__law_plan_cell (fun vs H Q E h => spP_len h) fun cdv A outer s H vs Q E hr h => ?_) (fun _ _ _ _ _ _ us hl => match us, hl with | [_, _], _ => rfl)
  have nd := sc__law_plan_cell.nd
  have hu := room_u hr
  refine ⟨_, (pss_one (ps_ret (pe_ifExp (pt_val (pe_callB (call_isiK (K := K) rfl) (by rfl) Z.isinstance boot_isinstance (pa_cons (pv 0) (pa_cons (pe_tyN (by rfl) Z.tuple_ boot_tuple) pa_nil)))) (pe_op (op_addK (K := K) rfl) (pe_op op_fdiv (pv 1) (pe_ix (ix_seqK (K := K) rfl) (pv 0) pe_int (fun _ _ => rfl))) pe_int) pe_dead))), fn_run h ?_⟩
  intro xs st Φ hl hp
  clear hl h hu hr nd
  try dsimp only [L2.cxOf, NdefX.ncx]
  obtain ⟨H, l, rfl, ⟨h1, h2⟩, q⟩ := hp
  refine ws_ret (we_if ?_)
  walk_at "s"
  refine wc_isi rfl rfl ?_
  walk_at "s"
  refine ⟨fun _ => ?_, fun h => (by cases h)⟩
  walk_at "s"
  exact fin_pd (by simp) q
/-! ### _law_plan_ruler -/
abbrev N__law_plan_ruler : List Str := ["ruler"]
theorem sc__law_plan_ruler : FnScope N__law_plan_ruler ["ruler"] (defScope s__law_plan_ruler) := ⟨rfl, rfl, rfl, by decide +kernel, rfl, by decide +kernel, by decide +kernel⟩
theorem ok__law_plan_ruler (Z : Zs mg) (dd : Df K mg "_law_plan_ruler" s__law_plan_ruler) : Cal P w K mg base 1 "_law_plan_ruler" ["ruler"] (spP K T 1 pre__law_plan_ruler) := by
  refine dd.cal (fun f fd F => F.ok sc__law_plan_ruler (fun vs H Q E h => spP_len h) fun cdv A outer s H vs Q E hr h => ?_) (fun _ _ _ _ _ _ us hl => match us, hl with | [_], _ => rfl)
  have nd := sc__law_plan_ruler.nd
  have hu := room_u hr
  refine ⟨_, (pss_one (ps_ret (pe_ifExp (pt_val (pe_callB (call_isiK (K := K) rfl) (by rfl) Z.isinstance boot_isinstance (pa_cons (pv 0) (pa_cons (pe_tyN (by rfl) Z.tuple_ boot_tuple) pa_nil)))) (pv 0) pe_dead))), fn_run h ?_⟩
  intro xs st Φ hl hp
  clear hl h hu hr nd
  try dsimp only [L2.cxOf, NdefX.ncx]
  obtain ⟨H, rfl, q⟩ := hp
  refine ws_ret (we_if ?_)
  walk_at "s"
  refine wc_isi rfl rfl ?_
  walk_at "s"
  refine ⟨fun _ => ?_, fun h => (by cases h)⟩
  walk_at "s"
  exact fin_pd (by simp) q
/-! ### _law_made_plan -/
abbrev N__law_made_plan : List Str := ["world"]
theorem sc__law_made_plan : FnScope N__law_made_plan ["world"] (defScope s__law_made_plan) := ⟨rfl, rfl, rfl, by decide +kernel, rfl, by decide +kernel, by decide +kernel⟩
theorem ok__law_made_plan (c_Plan___init__ : CalI P w K mg base 5 "Plan" C_Plan ["self", "start", "ruler", "r", "sections", "tells"] (spP K T 6 (pre_Plan___init__ C_Plan))) (c__law_plan_ruler : Cal P w K mg base 1 "_law_plan_ruler" ["ruler"] (spP K T 1 pre__law_plan_ruler)) (Z : Zs mg) (dd : Df K mg "_law_made_plan" s__law_made_plan) : Cal P w K mg base 7 "_law_made_plan" ["world"] (spP K T 1 (pre__law_made_plan K C_Plan)) := by
  refine dd.cal (fun f fd F => F.ok sc__law_made_plan (fun vs H Q E h => spP_len h) fun cdv A outer s H vs Q E hr h => ?_) (fun _ _ _ _ _ _ us hl => match us, hl with | [_], _ => rfl)
  have nd := sc__law_made_plan.nd
  have hu := room_u hr
  refine ⟨_, (pss_one (ps_ret (pe_makeC c_Plan___init__ (hr.mono (by decide)) (by rfl) (pa_cons (pe_ix (ix_seqK (K := K) rfl) (pv 0) pe_int (fun _ _ => rfl)) (pa_cons (pe_callC c__law_plan_ruler (hr.mono (by decide)) (by rfl) (pa_cons (pe_ix (ix_seqK (K := K) rfl) (pv 0) pe_int (fun _ _ => rfl)) pa_nil)) (pa_cons (pe_ix (ix_seqK (K := K) rfl) (pv 0) pe_int (fun _ _ => rfl)) (pa_cons (pe_callTy (call_listK (K := K) rfl) (by rfl) Z.list_ boot_list (pa_cons (pe_ix (ix_seqK (K := K) rfl) (pv 0) pe_int (fun _ _ => rfl)) pa_nil)) (pa_cons (pe_callTy (call_listK (K := K) rfl) (by rfl) Z.list_ boot_list (pa_cons (pe_ix (ix_seqK (K := K) rfl) (pv 0) pe_int (fun _ _ => rfl)) pa_nil)) pa_nil)))))))), fn_run h ?_⟩
  intro xs st Φ hl hp
  clear hl h hu hr nd
  try dsimp only [L2.cxOf, NdefX.ncx]
  obtain ⟨p, rfl, ok, q⟩ := hp
  refine ws_ret (we_frz (we_make ?_))
  walk_at "s"
  refine ⟨by rfl, _, rfl, ?_⟩
  refine wa_cons (we_op (we_var rfl (we_c rfl (wr_ixuL rfl rfl (wa_cons (we_pur (we_cb (wa_cons (we_op (we_var rfl (we_c rfl (wr_ixuL rfl rfl (wa_nil (wc_listC rfl ⟨_, _, pur_end, ?_⟩))))))))))))))
  refine wa_cons (we_pur (we_cb (wa_cons (we_op (we_var rfl (we_c rfl (wr_ixuL rfl rfl (wa_nil (wc_listC rfl ⟨_, _, pur_end, wa_nil ?_⟩)))))))))
  refine ⟨by rfl, _, p, rfl, get_end, ok, ?_⟩
  refine ⟨rfl, _, _, _, _, _, rfl, get_setSelf get_end, rfl, get_setSelf get_end, ?_⟩
  refine fin_ob ?_ q
  simp
/-! ### _law_first_tell -/
abbrev N__law_first_tell : List Str := ["world", "mark", "places", "i", "j"]
theorem sc__law_first_tell : FnScope N__law_first_tell ["world", "mark"] (defScope s__law_first_tell) := ⟨rfl, rfl, rfl, by decide +kernel, rfl, by decide +kernel, by decide +kernel⟩
theorem ok__law_first_tell (Z : Zs mg) (dd : Df K mg "_law_first_tell" s__law_first_tell) : Cal P w K mg base 1 "_law_first_tell" ["world", "mark"] (spP K T 2 pre__law_first_tell) := by
  refine dd.cal (fun f fd F => F.ok sc__law_first_tell (fun vs H Q E h => spP_len h) fun cdv A outer s H vs Q E hr h => ?_) (fun _ _ _ _ _ _ us hl => match us, hl with | [_, _], _ => rfl)
  have nd := sc__law_first_tell.nd
  have hu := room_u hr
  refine ⟨_, (pss_cons (ps_setLc (i := 2) (own := [("i", 3), ("j", 4)]) (g := gTup K 2 (gCons (gName 3) (gCons (gName 4) gNil))) (tt := _) rfl nd rfl rfl (sw_true rfl rfl rfl (by decide +kernel)) (pi_list (pe_ix (ix_seqK (K := K) rfl) (pv 0) pe_int (fun _ _ => rfl))) (blkOk_by (N := N__law_first_tell) (sc := defScope s__law_first_tell) (by decide +kernel)) (fun _ _ _ _ _ => (pg_tup (n := 2) rfl (pgs_cons (pg_name (i := 3) nd rfl (.inl rfl)) (pgs_cons (pg_name (i := 4) nd rfl (.inl rfl)) pgs_nil)))) (fun _ _ _ _ _ => (pts_one (pt_cmpR (op_eqK (K := K) rfl hu) (pv 4) (pv 1) (nomark _)))) (fun _ _ _ _ _ => (pv 3))) (pss_one (ps_ret (pe_ifExp (pt_cmpR (op_neK (K := K) rfl hu) (pv 2) (pe_lst pa_nil) (nomark _)) (pe_callB (cr_minK' (K := K) rfl rfl) (by rfl) Z.min boot_min (pa_cons (pv 2) pa_nil)) pe_non)))), fn_run h ?_⟩
  intro xs st Φ hl hp
  clear hl h hu hr nd
  try dsimp only [L2.cxOf, NdefX.ncx]
  obtain ⟨p, m, rfl, hs, hl, q⟩ := hp
  refine ws_sA (we_lcL (gw_tup (gw_cons gm_name (gm_cons gm_name gm_nil) (gw_name (by simp)) (gw_cons gm_name gm_nil (gw_name (by simp)) gw_nil))) ?_)
  walk_at "s"
  refine ⟨by rw [List.length_map]; exact big_lt (by omega), tellF m, ?_, ?_⟩
  · intro i d acc hd
    obtain ⟨⟨x, y⟩, hz, rfl⟩ := List.mem_map.mp (List.mem_of_getElem? hd)
    walk_at "s"
    refine ⟨fun h => ?_, fun h => ?_⟩
    · walk_at "s"
      exact ⟨_, _, rfl, take_snoc, if_pos (of_decide_eq_true h)⟩
    · exact ⟨take_snoc, if_neg (of_decide_eq_false h)⟩
  rw [tellF_map]
  generalize hE : (p.ts.filter fun t => decide (t.2 = m)).map Prod.fst = E
  refine wg_name ?_
  refine ws_ret (we_if ?_)
  walk_at "s"
  have hsh : SeqAt.shaped (.list (E.map PyData.int)) = true := Sh.shaped (k := 1) (sh_list fun d hd => by
    obtain ⟨x, _, rfl⟩ := List.mem_map.mp hd
    exact sh_int _)
  refine wr_neD rfl rfl hsh rfl ?_
  rw [eqv_isNil]
  walk_at "s"
  refine ⟨fun h => ?_, fun h => ?_⟩
  · have hne : E ≠ [] := fun z => by
      rw [z] at h
      simp at h
    walk_at "s"
    refine wc_min rfl (by
      cases E with
      | nil => exact absurd rfl hne
      | cons x t => simp) fun x hx hle => ?_
    rw [← hE] at hx hle
    rw [first_min hs hx hle] at q
    exact fin_pd (by simp) q
  · have hnil : E = [] := by
      have h : (!decide (E.map PyData.int = [])) = false := h
      simpa using h
    have hf : firstTell p.ts m = none := by
      unfold firstTell
      rw [← List.head?_filter]
      rw [hnil, List.map_eq_nil_iff] at hE
      rw [hE]
      rfl
    rw [hf] at q
    walk_at "s"
    exact fin_pd (by simp) q
/-! ### _law_listed___law_next_length -/
abbrev N__law_listed___law_next_length : List Str := ["k", "line", "told", "lengths"]
theorem sc__law_listed___law_next_length : NdefX.NScope N__law_listed___law_next_length ["k", "line", "told"] ["lengths"] (C8.fnScope s__law_listed___law_next_length) := NdefX.nscope_by (by decide +kernel)
theorem nk__law_listed___law_next_length (f : Addr) (cl : List (Str × Addr)) (c : Addr) : NdefX.NOk P w K mg base CX0 1 f (NdefX.NF.of s__law_listed___law_next_length "_law_next_length" "_law_listed.<locals>._law_next_length" cl c) ["k", "line", "told"] ["lengths"] (spN K T 3 1 pre__law_listed___law_next_length) := by
  refine NdefX.nok_of sc__law_listed___law_next_length (fun _ _ _ us hl => match us, hl with | [_, _, _], _ => rfl) (fun ws vs H Q E h => spN_len h) fun A outer s H vs ws Q E hr hf hc hl h => ?_
  have nd := sc__law_listed___law_next_length.nd
  have hu := room_u hr
  refine ⟨_, PSs.nox (X := NdefX.ncx CX0 P w K mg base N__law_listed___law_next_length (NdefX.NF.of s__law_listed___law_next_length "_law_next_length" "_law_listed.<locals>._law_next_length" cl c) f A outer s H E) (pss_one (ps_ret (pe_ix (ix_seqK (K := K) rfl) (pv 3) (pe_op op_sub (pv 0) pe_int) (fun _ _ => rfl)))), fn_runN h ?_⟩
  intro xs Φ hl hp
  clear hl h hu hr nd
  try dsimp only [L2.cxOf, NdefX.ncx]
  obtain ⟨k, line, told, Ls, L, rfl, hL, q⟩ := hp
  unfold srcL at hL
  split at hL
  · rename_i h1
    have hx : atI (Ls.map PyData.int) (k - 1) = some (.int L) := by
      obtain ⟨j, hj⟩ : ∃ j : Nat, k - 1 = (j : Int) := ⟨(k - 1).toNat, by omega⟩
      rw [hj] at hL ⊢
      have hL : Ls[j]? = some L := hL
      exact atI_nat (by rw [List.getElem?_map, hL]; rfl)
    walk_at "s"
    refine wr_ixuL rfl hx ?_
    exact fin_pd (by simp) q
  · cases hL
/-! ### _law_listed -/
abbrev N__law_listed : List Str := ["lengths", "_law_next_length"]
theorem hfree__law_listed___law_next_length : ∀ y ∈ (C8.fnScope s__law_listed___law_next_length).names, y.2 = .free → (defScope s__law_listed).names.lookup y.1 = some .cell ∨ (defScope s__law_listed).names.lookup y.1 = some .free := by decide +kernel
def nm__law_listed : Nat → Nat → Str := fun l _ =>  "_law_listed.<locals>._law_next_length"
theorem sc__law_listed : FnScope N__law_listed ["lengths"] (defScope s__law_listed) := ⟨rfl, rfl, rfl, by decide +kernel, rfl, by decide +kernel, by decide +kernel⟩
theorem ok__law_listed (dd : GathN K base mg TN "_law_listed" s__law_listed nm__law_listed) : Cal P w K mg base 1 "_law_listed" ["lengths"] (spP K (tabN TN) 1 (pre__law_listed K)) := by
  refine mk_cal dd sc__law_listed (fun vs H Q E h => spP_len h) (fun _ _ _ _ _ _ us hl => match us, hl with | [_], _ => rfl) (fun f c P1 TB hmT huT A outer s H vs Q E hr h => ?_)
  have nd := sc__law_listed.nd
  have hu := room_u hr
  refine mk_fin (psc_cons (NdefX.ps_ndefMS (i := 1) (st := s__law_listed___law_next_length) rfl TB rfl hmT rfl huT hfree__law_listed___law_next_length rfl rfl rfl nd rfl (.inl rfl) (.inr rfl)) (psc_ret (pv 1))) h ?_
  intro xs st Φ hl hp
  clear hl h hu hr nd
  try dsimp only [L2.cxOf, NdefX.ncx]
  obtain ⟨Ls, rfl, q⟩ := hp
  refine wk_cons (ws_ndef ?_)
  refine wk_ret (we_var rfl ?_)
  refine .inl ⟨lisV K Ls, ?_, q⟩
  refine .clo (hin_by (by decide +kernel)) (by decide +kernel) rfl fun i y h => ?_
  match i, h with
  | 0, h => exact ⟨0, _, by rw [← h]; rfl, rfl, (fun n z => by cases z), rfl⟩
/-! ### _law_seeker___law_seeks -/
abbrev N__law_seeker___law_seeks : List Str := ["k", "line", "told", "like", "seed", "a", "b", "c", "H", "m", "r", "lines"]
theorem sc__law_seeker___law_seeks : NdefX.NScope N__law_seeker___law_seeks ["k", "line", "told"] ["like", "seed"] (C8.fnScope s__law_seeker___law_seeks) := NdefX.nscope_by (by decide +kernel)
theorem nk__law_seeker___law_seeks (c__law_rest : Cal P w K mg base 1 "_law_rest" ["many", "part"] (spP K T 2 pre__law_rest)) (c__law_is_gap : Cal P w K mg base 1 "_law_is_gap" ["like", "line"] (spP K T 2 pre__law_is_gap)) (Z : Zs mg) (f : Addr) (cl : List (Str × Addr)) (c : Addr) : NdefX.NOk P w K mg base CX0 2 f (NdefX.NF.of s__law_seeker___law_seeks "_law_seeks" "_law_seeker.<locals>._law_seeks" cl c) ["k", "line", "told"] ["like", "seed"] (spN K T 3 2 pre__law_seeker___law_seeks) := by
  refine NdefX.nok_of sc__law_seeker___law_seeks (fun _ _ _ us hl => match us, hl with | [_, _, _], _ => rfl) (fun ws vs H Q E h => spN_len h) fun A outer s H vs ws Q E hr hf hc hl h => ?_
  have nd := sc__law_seeker___law_seeks.nd
  have hu := room_u hr
  refine ⟨_, PSs.nox (X := NdefX.ncx CX0 P w K mg base N__law_seeker___law_seeks (NdefX.NF.of s__law_seeker___law_seeks "_law_seeks" "_law_seeker.<locals>._law_seeks" cl c) f A outer s H E) (pss_cons (ps_asg (pv 3) (pg_or (pg_tup (n := 6) rfl (pgs_cons (pg_name (i := 5) nd rfl (.inl rfl)) (pgs_cons (pg_name (i := 6) nd rfl (.inl rfl)) (pgs_cons (pg_name (i := 7) nd rfl (.inl rfl)) (pgs_cons (pg_name (i := 8) nd rfl (.inl rfl)) (pgs_cons (pg_name (i := 9) nd rfl (.inl rfl)) (pgs_cons (pg_name (i := 10) nd rfl (.inl rfl)) pgs_nil))))))) (pg_unl (n := 6) rfl (pgs_cons (pg_name (i := 5) nd rfl (.inl rfl)) (pgs_cons (pg_name (i := 6) nd rfl (.inl rfl)) (pgs_cons (pg_name (i := 7) nd rfl (.inl rfl)) (pgs_cons (pg_name (i := 8) nd rfl (.inl rfl)) (pgs_cons (pg_name (i := 9) nd rfl (.inl rfl)) (pgs_cons (pg_name (i := 10) nd rfl (.inl rfl)) pgs_nil))))))))) (pss_cons (ps_for PassesOwn.never rfl (pi_range2 rfl Z.range_ (pa_cons (pv 5) (pa_cons (pe_op (op_addK (K := K) rfl) (pv 6) pe_int) pa_nil))) (pg_name (i := 11) nd rfl (.inl rfl)) (pss_one (ps_if (pt_val (pe_callC c__law_is_gap (hr.mono (by decide)) (by rfl) (pa_cons (pv 3) (pa_cons (pe_op (op_addK (K := K) rfl) (pv 1) (pv 11)) pa_nil)))) (pss_one (ps_ret (pv 11))) pss_nil))) (pss_cons (ps_for PassesOwn.never rfl (pi_range2 rfl Z.range_ (pa_cons (pv 5) (pa_cons (pe_op (op_addK (K := K) rfl) (pv 6) pe_int) pa_nil))) (pg_name (i := 11) nd rfl (.inl rfl)) (pss_one (ps_if (pt_val (pe_callC c__law_is_gap (hr.mono (by decide)) (by rfl) (pa_cons (pv 3) (pa_cons (pe_op (op_addK (K := K) rfl) (pe_op (op_addK (K := K) rfl) (pv 1) (pv 11)) (pv 7)) pa_nil)))) (pss_one (ps_ret (pv 11))) pss_nil))) (pss_one (ps_ret (pe_op (op_addK (K := K) rfl) (pv 5) (pe_callC c__law_rest (hr.mono (by decide)) (by rfl) (pa_cons (pe_op (op_addK (K := K) rfl) (pv 4) (pe_op op_mul (pv 0) (pv 1))) (pa_cons (pe_op (op_addK (K := K) rfl) (pe_op op_sub (pv 6) (pv 5)) pe_int) pa_nil))))))))), fn_runN h ?_⟩
  intro xs Φ hl hp
  clear hl h hu hr nd
  try dsimp only [L2.cxOf, NdefX.ncx]
  obtain ⟨a, b, c, H, m, r, seed, k, line, told, rfl, G, ⟨k0, k1⟩, q⟩ := hp
  have G' := G
  obtain ⟨⟨g1, g2, g3, g4, g5⟩, ⟨g6, g7, g8⟩, g9, g10, g11, g12, g13, g14⟩ := G'
  unfold seekF at q
  refine ws_sA (we_var rfl ?_)
  walk_at "s"
  refine ws_seq (ws_forR2 (wa_cons (we_var rfl (wa_cons (we_op (we_var rfl (we_c rfl (wr_addI (wa_nil ⟨_, _, rfl, by omega, fun i ss' st' => st' = [] ∧ (∀ j < i, isGap a b c H m r (line + (a + (j : Int))) = false) ∧ ∃ y : Option Val, ss' = [vI k, vI line, vL (told.map rngD), vD (likeD a b c H m r), vI seed, vI a, vI b, vI c, vI H, vI m, vI r, y], ⟨rfl, fun j hj => (by omega), none, rfl⟩, ?_, ?_⟩)))))))))
  · rintro i ss' st' hi ⟨rfl, hn, y, rfl⟩
    walk_at "s"
    refine ⟨by rfl, a, b, c, H, m, r, _, rfl, G, ?_⟩
    refine ⟨_, rfl, fun h => ?_, fun h => ?_⟩
    · rw [find_rng (f := fun L => isGap a b c H m r (line + L)) hi h hn] at q
      walk_at "s"
      exact fin_pd (st := []) (by simp) q
    · walk_at "s"
      refine ⟨rfl, fun j hj => ?_, _, rfl⟩
      rcases (show j < i ∨ j = i by omega) with hj | rfl
      · exact hn j hj
      · exact h
  · rintro ss' st' ⟨rfl, hn, y, rfl⟩
    rw [find_rngN (f := fun L => isGap a b c H m r (line + L)) hn] at q
    refine ws_seq (ws_forR2 (wa_cons (we_var rfl (wa_cons (we_op (we_var rfl (we_c rfl (wr_addI (wa_nil ⟨_, _, rfl, by omega, fun i ss' st' => st' = [] ∧ (∀ j < i, isGap a b c H m r (line + (a + (j : Int)) + c) = false) ∧ ∃ y : Option Val, ss' = [vI k, vI line, vL (told.map rngD), vD (likeD a b c H m r), vI seed, vI a, vI b, vI c, vI H, vI m, vI r, y], ⟨rfl, fun j hj => (by omega), _, rfl⟩, ?_, ?_⟩)))))))))
    · rintro i ss' st' hi ⟨rfl, hn, y, rfl⟩
      walk_at "s"
      refine ⟨by rfl, a, b, c, H, m, r, _, rfl, G, ?_⟩
      refine ⟨_, rfl, fun h => ?_, fun h => ?_⟩
      · rw [find_rng (f := fun L => isGap a b c H m r (line + L + c)) hi h hn] at q
        walk_at "s"
        exact fin_pd (st := []) (by simp) q
      · walk_at "s"
        refine ⟨rfl, fun j hj => ?_, _, rfl⟩
        rcases (show j < i ∨ j = i by omega) with hj | rfl
        · exact hn j hj
        · exact h
    · rintro ss' st' ⟨rfl, hn, y, rfl⟩
      rw [find_rngN (f := fun L => isGap a b c H m r (line + L + c)) hn] at q
      walk_at "s"
      refine ⟨by rfl, _, _, rfl, by omega, ?_⟩
      walk_at "s"
      exact fin_pd (st := []) (by simp) q
/-! ### _law_seeker -/
abbrev N__law_seeker : List Str := ["like", "seed", "_law_seeks"]
theorem hfree__law_seeker___law_seeks : ∀ y ∈ (C8.fnScope s__law_seeker___law_seeks).names, y.2 = .free → (defScope s__law_seeker).names.lookup y.1 = some .cell ∨ (defScope s__law_seeker).names.lookup y.1 = some .free := by decide +kernel
def nm__law_seeker : Nat → Nat → Str := fun l _ =>  "_law_seeker.<locals>._law_seeks"
theorem sc__law_seeker : FnScope N__law_seeker ["like", "seed"] (defScope s__law_seeker) := ⟨rfl, rfl, rfl, by decide +kernel, rfl, by decide +kernel, by decide +kernel⟩
theorem ok__law_seeker (dd : GathN K base mg TN "_law_seeker" s__law_seeker nm__law_seeker) : Cal P w K mg base 1 "_law_seeker" ["like", "seed"] (spP K (tabN TN) 2 (pre__law_seeker K)) := by
  refine mk_cal dd sc__law_seeker (fun vs H Q E h => spP_len h) (fun _ _ _ _ _ _ us hl => match us, hl with | [_, _], _ => rfl) (fun f c P1 TB hmT huT A outer s H vs Q E hr h => ?_)
  have nd := sc__law_seeker.nd
  have hu := room_u hr
  refine mk_fin (psc_cons (NdefX.ps_ndefMS (i := 2) (st := s__law_seeker___law_seeks) rfl TB rfl hmT rfl huT hfree__law_seeker___law_seeks rfl rfl rfl nd rfl (.inl rfl) (.inr rfl)) (psc_ret (pv 2))) h ?_
  intro xs st Φ hl hp
  clear hl h hu hr nd
  try dsimp only [L2.cxOf, NdefX.ncx]
  obtain ⟨a, b, c, H, m, r, seed, rfl, q⟩ := hp
  refine wk_cons (ws_ndef ?_)
  refine wk_ret (we_var rfl ?_)
  refine .inl ⟨skV K a b c H m r seed, ?_, q⟩
  refine .clo (hin_by (by decide +kernel)) (by decide +kernel) rfl fun i y h => ?_
  match i, h with
  | 0, h => exact ⟨0, _, by rw [← h]; rfl, rfl, (fun n z => by cases z), rfl⟩
  | 1, h => exact ⟨1, _, by rw [← h]; rfl, rfl, (fun n z => by cases z), rfl⟩
/-! ### _law_ranges_hold -/
abbrev N__law_ranges_hold : List Str := ["like", "found", "a", "b", "c", "H", "m", "r", "lines", "i", "j", "first", "last"]
theorem sc__law_ranges_hold : FnScope N__law_ranges_hold ["like", "found"] (defScope s__law_ranges_hold) := ⟨rfl, rfl, rfl, by decide +kernel, rfl, by decide +kernel, by decide +kernel⟩
theorem ok__law_ranges_hold (dd : Df K mg "_law_ranges_hold" s__law_ranges_hold) : Cal P w K mg base 1 "_law_ranges_hold" ["like", "found"] (spP K T 2 pre__law_ranges_hold) := by
  refine dd.cal (fun f fd F => F.ok sc__law_ranges_hold (fun vs H Q E h => spP_len h) fun cdv A outer s H vs Q E hr h => ?_) (fun _ _ _ _ _ _ us hl => match us, hl with | [_, _], _ => rfl)
  have nd := sc__law_ranges_hold.nd
  have hu := room_u hr
  refine ⟨_, (pss_cons (ps_asg (pv 0) (pg_or (pg_tup (n := 6) rfl (pgs_cons (pg_name (i := 2) nd rfl (.inl rfl)) (pgs_cons (pg_name (i := 3) nd rfl (.inl rfl)) (pgs_cons (pg_name (i := 4) nd rfl (.inl rfl)) (pgs_cons (pg_name (i := 5) nd rfl (.inl rfl)) (pgs_cons (pg_name (i := 6) nd rfl (.inl rfl)) (pgs_cons (pg_name (i := 7) nd rfl (.inl rfl)) pgs_nil))))))) (pg_unl (n := 6) rfl (pgs_cons (pg_name (i := 2) nd rfl (.inl rfl)) (pgs_cons (pg_name (i := 3) nd rfl (.inl rfl)) (pgs_cons (pg_name (i := 4) nd rfl (.inl rfl)) (pgs_cons (pg_name (i := 5) nd rfl (.inl rfl)) (pgs_cons (pg_name (i := 6) nd rfl (.inl rfl)) (pgs_cons (pg_name (i := 7) nd rfl (.inl rfl)) pgs_nil))))))))) (pss_cons (ps_asg (pe_ix (ix_seqK (K := K) rfl) (pv 1) pe_int (fun _ _ => rfl)) (pg_name (i := 8) nd rfl (.inl rfl))) (pss_cons (ps_for PassesOwn.never rfl (pi_list (pe_ix (ix_seqK (K := K) rfl) (pv 1) pe_int (fun _ _ => rfl))) (pg_tup (n := 4) rfl (pgs_cons (pg_name (i := 9) nd rfl (.inl rfl)) (pgs_cons (pg_name (i := 10) nd rfl (.inl rfl)) (pgs_cons (pg_name (i := 11) nd rfl (.inl rfl)) (pgs_cons (pg_name (i := 12) nd rfl (.inl rfl)) pgs_nil))))) (pss_cons (ps_if (PW.pt (pw_or (pt_cmpR (op_neK (K := K) rfl hu) (pe_op op_sub (pv 12) (pv 11)) (pe_op op_sub (pv 7) pe_int) (nomark _)) (pw_or1 (pt_cmpR (op_neK (K := K) rfl hu) (pv 10) (pe_op (op_addK (K := K) rfl) (pv 9) (pv 6)) (nomark _))))) (pss_one (ps_ret pe_bl)) pss_nil) (pss_cons (ps_if (PW.pt (pw_or (pt_not (pt_cmpR op_le (pe_op op_mul (pe_op op_sub (pv 11) pe_int) (pv 5)) (pe_op (op_addK (K := K) rfl) (pe_ix (ix_seqK (K := K) rfl) (pv 8) (pv 9) (fun _ _ => rfl)) (pe_op op_mul (pv 6) (pe_op (op_addK (K := K) rfl) (pv 2) (pv 4)))) (nomark _))) (pw_or1 (pt_not (pt_cmpR op_lt (pe_op (op_addK (K := K) rfl) (pe_ix (ix_seqK (K := K) rfl) (pv 8) (pv 9) (fun _ _ => rfl)) (pe_op op_mul (pv 6) (pv 3))) (pe_op op_mul (pv 12) (pv 5)) (nomark _)))))) (pss_one (ps_ret pe_bl)) pss_nil) (pss_one (ps_if (PW.pt (pw_and (pt_cmpR (op_eqK (K := K) rfl hu) (pv 7) pe_int (nomark _)) (pw_and1 (pt_cmpR (op_neK (K := K) rfl hu) (pv 11) (pe_op (op_addK (K := K) rfl) (pe_op op_fdiv (pe_op (op_addK (K := K) rfl) (pe_ix (ix_seqK (K := K) rfl) (pv 8) (pv 9) (fun _ _ => rfl)) (pe_op op_mul (pv 6) (pv 3))) (pv 5)) pe_int) (nomark _))))) (pss_one (ps_ret pe_bl)) pss_nil))))) (pss_one (ps_ret pe_bl))))), fn_run h ?_⟩
  intro xs st Φ hl hp
  clear hl h hu hr nd
  try dsimp only [L2.cxOf, NdefX.ncx]
  obtain ⟨a, b, c, H, m, r, lines, told, rfl, G, hh, q⟩ := hp
  have G' := G
  obtain ⟨⟨g1, g2, g3, g4, g5⟩, ⟨g6, g7, g8⟩, g9, g10, g11, g12, g13, g14⟩ := G'
  refine ws_sA (we_var rfl (wg_orL rfl ?_))
  refine wgs_consM (wg_name (wgs_consM (wg_name (wgs_consM (wg_name (wgs_consM (wg_name (wgs_consM (wg_name (wgs_consM (wg_name (wgs_nilM ?_))))))))))))
  refine ws_sA (we_op (we_var rfl (we_c rfl (wr_ixuT rfl (wg_name ?_)))))
  refine ws_seq (ws_forL (we_op (we_var rfl (we_c rfl (wr_ixuT rfl ⟨_, rfl, fun i ss' st' => st' = st ∧ ∃ y9 y10 y11 y12 : Option Val, ss' = [vD (likeD a b c H m r), vD (trueD lines told), vI a, vI b, vI c, vI H, vI m, vI r, vL (lines.map PyData.int), y9, y10, y11, y12], ⟨rfl, _, _, _, _, rfl⟩, ?_, ?_⟩)))))
  · rintro i d ss' st' hd ⟨rfl, y9, y10, y11, y12, rfl⟩
    obtain ⟨x, hx, rfl⟩ := List.mem_map.mp (List.mem_of_getElem? hd)
    obtain ⟨h1, h2, j, l, h3, h4, h5, h6, h7⟩ := hh x hx
    obtain ⟨x1, x2, x3, x4⟩ := x
    simp only at h1 h2 h3 h4 h5 h6 h7
    subst h3
    have hl : atI (lines.map PyData.int) ((j : Nat) : Int) = some (.int l) := atI_nat (by rw [List.getElem?_map, h4]; rfl)
    walk_at "s"
    walk_at "f"
    refine ⟨fun h => absurd h (by simp; omega), fun _ => ?_⟩
    walk_at "s"
    refine ⟨fun h => absurd h (by simp; omega), fun _ => ?_⟩
    refine ws_next ?_
    walk_at "f"
    refine wr_ixuL rfl hl ?_
    walk_at "s"
    refine ⟨fun h => absurd h (by simp; omega), fun _ => ?_⟩
    walk_at "s"
    refine wr_ixuL rfl hl ?_
    walk_at "s"
    refine ⟨fun h => absurd h (by simp; omega), fun _ => ?_⟩
    refine ws_next ?_
    refine ws_if ?_
    walk_at "s"
    refine ⟨fun h => ?_, fun h => ?_⟩
    · walk_at "s"
      refine wr_ixuL rfl hl ?_
      walk_at "s"
      refine ⟨fun h2 => absurd h2 (by have := h7 (of_decide_eq_true h); simp [this]), fun _ => ?_⟩
      walk_at "s"
      exact ⟨rfl, _, _, _, _, rfl⟩
    · refine ⟨fun h => (by cases h), fun _ => ?_⟩
      walk_at "s"
      exact ⟨rfl, _, _, _, _, rfl⟩
  · rintro ss' st' ⟨rfl, y9, y10, y11, y12, rfl⟩
    walk_at "s"
    exact fin_pd (by simp) q
/-! ### _law_mix -/
abbrev N__law_mix : List Str := ["purse", "things", "left", "mixed", "turn"]
theorem sc__law_mix : FnScope N__law_mix ["purse", "things"] (defScope s__law_mix) := ⟨rfl, rfl, rfl, by decide +kernel, rfl, by decide +kernel, by decide +kernel⟩
theorem ok__law_mix (c__law_draw : Cal P w K mg base 1 "_law_draw" ["purse", "many"] (spP K T 2 pre__law_draw)) (Z : Zs mg) (dd : Df K mg "_law_mix" s__law_mix) : Cal P w K mg base 2 "_law_mix" ["purse", "things"] (spP K T 2 pre__law_mix) := by
  refine dd.cal (fun f fd F => F.ok sc__law_mix (fun vs H Q E h => spP_len h) fun cdv A outer s H vs Q E hr h => ?_) (fun _ _ _ _ _ _ us hl => match us, hl with | [_, _], _ => rfl)
  have nd := sc__law_mix.nd
  have hu := room_u hr
  refine ⟨_, (pss_cons (ps_asg (pe_callTy (call_listK (K := K) rfl) (by rfl) Z.list_ boot_list (pa_cons (pv 1) pa_nil)) (pg_name (i := 2) nd rfl (.inl rfl))) (pss_cons (ps_asg (pe_lst pa_nil) (pg_name (i := 3) nd rfl (.inl rfl))) (pss_cons (ps_for PassesOwn.never rfl (pi_range1 rfl Z.range_ (pa_cons (pe_callB (call_lenK (K := K) rfl) (by rfl) Z.len PySem.boot_len (pa_cons (pv 1) pa_nil)) pa_nil)) (pg_name (i := 4) nd rfl (.inl rfl)) (pss_one (ps_expr (pe_bm PySem.F.plainAttrs_list PySem.F.slot_list_append PySem.F.type_list_append mt_append (pv 3) (pa_cons (pe_bm PySem.F.plainAttrs_list PySem.F.slot_list_pop PySem.F.type_list_pop mt_popAt (pv 2) (pa_cons (pe_callC c__law_draw (hr.mono (by decide)) (by rfl) (pa_cons (pv 0) (pa_cons (pe_callB (call_lenK (K := K) rfl) (by rfl) Z.len PySem.boot_len (pa_cons (pv 2) pa_nil)) pa_nil))) pa_nil)) pa_nil))))) (pss_one (ps_ret (pv 3)))))), fn_run h ?_⟩
  intro xs st Φ hl hp
  clear hl h hu hr nd
  try dsimp only [L2.cxOf, NdefX.ncx]
  obtain ⟨n, ks, rfl, hl, hP, q⟩ := hp
  have hn := pur_lt hP
  refine ws_sA (we_cb (wa_cons (we_var rfl (wa_nil (wc_listC rfl (wg_name ?_))))))
  refine ws_seq (ws_asg (we_lstC (wa_nil ⟨_, _, purs_nil, by simp, wg_name ?_⟩)))
  have hl2 : (st ++ [Cell.mu (ks.map PyData.int)]).length = st.length + 1 := by simp
  refine ws_seq (ws_forR1 ?_)
  walk_at "s"
  rw [List.length_map]
  refine ⟨by omega, by omega, fun i ss' st' => ∃ (left mixed : List Int) (y : Option Val), ss' = [vC n, vL (ks.map PyData.int), vC st.length, vC (st.length + 1), y] ∧ st'.length = st.length + 2 ∧ (∀ k, k < st.length → k ≠ n → st'[k]? = st[k]?) ∧ Pur st' n ∧ st'[st.length]? = some (.mu (left.map PyData.int)) ∧ st'[st.length + 1]? = some (.mu (mixed.map PyData.int)) ∧
    left.length + i = ks.length ∧ mixed.length = i ∧ (∀ x ∈ left, x ∈ ks) ∧ ∀ x ∈ mixed, x ∈ ks, ⟨ks, [], none, by rw [hl2]; rfl, by simp, fun k hk _ => by rw [List.append_assoc, List.getElem?_append_left hk], ?_, by simp, by simp, by omega, rfl, fun x h => h, fun x h => by cases h⟩, ?_, ?_⟩
  · obtain ⟨a, b, c, e⟩ := hP
    exact ⟨a, b, c, by rw [List.append_assoc]; exact get_app_l e⟩
  · rintro i ss' st' hi ⟨left, mixed, y, rfl, e1, e2, e3, e4, e5, e6, e7, e8, e9⟩
    refine wg_name ?_
    refine ws_app ?_
    refine we_var rfl ⟨_, _, rfl, e5, ?_⟩
    refine we_pop ?_
    refine we_var rfl ⟨_, _, rfl, e4, ?_⟩
    refine we_call (wa_cons (we_var rfl (wa_cons (we_cb (wa_cons (we_var rfl (wa_nil (wc_len (look_mu e4) (wa_nil ?_)))))))))
    rw [List.length_map]
    refine ⟨by rfl, n, _, rfl, by omega, by omega, e3, fun v st2 h0 h1 o2 p2 => ?_⟩
    have e4' := (o2.at_ st.length (by omega)).trans e4
    have e5' := (o2.at_ (st.length + 1) (by omega)).trans e5
    have hj : v.toNat < left.length := by omega
    refine ⟨v, _, v.toNat, .int left[v.toNat], rfl, e4', by omega, ?_, ?_, ?_⟩
    · rw [seqIndex_of h0 (by rw [List.length_map]; omega)]
    · rw [List.getElem?_map, List.getElem?_eq_getElem hj]
      rfl
    rw [map_erase]
    have hlt : st.length < st2.length := by rw [o2.len]; omega
    have e5s : (st2.set st.length (.mu ((left.eraseIdx v.toNat).map PyData.int)))[st.length + 1]? = some (.mu (mixed.map PyData.int)) := by rw [List.getElem?_set_ne (by omega)]; exact e5'
    refine ⟨_, _, _, rfl, e5s, by rw [List.length_map]; exact big_lt (by omega), ?_⟩
    refine ⟨left.eraseIdx v.toNat, mixed ++ [left[v.toNat]], _, rfl, by rw [List.length_set, List.length_set, o2.len, e1], fun k hk hkn => ?_, ?_, ?_, ?_, ?_, ?_, fun x hx => e8 x (List.mem_of_mem_eraseIdx hx), fun x hx => ?_⟩
    · rw [List.getElem?_set_ne (by omega), List.getElem?_set_ne (by omega), o2.at_ k hkn, e2 k hk hkn]
    · obtain ⟨a, b, c, e⟩ := p2
      exact ⟨a, b, c, by rw [List.getElem?_set_ne (by omega), List.getElem?_set_ne (by omega)]; exact e⟩
    · rw [List.getElem?_set_ne (by omega)]
      exact get_setSelf e4'
    · rw [List.map_append]
      exact get_setSelf e5s
    · rw [List.length_eraseIdx_of_lt hj]
      omega
    · rw [List.length_append, e7]
      rfl
    · rcases List.mem_append.mp hx with hx | hx
      · exact e9 x hx
      · rw [List.mem_singleton.mp hx]
        exact e8 _ (List.getElem_mem hj)
  · rintro ss' st' ⟨left, mixed, y, rfl, e1, e2, e3, e4, e5, e6, e7, e8, e9⟩
    refine ws_ret (we_pur (we_var rfl ⟨_, _, (by simp only [pur, e5]; rfl), ?_⟩))
    refine .inl (q _ mixed (by rw [e7]; omega) e9 ⟨by rw [List.length_set, e1]; omega, fun k hk hkn => ?_⟩ ?_)
    · rw [List.getElem?_set_ne (by omega), e2 k hk hkn]
    · obtain ⟨a, b, c, e⟩ := e3
      exact ⟨a, b, c, by rw [List.getElem?_set_ne (by omega)]; exact e⟩
/-! ### _law_newly_all -/
abbrev N__law_newly_all : List Str := ["world", "found", "j", "first", "row", "t"]
theorem sc__law_newly_all : FnScope N__law_newly_all ["world"] (defScope s__law_newly_all) := ⟨rfl, rfl, rfl, by decide +kernel, rfl, by decide +kernel, by decide +kernel⟩
theorem ok__law_newly_all (c__law_first_tell : Cal P w K mg base 1 "_law_first_tell" ["world", "mark"] (spP K T 2 pre__law_first_tell)) (Z : Zs mg) (dd : Df K mg "_law_newly_all" s__law_newly_all) : Cal P w K mg base 2 "_law_newly_all" ["world"] (spP K T 1 pre__law_newly_all) := by
  refine dd.cal (fun f fd F => F.ok sc__law_newly_all (fun vs H Q E h => spP_len h) fun cdv A outer s H vs Q E hr h => ?_) (fun _ _ _ _ _ _ us hl => match us, hl with | [_], _ => rfl)
  have nd := sc__law_newly_all.nd
  have hu := room_u hr
  refine ⟨_, (pss_cons (ps_setLc (i := 1) (own := [("t", 5)]) (g := gName 5) (tt := tYes) rfl nd rfl rfl (sw_true rfl rfl rfl (by decide +kernel)) (pi_range1 rfl Z.range_ (pa_cons (pe_op (op_addK (K := K) rfl) (pe_callB (call_lenK (K := K) rfl) (by rfl) Z.len PySem.boot_len (pa_cons (pe_ix (ix_seqK (K := K) rfl) (pv 0) pe_int (fun _ _ => rfl)) pa_nil)) pe_int) pa_nil)) (blkOk_by (N := N__law_newly_all) (sc := defScope s__law_newly_all) (by decide +kernel)) (fun _ _ _ _ _ => (pg_name (i := 5) nd rfl (.inl rfl))) (fun _ _ _ _ _ => pts_nil) (fun _ _ _ _ _ => (pe_lst pa_nil))) (pss_cons (ps_for PassesOwn.never rfl (pi_range2 rfl Z.range_ (pa_cons pe_int (pa_cons (pe_op (op_addK (K := K) rfl) (pe_callB (call_lenK (K := K) rfl) (by rfl) Z.len PySem.boot_len (pa_cons (pe_ix (ix_seqK (K := K) rfl) (pv 0) pe_int (fun _ _ => rfl)) pa_nil)) pe_int) pa_nil))) (pg_name (i := 2) nd rfl (.inl rfl)) (pss_cons (ps_asg (pe_callC c__law_first_tell (hr.mono (by decide)) (by rfl) (pa_cons (pv 0) (pa_cons (pv 2) pa_nil))) (pg_name (i := 3) nd rfl (.inl rfl))) (pss_one (ps_if (pt_cmpR op_notN (pv 3) pe_non (nomark _)) (pss_cons (ps_asg (pe_ix (ix_seqK (K := K) rfl) (pv 1) (pv 3) (fun _ _ => rfl)) (pg_name (i := 4) nd rfl (.inl rfl))) (pss_one (ps_expr (pe_bm PySem.F.plainAttrs_list PySem.F.slot_list_append PySem.F.type_list_append mt_append (pv 4) (pa_cons (pv 2) pa_nil))))) pss_nil)))) (pss_one (ps_ret (pv 1))))), fn_run h ?_⟩
  intro xs st Φ hl hp
  clear hl h hu hr nd
  try dsimp only [L2.cxOf, NdefX.ncx]
  obtain ⟨p, rfl, ok, q⟩ := hp
  have hN := ok.sn
  refine ws_seq (ws_asg (we_lcR1M (gw_name (by simp)) ?_))
  walk_at "s"
  rw [List.length_map]
  refine ⟨by omega, by omega, fun i st' => st' = st ++ (.ml ((List.range i).map fun t => Val.cell (st.length + 1 + t)) :: (List.range i).map fun _ => .mu []), by simp, ?_, ?_⟩
  · rintro i st' hi rfl
    walk_at "s"
    refine ⟨fun _ => ?_, fun h => (by cases h)⟩
    refine we_lstC (wa_nil ⟨_, _, purs_nil, by simp, ?_⟩)
    refine ⟨_, get_app_l get_end, by simp; exact big_lt (by omega), ?_⟩
    rw [set_app get_end, set_end]
    show (_ : Sto) = _
    simp [List.range_succ]
    omega
  · rintro st' rfl
    rw [show ((p.ss.length : Int) + 1).toNat = p.ss.length + 1 by omega]
    refine wg_name ?_
    refine ws_seq (ws_forR2 ?_)
    walk_at "s"
    rw [List.length_map]
    refine ⟨_, _, rfl, by omega, fun i ss' st' => st' = ndSto st (p.ss.length + 1) (fun t => (rowsTo p i (t : Int)).map PyData.int) ∧ ∃ y2 y3 y4 : Option Val, ss' = [vD (worldD p), vC st.length, y2, y3, y4, none], ⟨rfl, none, none, none, rfl⟩, ?_, ?_⟩
    · rintro i ss' st' hi ⟨rfl, y2, y3, y4, rfl⟩
      have hi : i < p.ss.length := by omega
      walk_at "s"
      refine ⟨by rfl, p, _, rfl, ok.srt, (by have := ok.tn; omega), ?_⟩
      walk_at "s"
      have hb := fun t (h : firstTell p.ts (1 + (i : Int)) = some t) => firstTell_bd ok h
      have hr := fun (t : Nat) => rowsTo_succ p i (t : Int)
      generalize firstTell p.ts (1 + (i : Int)) = ft at hb hr ⊢
      cases ft with
      | none =>
        walk_at "s"
        refine ⟨fun h => (by cases h), fun _ => ?_⟩
        refine ws_next ⟨?_, _, _, _, rfl⟩
        congr 1
        funext t
        rw [hr t]
        simp
      | some t =>
        obtain ⟨b1, b2, b3⟩ := hb t rfl
        obtain ⟨u, rfl⟩ : ∃ u : Nat, t = (u : Int) := ⟨t.toNat, by omega⟩
        have hu : u < p.ss.length + 1 := by omega
        walk_at "s"
        refine ⟨fun _ => ?_, fun h => (by cases h)⟩
        refine ws_sA (we_op (we_var rfl (we_var rfl (wr_ixM nd_top (y := .cell (st.length + 1 + u)) (atI_nat (by rw [List.getElem?_map, List.getElem?_range hu]; rfl)) (wg_name ?_)))))
        refine ws_app ?_
        refine we_var rfl ⟨_, _, rfl, nd_at hu, ?_⟩
        walk_at "s"
        refine ⟨_, _, _, rfl, nd_at hu, ?_, ?_⟩
        · rw [List.length_map]
          refine big_lt (Nat.lt_of_le_of_lt (List.length_filter_le _ _) ?_)
          simp
          omega
        rw [nd_set hu]
        refine ⟨?_, _, _, _, rfl⟩
        congr 1
        funext t
        rw [hr t]
        by_cases ht : t = u
        · subst ht
          simp
        · rw [if_neg ht, if_neg (by intro z; injection z with z; omega)]
          simp
    · rintro ss' st' ⟨rfl, y2, y3, y4, rfl⟩
      rw [show ((p.ss.length : Int) + 1 - 1).toNat = p.ss.length by omega]
      refine ws_ret (we_purM (we_var rfl ?_))
      have e := nd_purs (g := fun t => (rowsTo p p.ss.length (t : Int)).map PyData.int) (p.ss.length + 1) (st ++ [.ml ((List.range (p.ss.length + 1)).map fun t => Val.cell (st.length + 1 + t))]) []
      have hl : (st ++ [Cell.ml ((List.range (p.ss.length + 1)).map fun t => Val.cell (st.length + 1 + t))]).length = st.length + 1 := by simp
      rw [hl, List.append_nil, List.append_nil, ← List.range_eq_range'] at e
      refine ⟨_, _, _, _, rfl, nd_top, (by unfold ndSto; rw [List.append_assoc] at e; exact e), ?_, ?_⟩
      · rw [List.append_assoc]
        exact get_end
      · refine fin_pd ?_ q
        rw [List.append_assoc]
        simp
/-! ### Play___init__ -/
abbrev N_Play___init__ : List Str := ["self", "plan", "house", "begin_part"]
theorem sc_Play___init__ : FnScope N_Play___init__ ["self", "plan", "house"] (defScope s_Play___init__) := ⟨rfl, rfl, rfl, by decide +kernel, rfl, by decide +kernel, by decide +kernel⟩
theorem ok_Play___init__ (c_Plan_start : CalM P w K mg base 1 C_Plan "start" ["self"] (spP K T 1 (pre_Plan_start K C_Plan))) (Z : Zs mg) (h_Play : Cls K C_Play) (h_Plan : Cls K C_Plan) (na_Play : ∀ f ∈ fl_Play, NoAttr K C_Play f) (na_Plan : ∀ f ∈ fl_Plan, NoAttr K C_Plan f) (dd : Di K mg "Play" C_Play "Play.__init__" s_Play___init__) : CalI P w K mg base 4 "Play" C_Play ["self", "plan", "house"] (spP K T 3 (pre_Play___init__ P w K mg base T C_Plan C_Play)) := by
  refine dd.cal (fun f fd F => F.ok sc_Play___init__ (fun vs H Q E h => spP_len h) fun cdv A outer s H vs Q E hr h => ?_) (fun _ _ _ _ _ _ us hl => match us, hl with | [_, _, _], _ => rfl)
  have nd := sc_Play___init__.nd
  have hu := room_u hr
  refine ⟨_, (pss_cons (ps_asg (pe_ix (ix_seqK (K := K) rfl) (pv 2) pe_int (fun _ _ => rfl)) (pg_name (i := 3) nd rfl (.inl rfl))) (pss_cons (ps_fld (pv 0) (pv 1) rfl) (pss_cons (ps_fld (pv 0) (pe_callTy (call_listK (K := K) rfl) (by rfl) Z.list_ boot_list (pa_cons (pv 2) pa_nil)) rfl) (pss_cons (ps_fld (pv 0) (pe_callV (k := kClo) (hr.mono (by decide)) (pv 3) (pa_cons (pv 1) pa_nil)) rfl) (pss_cons (ps_fld (pv 0) (pe_lst (pa_cons (pe_methC0 c_Plan_start h_Plan (hr.mono (by decide)) (pv 1)) pa_nil)) rfl) (pss_one (ps_fld (pv 0) (pe_lst pa_nil) rfl))))))), fn_run h ?_⟩
  intro xs st Φ hl hp
  clear hl h hu hr nd
  try dsimp only [L2.cxOf, NdefX.ncx]
  obtain ⟨hs, st0, h, p, f0, f1, f2, rfl, rfl, eh, HV, q⟩ := hp
  have hl0 : h < st0.length := (List.getElem?_eq_some_iff.mp eh).1
  refine ws_sA (we_op (we_var rfl (we_c rfl (wr_ixM (get_app_l eh) (y := f0) rfl (wg_name ?_)))))
  refine ws_sF (ws_fld (we_var rfl (we_var rfl ⟨_, _, _, rfl, get_end, h_Play, na_Play _ (by decide), by walk_at "n", ?_⟩)))
  rw [set_end]
  refine ws_sF (ws_fld (we_cb (wa_cons (we_var rfl (wa_nil (wc_listM (get_app_l eh) (we_var rfl ⟨_, _, _, rfl, get_app_l get_end, h_Play, na_Play _ (by decide), by walk_at "n", ?_⟩)))))))
  rw [set_app get_end, set_end]
  refine ws_sF (ws_fld (we_callF (qB hs.b (planO K C_Plan p)) (we_var rfl ⟨HV.b, wa_cons (we_var rfl (wa_nil ⟨allP_cons (planO_plain _ _ _) allP_nil, rfl, rfl, trivial, we_var rfl ⟨_, _, _, rfl, get_app_l get_end, h_Play, na_Play _ (by decide), by walk_at "n", ?_⟩⟩))⟩)))
  rw [set_app get_end, set_end]
  refine ws_sF (ws_fld (we_lstC (wa_cons (we_meth (we_var rfl ⟨_, .ob, rfl, wa_nil ⟨by rfl, p, rfl, wa_nil ⟨_, _, purs_cons purs_nil, big_le (by simp), we_var rfl ⟨_, _, _, rfl, get_app_l (get_app_l get_end), h_Play, na_Play _ (by decide), by walk_at "n", ?_⟩⟩⟩⟩)))))
  rw [set_app (get_app_l get_end), set_app get_end, set_end]
  refine ws_fld (we_lstC (wa_nil ⟨_, _, purs_nil, by simp, we_var rfl ⟨_, _, _, rfl, get_app_l (get_app_l (get_app_l get_end)), h_Play, na_Play _ (by decide), by walk_at "n", ?_⟩⟩))
  rw [set_app (get_app_l (get_app_l get_end)), set_app (get_app_l get_end), set_app get_end, set_end]
  refine .inl (q _ (st0.length + 1) (st0.length + 2) (st0.length + 3) ⟨get_app_l (get_app_l (get_app_l ?_)), ?_, ?_, ?_, by omega, ?_, Nat.le_refl _, by omega, by omega⟩)
  · have e : ∀ (a b c : Nat), a = st0.length + 1 → b = st0.length + 2 → c = st0.length + 3 → (st0 ++ [Cell.ins C_Play (putG "range_rows" (.cell c) (putG "line_rows" (.cell b) (putG "state_now" (.pd hs.b) (putG "house_parts" (.cell a) (putG "plan_played" (planO K C_Plan p) [])))))])[st0.length]? = some (.ins C_Play (playF K C_Plan p (st0.length + 1) (st0.length + 2) (st0.length + 3) hs.b)) := by
      rintro a b c rfl rfl rfl
      exact get_end
    exact e _ _ _ (by simp) (by simp) (by simp)
  · simp
  · simp
  · simp
  · simp
/-! ### Play_asks -/
abbrev N_Play_asks : List Str := ["self", "t", "tell_part", "mark", "first", "last"]
theorem sc_Play_asks : FnScope N_Play_asks ["self", "t"] (defScope s_Play_asks) := ⟨rfl, rfl, rfl, by decide +kernel, rfl, by decide +kernel, by decide +kernel⟩
theorem ok_Play_asks (c_Plan_told_marks : CalM P w K mg base 2 C_Plan "told_marks" ["self", "t"] (spP K T 2 (pre_Plan_told_marks K C_Plan))) (c_is_range : Cal P w K mg base 2 "is_range" ["plan", "first", "last"] (spP K T 3 (pre_is_range K C_Plan))) (h_Plan : Cls K C_Plan) (h_Play : Cls K C_Play) (na_Plan : ∀ f ∈ fl_Plan, NoAttr K C_Plan f) (na_Play : ∀ f ∈ fl_Play, NoAttr K C_Play f) (dd : Dm K C_Play "asks" "Play.asks" s_Play_asks) : CalM P w K mg base 4 C_Play "asks" ["self", "t"] (spP K T 2 (pre_Play_asks P w K mg base T C_Plan C_Play)) := by
  refine dd.cal (fun f fd F => F.ok sc_Play_asks (fun vs H Q E h => spP_len h) fun cdv A outer s H vs Q E hr h => ?_) (fun _ _ _ _ _ _ us hl => match us, hl with | [_, _], _ => rfl)
  have nd := sc_Play_asks.nd
  have hu := room_u hr
  refine ⟨_, (pss_cons (ps_asg (pe_ix (ix_seqK (K := K) rfl) (pe_fld (pv 0) rfl) pe_int (fun _ _ => rfl)) (pg_name (i := 2) nd rfl (.inl rfl))) (pss_cons (ps_for PassesOwn.never rfl (pi_list (pe_methC c_Plan_told_marks h_Plan (hr.mono (by decide)) (pe_fld (pv 0) rfl) (pa_cons (pv 1) pa_nil))) (pg_name (i := 3) nd rfl (.inl rfl)) (pss_cons (ps_asg (pe_callV (k := kClo) (hr.mono (by decide)) (pv 2) (pa_cons (pe_fld (pv 0) rfl) (pa_cons (pv 1) (pa_cons (pe_ix (ix_seqK (K := K) rfl) (pe_fld (pv 0) rfl) (pv 1) (fun _ _ => rfl)) (pa_cons (pv 3) pa_nil))))) (pg_or (pg_tup (n := 3) rfl (pgs_cons (pg_fld (pv 0) (fun _ => rfl)) (pgs_cons (pg_name (i := 4) nd rfl (.inl rfl)) (pgs_cons (pg_name (i := 5) nd rfl (.inl rfl)) pgs_nil)))) (pg_unl (n := 3) rfl (pgs_cons (pg_fld (pv 0) (fun _ => rfl)) (pgs_cons (pg_name (i := 4) nd rfl (.inl rfl)) (pgs_cons (pg_name (i := 5) nd rfl (.inl rfl)) pgs_nil)))))) (pss_cons (ps_if (pt_not (pt_val (pe_callC c_is_range (hr.mono (by decide)) (by rfl) (pa_cons (pe_fld (pv 0) rfl) (pa_cons (pv 4) (pa_cons (pv 5) pa_nil)))))) (pss_one (ps_ret (pe_tup (pa_cons pe_str (pa_cons (pv 1) (pa_cons (pv 3) pa_nil)))))) pss_nil) (pss_one (ps_expr (pe_bm PySem.F.plainAttrs_list PySem.F.slot_list_append PySem.F.type_list_append mt_append (pe_fld (pv 0) rfl) (pa_cons (pe_tup (pa_cons (pv 1) (pa_cons (pv 3) (pa_cons (pv 4) (pa_cons (pv 5) pa_nil))))) pa_nil))))))) (pss_one (ps_ret pe_non)))), fn_run h ?_⟩
  intro xs st Φ hl hp
  clear hl h hu hr nd
  try dsimp only [L2.cxOf, NdefX.ncx]
  obtain ⟨hs, st0, n, nh, nl, nr, p, f0, f1, f2, s, lines, told, t, line, res, rfl, R, HV, ok, ht, hline, htl, hres, q1, q2⟩ := hp
  have hN := ok.sn
  have hml := marks_len p t
  refine ws_sA (we_op (we_fld (we_var rfl ⟨_, _, _, .cell R.e1, h_Play, na_Play _ (by decide), rfl, we_c rfl (wr_ixM R.e2 (y := f1) rfl (wg_name ?_))⟩)))
  refine ws_seq (ws_forL (we_meth (we_fld (we_var rfl ⟨_, _, _, .cell R.e1, h_Play, na_Play _ (by decide), rfl, _, .ob, rfl, wa_cons (we_var rfl (wa_nil ⟨by rfl, p, _, rfl, ⟨by omega, by omega⟩, fun x hx => ⟨(ok.tel x hx).1, (ok.tel x hx).2.1⟩, by omega, ?_⟩))⟩))))
  refine ⟨_, rfl, fun i ss' st' => ∃ (s' : PyData) (told' : List Rng) (y3 y4 y5 : Option Val), PlayR K C_Plan C_Play st0 st' n nh nl nr p f0 f1 f2 s' lines told' ∧ tellsG hs p.r t line ((marksAt p t).drop i) s' told' = some res ∧ told'.length ≤ 100 * t + i ∧ ss' = [vC n, vI t, some f1, y3, y4, y5], ⟨s, told, none, none, none, R, hres, htl, rfl⟩, ?_, ?_⟩
  · rintro i d ss' st' hd ⟨s', told', y3, y4, y5, R, hr, hl, rfl⟩
    obtain ⟨j, hj, rfl⟩ : ∃ j, (marksAt p t)[i]? = some j ∧ d = .int j := by
      rw [List.getElem?_map] at hd
      cases e : (marksAt p t)[i]? with
      | none => rw [e] at hd; cases hd
      | some x => rw [e] at hd; exact ⟨x, rfl, (Option.some.inj hd).symm⟩
    obtain ⟨hi, e⟩ := List.getElem?_eq_some_iff.mp hj
    rw [List.drop_eq_getElem_cons hi, e] at hr
    unfold tellsG at hr
    split at hr
    · cases hr
    rename_i s2 f l hst
    have hx : atI (lines.map PyData.int) ((t : Nat) : Int) = some (.int line) := atI_nat (by rw [List.getElem?_map, hline]; rfl)
    refine wg_name ?_
    refine ws_sA (we_callF (qT hs) (we_var rfl ⟨HV.t, ?_⟩))
    refine wa_cons (we_fld (we_var rfl ⟨_, _, _, .cell R.e1, h_Play, na_Play _ (by decide), rfl, ?_⟩))
    refine wa_cons (we_var rfl ?_)
    refine wa_cons (we_op (we_fld (we_var rfl ⟨_, _, _, .cell R.e1, h_Play, na_Play _ (by decide), rfl, ?_⟩)))
    refine we_var rfl (wr_ixuL (look_mu R.e3) hx ?_)
    refine wa_cons (we_var rfl (wa_nil ?_))
    refine ⟨allP_cons trivial (allP_cons trivial (allP_cons trivial (allP_cons trivial allP_nil))), rfl, s', _, _, _, s2, f, l, rfl, hst, trivial, ?_⟩
    refine wg_orT rfl (wgs_consM (wg_fld (we_var rfl ⟨_, _, _, rfl, R.e1, h_Play, na_Play _ (by decide), by simp, ?_⟩)))
    have R2 : PlayR K C_Plan C_Play st0 (st'.set n (.ins C_Play (putG "state_now" (.pd s2) (playF K C_Plan p nh nl nr s')))) n nh nl nr p f0 f1 f2 s2 lines told' := R.setS s2
    generalize st'.set n (.ins C_Play (putG "state_now" (.pd s2) (playF K C_Plan p nh nl nr s'))) = st2 at R2 ⊢
    refine wgs_consM (wg_name (wgs_consM (wg_name (wgs_nilM ?_))))
    refine ws_seq (ws_if (wt_not (wt_B (we_call ?_))))
    refine wa_cons (we_fld (we_var rfl ⟨_, _, _, .cell R2.e1, h_Play, na_Play _ (by decide), rfl, ?_⟩))
    refine wa_cons (we_var rfl (wa_cons (we_var rfl (wa_nil ⟨by rfl, p, f, l, rfl, ?_⟩))))
    refine ⟨_, rfl, fun h => ?_, fun h => ?_⟩
    · have h : rightR p.r f l = false := by simpa using h
      rw [h] at hr
      cases hr
      walk_at "s"
      exact .inl (q1 _ rfl _ R2.tk)
    · have h : rightR p.r f l = true := by simpa using h
      rw [if_pos h] at hr
      refine ws_next ?_
      refine ws_app ?_
      refine we_fld (we_var rfl ⟨_, _, _, .cell R2.e1, h_Play, na_Play _ (by decide), rfl, _, _, rfl, R2.e4, ?_⟩)
      walk_at "s"
      refine ⟨_, _, _, rfl, R2.e4, by rw [List.length_map]; exact big_lt (by omega), ?_⟩
      refine ⟨s2, told' ++ [((t : Int), j, f, l)], _, _, _, ?_, hr, by rw [List.length_append]; simp; omega, rfl⟩
      have := R2.setT (told' ++ [((t : Int), j, f, l)])
      rw [List.map_append] at this
      exact this
  · rintro ss' st' ⟨s', told', y3, y4, y5, R, hr, hl, rfl⟩
    rw [List.length_map, List.drop_length] at hr
    cases hr
    walk_at "s"
    exact .inl (q2 _ _ rfl _ R)
/-! ### Play_passes -/
abbrev N_Play_passes : List Str := ["self", "k", "lines", "set_part", "pad", "line", "cell", "i", "j", "first", "last"]
theorem sc_Play_passes : FnScope N_Play_passes ["self", "k", "lines"] (defScope s_Play_passes) := ⟨rfl, rfl, rfl, by decide +kernel, rfl, by decide +kernel, by decide +kernel⟩
theorem ok_Play_passes (c_Play_asks : CalM P w K mg base 4 C_Play "asks" ["self", "t"] (spP K T 2 (pre_Play_asks P w K mg base T C_Plan C_Play))) (c_Plan_cell : CalM P w K mg base 1 C_Plan "cell" ["self", "line"] (spP K T 2 (pre_Plan_cell K C_Plan))) (c_Plan_section : CalM P w K mg base 1 C_Plan "section" ["self", "k"] (spP K T 2 (pre_Plan_section K C_Plan))) (c_is_whole : Cal P w K mg base 1 "is_whole" ["value"] (spP K T 1 pre_is_whole)) (h_Play : Cls K C_Play) (h_Plan : Cls K C_Plan) (na_Play : ∀ f ∈ fl_Play, NoAttr K C_Play f) (na_Plan : ∀ f ∈ fl_Plan, NoAttr K C_Plan f) (dd : Dm K C_Play "passes" "Play.passes" s_Play_passes) : CalM P w K mg base 5 C_Play "passes" ["self", "k", "lines"] (spP K T 3 (pre_Play_passes P w K mg base T C_Plan C_Play)) := by
  refine dd.cal (fun f fd F => F.ok sc_Play_passes (fun vs H Q E h => spP_len h) fun cdv A outer s H vs Q E hr h => ?_) (fun _ _ _ _ _ _ us hl => match us, hl with | [_, _, _], _ => rfl)
  have nd := sc_Play_passes.nd
  have hu := room_u hr
  refine ⟨_, (pss_cons (ps_asg (pe_ix (ix_seqK (K := K) rfl) (pe_fld (pv 0) rfl) pe_int (fun _ _ => rfl)) (pg_name (i := 3) nd rfl (.inl rfl))) (pss_cons (ps_asg (pe_callV (k := kClo) (hr.mono (by decide)) (pv 3) (pa_cons (pe_fld (pv 0) rfl) (pa_cons (pv 1) (pa_cons (pv 2) pa_nil)))) (pg_or (pg_tup (n := 2) rfl (pgs_cons (pg_fld (pv 0) (fun _ => rfl)) (pgs_cons (pg_name (i := 4) nd rfl (.inl rfl)) pgs_nil))) (pg_unl (n := 2) rfl (pgs_cons (pg_fld (pv 0) (fun _ => rfl)) (pgs_cons (pg_name (i := 4) nd rfl (.inl rfl)) pgs_nil))))) (pss_cons (ps_if (PW.pt (pw_or (pt_not (pt_val (pe_callC c_is_whole (hr.mono (by decide)) (by rfl) (pa_cons (pv 4) pa_nil)))) (pw_or1 (pt_not (pt_chain op_le op_le pe_int (pv 4) (pe_ix (ix_seqK (K := K) rfl) (pe_methC c_Plan_section h_Plan (hr.mono (by decide)) (pe_fld (pv 0) rfl) (pa_cons (pv 1) pa_nil)) pe_int (fun _ _ => rfl))))))) (pss_one (ps_ret (pe_tup (pa_cons pe_str (pa_cons (pv 1) pa_nil))))) pss_nil) (pss_cons (ps_asg (pe_op (op_addK (K := K) rfl) (pe_op (op_addK (K := K) rfl) (pe_ix (ix_seqK (K := K) rfl) (pe_fld (pv 0) rfl) (pe_op op_sub (pv 1) pe_int) (fun _ _ => rfl)) (pv 2)) (pv 4)) (pg_name (i := 5) nd rfl (.inl rfl))) (pss_cons (ps_expr (pe_bm PySem.F.plainAttrs_list PySem.F.slot_list_append PySem.F.type_list_append mt_append (pe_fld (pv 0) rfl) (pa_cons (pv 5) pa_nil))) (pss_cons (ps_asg (pe_methC c_Plan_cell h_Plan (hr.mono (by decide)) (pe_fld (pv 0) rfl) (pa_cons (pv 5) pa_nil)) (pg_name (i := 6) nd rfl (.inl rfl))) (pss_cons (ps_for PassesOwn.never rfl (pi_list (pe_fld (pv 0) rfl)) (pg_tup (n := 4) rfl (pgs_cons (pg_name (i := 7) nd rfl (.inl rfl)) (pgs_cons (pg_name (i := 8) nd rfl (.inl rfl)) (pgs_cons (pg_name (i := 9) nd rfl (.inl rfl)) (pgs_cons (pg_name (i := 10) nd rfl (.inl rfl)) pgs_nil))))) (pss_one (ps_if (PW.pt (pw_and (pt_cmpR (op_eqK (K := K) rfl hu) (pv 8) (pv 1) (nomark _)) (pw_and1 (pt_not (pt_chain op_le op_le (pv 9) (pv 6) (pv 10)))))) (pss_one (ps_ret (pe_tup (pa_cons pe_str (pa_cons (pv 1) (pa_cons (pv 9) (pa_cons (pv 10) (pa_cons (pv 6) pa_nil)))))))) pss_nil))) (pss_one (ps_ret (pe_methC c_Play_asks h_Play (hr.mono (by decide)) (pv 0) (pa_cons (pv 1) pa_nil))))))))))), fn_run h ?_⟩
  intro xs st Φ hl hp
  clear hl h hu hr nd
  try dsimp only [L2.cxOf, NdefX.ncx]
  obtain ⟨hs, st0, n, nh, nl, nr, p, f0, f1, f2, s, lines, told, t, line, L, x, res, rfl, R, HV, ok, hx, hline, hll, h0, hL0, htl, hres, q1, q2⟩ := hp
  have hN := ok.sn
  have ht := (List.getElem?_eq_some_iff.mp hx).1
  unfold stepG at hres
  split at hres
  · cases hres
  rename_i s2 pad hset
  refine ws_sA (we_op (we_fld (we_var rfl ⟨_, _, _, .cell R.e1, h_Play, na_Play _ (by decide), rfl, we_c rfl (wr_ixM R.e2 (y := f2) rfl (wg_name ?_))⟩)))
  refine ws_sA (we_callF (qS hs) (we_var rfl ⟨HV.s, wa_cons (we_fld (we_var rfl ⟨_, _, _, .cell R.e1, h_Play, na_Play _ (by decide), rfl, wa_cons (we_var rfl (wa_cons (we_var rfl (wa_nil ?_))))⟩))⟩))
  refine ⟨allP_cons trivial (allP_cons trivial (allP_cons trivial allP_nil)), rfl, s, _, _, s2, pad, rfl, hset, trivial, ?_⟩
  refine wg_orT rfl (wgs_consM (wg_fld (we_var rfl ⟨_, _, _, rfl, R.e1, h_Play, na_Play _ (by decide), by simp, ?_⟩)))
  have R2 : PlayR K C_Plan C_Play st0 (st.set n (.ins C_Play (putG "state_now" (.pd s2) (playF K C_Plan p nh nl nr s)))) n nh nl nr p f0 f1 f2 s2 lines told := R.setS s2
  generalize st.set n (.ins C_Play (putG "state_now" (.pd s2) (playF K C_Plan p nh nl nr s))) = st2 at R2 ⊢
  refine wgs_consM (wg_name (wgs_nilM ?_))
  have hpad : ¬ (0 ≤ pad ∧ pad ≤ x.2.2) → Ct.Fin st Φ (.pd (padD ((t : Int) + 1))) st2 := fun h => by
    rw [if_pos h] at hres
    cases hres
    exact .inl (q1 _ rfl _ R2.tk)
  refine ws_seq (ws_if ?_)
  walk_at "s"
  refine ⟨by rfl, _, rfl, ⟨_, rfl⟩, ?_⟩
  refine ⟨_, rfl, fun h => (by cases h), fun _ => ?_⟩
  walk_at "s"
  refine ⟨fun h => ?_, fun h => ⟨_, rfl, fun _ => ?_, fun h2 => (by cases h2)⟩⟩
  case refine_2 =>
    walk_at "s"
    exact hpad fun z => of_decide_eq_false h z.1
  refine we_op (we_meth (we_fld (we_var rfl ⟨_, _, _, .cell R2.e1, h_Play, na_Play _ (by decide), rfl, _, .ob, rfl, wa_cons (we_var rfl (wa_nil ⟨by rfl, p, t, x, (by rw [Int.add_comm]), hx, ?_⟩))⟩)))
  refine we_c rfl (wr_ixuT (d := .int x.2.2) rfl ?_)
  walk_at "s"
  refine ⟨fun h2 => ?_, fun h2 => ?_⟩
  · walk_at "s"
    exact hpad fun z => (by have := z.2; simp at h2; omega)
  have h1 := of_decide_eq_true h
  have h2 : pad ≤ x.2.2 := by simpa using h2
  rw [if_neg (fun z => z ⟨h1, h2⟩)] at hres
  clear hpad
  refine ws_next ?_
  have hxl : atI (lines.map PyData.int) ((t : Int) + 1 - 1) = some (.int line) := by
    rw [show (t : Int) + 1 - 1 = ((t : Nat) : Int) by omega]
    exact atI_nat (by rw [List.getElem?_map, hline]; rfl)
  refine ws_sA (we_op (we_op (we_op (we_fld (we_var rfl ⟨_, _, _, .cell R2.e1, h_Play, na_Play _ (by decide), rfl, we_op (we_var rfl (we_c rfl (wr_sub (wr_ixuL (look_mu R2.e3) hxl (we_var rfl (wr_addI (we_var rfl (wr_addI (wg_name ?_)))))))))⟩)))))
  rw [Int.add_assoc]
  generalize hl' : line + (L + pad) = line' at hres ⊢
  refine ws_seq (ws_app ?_)
  refine we_fld (we_var rfl ⟨_, _, _, .cell R2.e1, h_Play, na_Play _ (by decide), rfl, _, _, rfl, R2.e3, ?_⟩)
  refine we_var rfl ⟨_, _, _, rfl, R2.e3, by rw [List.length_map]; exact big_lt (by omega), ?_⟩
  have R3 : PlayR K C_Plan C_Play st0 (st2.set nl (.mu (lines.map PyData.int ++ [.int line']))) n nh nl nr p f0 f1 f2 s2 (lines ++ [line']) told := by
    have := R2.setL (lines ++ [line'])
    rw [List.map_append] at this
    exact this
  generalize st2.set nl (.mu (lines.map PyData.int ++ [.int line'])) = st3 at R3 ⊢
  refine ws_sA (we_meth (we_fld (we_var rfl ⟨_, _, _, .cell R3.e1, h_Play, na_Play _ (by decide), rfl, _, .ob, rfl, wa_cons (we_var rfl (wa_nil ⟨by rfl, p, line', rfl, by omega, ok.H1, ok.H2, wg_name ?_⟩))⟩)))
  generalize hc : line' / p.H + 1 = cell at hres ⊢
  refine ws_seq (ws_forC (we_fld (we_var rfl ⟨_, _, _, .cell R3.e1, h_Play, na_Play _ (by decide), rfl, ?_⟩)))
  refine ⟨nr, _, rfl, R3.e4, fun i ss' st' => st' = st3 ∧ wrongIn ((t : Int) + 1) cell told = wrongIn ((t : Int) + 1) cell (told.drop i) ∧ ∃ y7 y8 y9 y10 : Option Val, ss' = [vC n, vI ((t : Int) + 1), vI L, some f2, vI pad, vI line', vI cell, y7, y8, y9, y10], ⟨rfl, rfl, none, none, none, none, rfl⟩, ?_, ?_, ?_⟩
  · rintro i ss' st' ⟨rfl, _⟩
    exact R3.e4
  · rintro vs i d ss' st' hd ⟨rfl, hw, y7, y8, y9, y10, rfl⟩
    obtain ⟨y, hy, rfl⟩ : ∃ y, told[i]? = some y ∧ d = rngD y := by
      rw [List.getElem?_map] at hd
      cases e : told[i]? with
      | none => rw [e] at hd; cases hd
      | some x => rw [e] at hd; exact ⟨x, rfl, (Option.some.inj hd).symm⟩
    obtain ⟨hi, e⟩ := List.getElem?_eq_some_iff.mp hy
    rw [List.drop_eq_getElem_cons hi, e] at hw
    unfold wrongIn at hw
    rw [List.find?_cons] at hw
    obtain ⟨a, b, f, l⟩ := y
    have ep := get_setSelf (c' := .pin vs (told.map rngD)) R3.e4
    have back : (st'.set nr (.pin vs (told.map rngD))).set nr (.mu (told.map rngD)) = st' := by rw [List.set_set]; exact set_id R3.e4
    have go : ¬ (b = (t : Int) + 1 ∧ ¬ (f ≤ cell ∧ cell ≤ l)) → (st'.set nr (.pin vs (told.map rngD)))[nr]? = some (.pin vs (told.map rngD)) ∧ ((st'.set nr (.pin vs (told.map rngD))).set nr (.mu (told.map rngD)) = st' ∧ wrongIn ((t : Int) + 1) cell told = wrongIn ((t : Int) + 1) cell (told.drop (i + 1)) ∧ ∃ y7 y8 y9 y10 : Option Val, [vC n, vI ((t : Int) + 1), vI L, some f2, vI pad, vI line', vI cell, vI a, vI b, vI f, vI l] = [vC n, vI ((t : Int) + 1), vI L, some f2, vI pad, vI line', vI cell, y7, y8, y9, y10]) := fun hn => by
      refine ⟨ep, back, ?_, _, _, _, _, rfl⟩
      unfold wrongIn
      rw [hw, decide_eq_false hn]
    have bad : (b = (t : Int) + 1 ∧ ¬ (f ≤ cell ∧ cell ≤ l)) → (st'.set nr (.pin vs (told.map rngD)))[nr]? = some (.pin vs (told.map rngD)) ∧ Ct.Fin st Φ (.pd (falseD ((t : Int) + 1) f l cell)) ((st'.set nr (.pin vs (told.map rngD))).set nr (.mu (told.map rngD))) := fun hy => by
      refine ⟨ep, ?_⟩
      rw [back]
      have hw : wrongIn ((t : Int) + 1) cell told = some (a, b, f, l) := by
        unfold wrongIn
        rw [hw, decide_eq_true hy]
      rw [hw] at hres
      cases hres
      exact .inl (q1 _ rfl _ R3.tk)
    walk_at "s"
    refine ⟨fun hb => ?_, fun hb => ?_⟩
    · have hb := of_decide_eq_true hb
      walk_at "s"
      refine ⟨fun h1 => ?_, fun h1 => ?_⟩
      · walk_at "s"
        refine ⟨fun h2 => ?_, fun h2 => ?_⟩
        · walk_at "s"
          exact bad ⟨hb, fun z => by have := z.2; simp at h2; omega⟩
        · walk_at "s"
          exact go fun z => z.2 ⟨of_decide_eq_true h1, by simpa using h2⟩
      · refine ⟨_, rfl, fun _ => ?_, fun h2 => (by cases h2)⟩
        walk_at "s"
        exact bad ⟨hb, fun z => of_decide_eq_false h1 z.1⟩
    · refine ⟨fun h => (by cases h), fun _ => ?_⟩
      walk_at "s"
      exact go fun z => of_decide_eq_false hb z.1
  · rintro ss' st' ⟨rfl, hw, y7, y8, y9, y10, rfl⟩
    rw [List.length_map, List.drop_length] at hw
    have hw : wrongIn ((t : Int) + 1) cell told = none := hw
    rw [hw] at hres
    simp only at hres
    have ec : (t : Int) + 1 = ((t + 1 : Nat) : Int) := by omega
    rw [ec] at hres
    cases htg : tellsG hs p.r ((t + 1 : Nat) : Int) line' (marksAt p ((t + 1 : Nat) : Int)) s2 told with
    | none =>
      rw [htg] at hres
      cases hres
    | some res2 =>
      rw [htg] at hres
      refine ws_ret (we_meth (we_var rfl ⟨_, .cell R3.e1, rfl, wa_cons (we_var rfl (wa_nil ⟨by rfl, hs, st0, n, nh, nl, nr, p, f0, f1, f2, s2, lines ++ [line'], told, t + 1, line', res2, (by rw [ec]), R3, HV, ok, by omega, ?_, by omega, htg, ?_, ?_⟩))⟩))
      · rw [List.getElem?_append_right (by omega), show t + 1 - lines.length = 0 by omega]
        rfl
      · rintro e rfl st' hst
        cases hres
        exact .inl (q1 _ rfl _ hst)
      · rintro s' told' rfl st' hst
        cases hres
        exact .inl (q2 _ _ _ rfl _ hst)
/-! ### Play_ending -/
abbrev N_Play_ending : List Str := ["self"]
theorem sc_Play_ending : FnScope N_Play_ending ["self"] (defScope s_Play_ending) := ⟨rfl, rfl, rfl, by decide +kernel, rfl, by decide +kernel, by decide +kernel⟩
theorem ok_Play_ending (Z : Zs mg) (h_Play : Cls K C_Play) (na_Play : ∀ f ∈ fl_Play, NoAttr K C_Play f) (dd : Dm K C_Play "ending" "Play.ending" s_Play_ending) : CalM P w K mg base 1 C_Play "ending" ["self"] (spP K T 1 (pre_Play_ending K C_Plan C_Play)) := by
  refine dd.cal (fun f fd F => F.ok sc_Play_ending (fun vs H Q E h => spP_len h) fun cdv A outer s H vs Q E hr h => ?_) (fun _ _ _ _ _ _ us hl => match us, hl with | [_], _ => rfl)
  have nd := sc_Play_ending.nd
  have hu := room_u hr
  refine ⟨_, (pss_one (ps_ret (pe_tup (pa_cons pe_str (pa_cons (pe_callTy (call_listK (K := K) rfl) (by rfl) Z.list_ boot_list (pa_cons (pe_fld (pv 0) rfl) pa_nil)) (pa_cons (pe_callTy (call_listK (K := K) rfl) (by rfl) Z.list_ boot_list (pa_cons (pe_fld (pv 0) rfl) pa_nil)) pa_nil)))))), fn_run h ?_⟩
  intro xs st Φ hl hp
  clear hl h hu hr nd
  try dsimp only [L2.cxOf, NdefX.ncx]
  obtain ⟨st0, n, nh, nl, nr, p, f0, f1, f2, s, lines, told, rfl, R, q⟩ := hp
  refine ws_ret (we_tup (wa_cons (we_c rfl ?_)))
  refine wa_cons (we_pur (we_cb (wa_cons (we_fld (we_var rfl ⟨_, _, _, .cell R.e1, h_Play, na_Play _ (by decide), rfl, ?_⟩)))))
  refine wa_nil (wc_listC (look_mu R.e3) ⟨_, _, pur_end, ?_⟩)
  refine wa_cons (we_pur (we_cb (wa_cons (we_fld (we_var rfl ⟨_, _, _, .cell (get_app_l R.e1), h_Play, na_Play _ (by decide), rfl, ?_⟩)))))
  refine wa_nil (wc_listC (look_mu (get_app_l R.e4)) ⟨_, _, pur_end, wa_nil ?_⟩)
  refine ⟨_, _, purs_cons (purs_cons (purs_cons purs_nil)), big_le (by simp), ?_⟩
  exact fin_pd (by simp) q
/-! ### played -/
abbrev N_played : List Str := ["plan", "house", "lengths", "play", "wrong", "place", "lines"]
theorem sc_played : FnScope N_played ["plan", "house", "lengths"] (defScope s_played) := ⟨rfl, rfl, rfl, by decide +kernel, rfl, by decide +kernel, by decide +kernel⟩
theorem ok_played (c_Play_ending : CalM P w K mg base 1 C_Play "ending" ["self"] (spP K T 1 (pre_Play_ending K C_Plan C_Play))) (c_Play_passes : CalM P w K mg base 5 C_Play "passes" ["self", "k", "lines"] (spP K T 3 (pre_Play_passes P w K mg base T C_Plan C_Play))) (c_Play_asks : CalM P w K mg base 4 C_Play "asks" ["self", "t"] (spP K T 2 (pre_Play_asks P w K mg base T C_Plan C_Play))) (c_Play___init__ : CalI P w K mg base 4 "Play" C_Play ["self", "plan", "house"] (spP K T 3 (pre_Play___init__ P w K mg base T C_Plan C_Play))) (c_checked_lengths : Cal P w K mg base 2 "checked_lengths" ["sections", "lengths"] (spP K T 2 pre_checked_lengths)) (c_Plan_sections : CalM P w K mg base 1 C_Plan "sections" ["self"] (spP K T 1 (pre_Plan_sections K C_Plan))) (c_check_numbers : Cal P w K mg base 3 "check_numbers" ["what", "numbers", "most"] (spP K T 3 pre_check_numbers)) (Z : Zs mg) (x_LENGTHS : ∃ t, mg "LENGTHS" = some (.int c_LENGTHS t)) (h_Play : Cls K C_Play) (h_Plan : Cls K C_Plan) (na_Play : ∀ f ∈ fl_Play, NoAttr K C_Play f) (na_Plan : ∀ f ∈ fl_Plan, NoAttr K C_Plan f) (dd : Df K mg "played" s_played) : Cal P w K mg base 6 "played" ["plan", "house", "lengths"] (spP K T 3 (pre_played P w K mg base T C_Plan)) := by
  obtain ⟨_, h_LENGTHS⟩ := x_LENGTHS
  refine dd.cal (fun f fd F => F.ok sc_played (fun vs H Q E h => spP_len h) fun cdv A outer s H vs Q E hr h => ?_) (fun _ _ _ _ _ _ us hl => match us, hl with | [_, _, _], _ => rfl)
  have nd := sc_played.nd
  have hu := room_u hr
  refine ⟨_, (pss_cons (ps_expr (pe_callC c_check_numbers (hr.mono (by decide)) (by rfl) (pa_cons pe_str (pa_cons (pv 2) (pa_cons (pe_glob (v := .int c_LENGTHS) rfl h_LENGTHS ⟨_, rfl⟩) pa_nil))))) (pss_cons (ps_expr (pe_callC c_checked_lengths (hr.mono (by decide)) (by rfl) (pa_cons (pe_methC0 c_Plan_sections h_Plan (hr.mono (by decide)) (pv 0)) (pa_cons (pv 2) pa_nil)))) (pss_cons (ps_asg (pe_makeC c_Play___init__ (hr.mono (by decide)) (by rfl) (pa_cons (pv 0) (pa_cons (pv 1) pa_nil))) (pg_name (i := 3) nd rfl (.inl rfl))) (pss_cons (ps_asg (pe_methC c_Play_asks h_Play (hr.mono (by decide)) (pv 3) (pa_cons pe_int pa_nil)) (pg_name (i := 4) nd rfl (.inl rfl))) (pss_cons (ps_for PassesOwn.never rfl (pi_enum (by rfl) Z.enumerate (pa_cons (pv 2) pa_nil)) (pg_tup (n := 2) rfl (pgs_cons (pg_name (i := 5) nd rfl (.inl rfl)) (pgs_cons (pg_name (i := 6) nd rfl (.inl rfl)) pgs_nil))) (pss_one (ps_if (pt_cmpR op_isN (pv 4) pe_non (nomark _)) (pss_one (ps_asg (pe_methC c_Play_passes h_Play (hr.mono (by decide)) (pv 3) (pa_cons (pe_op (op_addK (K := K) rfl) (pv 5) pe_int) (pa_cons (pv 6) pa_nil))) (pg_name (i := 4) nd rfl (.inl rfl)))) pss_nil))) (pss_one (ps_ret (pe_ifExp (pt_cmpR op_isN (pv 4) pe_non (nomark _)) (pe_methC0 c_Play_ending h_Play (hr.mono (by decide)) (pv 3)) (pv 4))))))))), fn_run h ?_⟩
  intro xs st Φ hl hp
  clear hl h hu hr nd
  try dsimp only [L2.cxOf, NdefX.ncx]
  obtain ⟨hs, h, p, f0, f1, f2, Ls, d, rfl, eh, HV, ok, hll, hb, hd, q⟩ := hp
  have hN := ok.sn
  refine ws_sD (ws_drop (we_call (wa_cons (we_c rfl (wa_cons (we_var rfl (wa_cons (we_c rfl (wa_nil ⟨by rfl, _, Ls, _, _, rfl, .inl rfl, ?_, ?_⟩)))))))))
  · intro n hn
    obtain ⟨i, hi, e⟩ := List.mem_iff_getElem.mp hn
    have hi2 : i < p.ss.length := by omega
    have h1 := hb i _ n (List.getElem?_eq_getElem hi2) (by rw [List.getElem?_eq_getElem hi, e])
    have h2 := ok.sec _ (List.getElem_mem hi2)
    obtain ⟨_, _, _, _, h3⟩ := h2
    show n ≤ 10000
    omega
  refine ws_sD (ws_drop (we_call (wa_cons (we_meth (we_var rfl ⟨_, .ob, rfl, wa_nil ⟨by rfl, p, rfl, wa_cons (we_var rfl (wa_nil ⟨by rfl, p.ss, Ls, rfl, hll, hb, ?_⟩))⟩⟩)))))
  refine ws_sA (we_make (wa_cons (we_var rfl (wa_cons (we_var rfl (wa_nil ⟨by rfl, hs, st, h, p, f0, f1, f2, rfl, rfl, eh, HV, fun st' nh nl nr R => ⟨rfl, wg_name ?_⟩⟩))))))
  unfold Kp.played at hd
  refine ws_mid (fun ss' st' => ∃ wd : PyData, ss' = [some (planO K C_Plan p), vC h, vL (Ls.map PyData.int), vC st.length, vD wd, none, none] ∧ ((wd = .none ∧ ∃ (s : PyData) (line : Int) (lines : List Int) (told : List Rng), PlayR K C_Plan C_Play st st' st.length nh nl nr p f0 f1 f2 s lines told ∧ playedG hs p (p.ss.drop 0) (Ls.drop 0) (((0 : Nat) : Int) + 1) s line lines told = some d ∧ lines.length = 0 + 1 ∧ lines[0]? = some line ∧ 0 ≤ line ∧ told.length ≤ 100 * (0 + 1)) ∨
      (∃ ds, wd = .tuple ds ∧ wd = d ∧ st'.take st.length = st))) ?_ ?_
  · cases htg : tellsG hs p.r 0 p.s (marksAt p 0) hs.b [] with
    | none => rw [htg] at hd; cases hd
    | some res =>
      rw [htg] at hd
      refine ws_asg (we_meth (we_var rfl ⟨_, .cell R.e1, rfl, wa_cons (we_c rfl (wa_nil ⟨by rfl, hs, st, st.length, nh, nl, nr, p, f0, f1, f2, hs.b, [p.s], [], 0, p.s, res, rfl, R, HV, ok, Nat.zero_le _, rfl, Nat.zero_le _, htg, ?_, ?_⟩))⟩))
      · rintro e rfl st2 tk
        obtain ⟨ds, rfl⟩ := tells_err htg
        cases hd
        exact wg_name ⟨_, rfl, .inr ⟨_, rfl, rfl, tk⟩⟩
      · rintro s' told' rfl st2 R2
        have hz := tells_len htg
        have hy := marks_len p 0
        rw [List.length_nil] at hz
        exact wg_name ⟨_, rfl, .inl ⟨rfl, s', p.s, [p.s], told', R2, hd, rfl, rfl, ok.s0, by omega⟩⟩
  rintro ss' st' ⟨wd, rfl, hw⟩
  refine ws_seq (ws_forE (wa_cons (we_var rfl (wa_nil ⟨_, rfl, fun i ss' st' => ∃ (wd : PyData) (y5 y6 : Option Val), ss' = [some (planO K C_Plan p), vC h, vL (Ls.map PyData.int), vC st.length, vD wd, y5, y6] ∧ ((wd = .none ∧ ∃ (s : PyData) (line : Int) (lines : List Int) (told : List Rng), PlayR K C_Plan C_Play st st' st.length nh nl nr p f0 f1 f2 s lines told ∧
    playedG hs p (p.ss.drop i) (Ls.drop i) ((i : Int) + 1) s line lines told = some d ∧ lines.length = i + 1 ∧ lines[i]? = some line ∧ 0 ≤ line ∧ told.length ≤ 100 * (i + 1)) ∨ (∃ ds, wd = .tuple ds ∧ wd = d ∧ st'.take st.length = st)), ⟨wd, none, none, rfl, hw⟩, ?_, ?_⟩))))
  · rintro i dd ss' st' hdd ⟨wd, y5, y6, rfl, hw⟩
    obtain ⟨L, hL, rfl⟩ : ∃ L, Ls[i]? = some L ∧ dd = .int L := by
      rw [List.getElem?_map] at hdd
      cases e : Ls[i]? with
      | none => rw [e] at hdd; cases hdd
      | some t => rw [e] at hdd; exact ⟨t, rfl, (Option.some.inj hdd).symm⟩
    obtain ⟨hi, eL⟩ := List.getElem?_eq_some_iff.mp hL
    have hi2 : i < p.ss.length := by omega
    rcases hw with ⟨rfl, s, line, lines, told, R, hr, h1, h2, h3, h4⟩ | ⟨ds, rfl, e, tk⟩
    · have hx : p.ss[i]? = some p.ss[i] := List.getElem?_eq_getElem hi2
      have hsec := hb i _ L hx hL
      have hok := ok.sec _ (List.getElem_mem hi2)
      rw [List.drop_eq_getElem_cons hi2, List.drop_eq_getElem_cons hi, eL] at hr
      unfold playedG at hr
      generalize p.ss[i] = x at hx hsec hok hr
      obtain ⟨k1, k2, k3, k4, k5⟩ := hok
      cases hst : stepG hs p x.2.2 ((i : Int) + 1) L s line told with
      | none => rw [hst] at hr; cases hr
      | some res =>
        rw [hst] at hr
        walk_at "s"
        refine ⟨fun _ => ?_, fun h => (by cases h)⟩
        refine ws_asg (we_meth (we_var rfl ⟨_, .cell R.e1, rfl, wa_cons (we_op (we_var rfl (we_c rfl (wr_addI (wa_cons (we_var rfl (wa_nil ?_)))))))⟩))
        refine ⟨by rfl, hs, st, st.length, nh, nl, nr, p, f0, f1, f2, s, lines, told, i, line, L, x, res, rfl, R, HV, ok, hx, h2, h1, h3, by omega, h4, hst, ?_, ?_⟩
        · rintro e rfl st2 tk
          obtain ⟨ds, rfl⟩ := step_err hst
          cases hr
          exact wg_name ⟨_, _, _, rfl, .inr ⟨_, rfl, rfl, tk⟩⟩
        · rintro s' line' told' rfl st2 R2
          have hsl := step_line hst
          refine wg_name ⟨_, _, _, rfl, .inl ⟨rfl, s', line', lines ++ [line'], told', R2, ?_, by rw [List.length_append, h1]; rfl, ?_, by omega, by omega⟩⟩
          · have ec : (i : Int) + 1 + 1 = ((i + 1 : Nat) : Int) + 1 := by omega
            rw [← ec]
            exact hr
          · rw [List.getElem?_append_right (by omega), h1, Nat.sub_self]
            rfl
    · walk_at "s"
      refine ⟨fun h => (by cases h), fun _ => ?_⟩
      walk_at "s"
      exact ⟨_, _, _, rfl, .inr ⟨ds, rfl, e, tk⟩⟩
  · rintro ss' st' ⟨wd, y5, y6, rfl, hw⟩
    rw [List.length_map] at hw
    refine ws_ret (we_if (wt_test (we_op (we_var rfl (we_c rfl (wr_isN ?_))))))
    rcases hw with ⟨rfl, s, line, lines, told, R, hr, h1, h2, h3, h4⟩ | ⟨ds, rfl, e, tk⟩
    · rw [List.drop_length] at hr
      refine ⟨_, rfl, fun _ => ?_, fun h => (by cases h)⟩
      refine we_meth (we_var rfl ⟨_, .cell R.e1, rfl, wa_nil ⟨by rfl, st, st.length, nh, nl, nr, p, f0, f1, f2, s, lines, told, rfl, R, ?_⟩⟩)
      have e : d = trueD lines told := by
        unfold playedG at hr
        split at hr
        · rename_i h; cases h
        · exact (Option.some.inj hr).symm
      rw [← e]
      exact fin_pd R.tk q
    · refine ⟨_, rfl, fun h => (by cases h), fun _ => ?_⟩
      refine we_var rfl ?_
      rw [e]
      exact fin_pd tk q
/-! ### _law_play -/
abbrev N__law_play : List Str := ["world", "house", "source", "plan", "newly", "state", "line", "lines", "told", "lengths", "k", "a", "b", "c", "brought", "pad", "cell", "wrong", "j", "first", "last", "row"]
theorem sc__law_play : FnScope N__law_play ["world", "house", "source"] (defScope s__law_play) := ⟨rfl, rfl, rfl, by decide +kernel, rfl, by decide +kernel, by decide +kernel⟩
theorem ok__law_play (c__law_right_range : Cal P w K mg base 1 "_law_right_range" ["world", "first", "last"] (spP K T 3 pre__law_right_range)) (c__law_plan_cell : Cal P w K mg base 1 "_law_plan_cell" ["ruler", "line"] (spP K T 2 pre__law_plan_cell)) (c__law_newly_all : Cal P w K mg base 2 "_law_newly_all" ["world"] (spP K T 1 pre__law_newly_all)) (c__law_made_plan : Cal P w K mg base 7 "_law_made_plan" ["world"] (spP K T 1 (pre__law_made_plan K C_Plan))) (Z : Zs mg) (dd : Df K mg "_law_play" s__law_play) : Cal P w K mg base 8 "_law_play" ["world", "house", "source"] (spP K T 3 (pre__law_play P w K mg base T C_Plan)) := by
  refine dd.cal (fun f fd F => F.ok sc__law_play (fun vs H Q E h => spP_len h) fun cdv A outer s H vs Q E hr h => ?_) (fun _ _ _ _ _ _ us hl => match us, hl with | [_, _, _], _ => rfl)
  have nd := sc__law_play.nd
  have hu := room_u hr
  refine ⟨_, (pss_cons (ps_asg (pe_callC c__law_made_plan (hr.mono (by decide)) (by rfl) (pa_cons (pv 0) pa_nil)) (pg_name (i := 3) nd rfl (.inl rfl))) (pss_cons (ps_asg (pe_callC c__law_newly_all (hr.mono (by decide)) (by rfl) (pa_cons (pv 0) pa_nil)) (pg_name (i := 4) nd rfl (.inl rfl))) (pss_cons (ps_asg (pe_callV (k := kClo) (hr.mono (by decide)) (pe_ix (ix_seqK (K := K) rfl) (pv 1) pe_int (fun _ _ => rfl)) (pa_cons (pv 3) pa_nil)) (pg_name (i := 5) nd rfl (.inl rfl))) (pss_cons (ps_asg (pe_ix (ix_seqK (K := K) rfl) (pv 0) pe_int (fun _ _ => rfl)) (pg_name (i := 6) nd rfl (.inl rfl))) (pss_cons (ps_asg (pe_lst (pa_cons (pv 6) pa_nil)) (pg_name (i := 7) nd rfl (.inl rfl))) (pss_cons (ps_asg (pe_lst pa_nil) (pg_name (i := 8) nd rfl (.inl rfl))) (pss_cons (ps_asg (pe_lst pa_nil) (pg_name (i := 9) nd rfl (.inl rfl))) (pss_cons (ps_for PassesOwn.never rfl (pi_range1 rfl Z.range_ (pa_cons (pe_op (op_addK (K := K) rfl) (pe_callB (call_lenK (K := K) rfl) (by rfl) Z.len PySem.boot_len (pa_cons (pe_ix (ix_seqK (K := K) rfl) (pv 0) pe_int (fun _ _ => rfl)) pa_nil)) pe_int) pa_nil)) (pg_name (i := 10) nd rfl (.inr rfl)) (pss_cons (ps_if (pt_cmpR op_gt (pv 10) pe_int (nomark _)) (pss_cons (ps_asg (pe_ix (ix_seqK (K := K) rfl) (pe_ix (ix_seqK (K := K) rfl) (pv 0) pe_int (fun _ _ => rfl)) (pe_op op_sub (pv 10) pe_int) (fun _ _ => rfl)) (pg_or (pg_tup (n := 3) rfl (pgs_cons (pg_name (i := 11) nd rfl (.inl rfl)) (pgs_cons (pg_name (i := 12) nd rfl (.inl rfl)) (pgs_cons (pg_name (i := 13) nd rfl (.inl rfl)) pgs_nil)))) (pg_unl (n := 3) rfl (pgs_cons (pg_name (i := 11) nd rfl (.inl rfl)) (pgs_cons (pg_name (i := 12) nd rfl (.inl rfl)) (pgs_cons (pg_name (i := 13) nd rfl (.inl rfl)) pgs_nil)))))) (pss_cons (ps_asg (pe_callV (k := kClo) (hr.mono (by decide)) (pv 2) (pa_cons (pv 10) (pa_cons (pv 6) (pa_cons (pe_lc (own := [("row", 21)]) (g := gName 21) (tt := tYes) rfl nd (pi_list (pv 8)) (blkOk_by (N := N__law_play) (sc := defScope s__law_play) (by decide +kernel)) (fun _ _ _ _ _ => (pg_name (i := 21) nd rfl (.inl rfl))) (fun _ _ _ _ _ => pts_nil) (fun _ _ _ _ _ => (pe_callTy (call_tupleK (K := K) rfl) (by rfl) Z.tuple_ boot_tuple (pa_cons (pv 21) pa_nil)))) pa_nil)))) (pg_name (i := 14) nd rfl (.inl rfl))) (pss_cons (ps_expr (pe_bm PySem.F.plainAttrs_list PySem.F.slot_list_append PySem.F.type_list_append mt_append (pv 9) (pa_cons (pv 14) pa_nil))) (pss_cons (ps_asg (pe_callV (k := kClo) (hr.mono (by decide)) (pe_ix (ix_seqK (K := K) rfl) (pv 1) pe_int (fun _ _ => rfl)) (pa_cons (pv 5) (pa_cons (pv 10) (pa_cons (pv 14) pa_nil)))) (pg_or (pg_tup (n := 2) rfl (pgs_cons (pg_name (i := 5) nd rfl (.inl rfl)) (pgs_cons (pg_name (i := 15) nd rfl (.inl rfl)) pgs_nil))) (pg_unl (n := 2) rfl (pgs_cons (pg_name (i := 5) nd rfl (.inl rfl)) (pgs_cons (pg_name (i := 15) nd rfl (.inl rfl)) pgs_nil))))) (pss_cons (ps_if (PW.pt (pw_or (pt_not (pt_val (pe_callB (call_isiK (K := K) rfl) (by rfl) Z.isinstance boot_isinstance (pa_cons (pv 15) (pa_cons (pe_tyN (by rfl) Z.int_ boot_int) pa_nil))))) (pw_or (pt_val (pe_callB (call_isiK (K := K) rfl) (by rfl) Z.isinstance boot_isinstance (pa_cons (pv 15) (pa_cons (pe_tyN (by rfl) Z.bool_ boot_bool) pa_nil)))) (pw_or1 (pt_not (pt_chain op_le op_le pe_int (pv 15) (pv 13))))))) (pss_one (ps_ret (pe_tup (pa_cons (pe_tup (pa_cons pe_str (pa_cons (pv 10) pa_nil))) (pa_cons (pv 9) pa_nil))))) pss_nil) (pss_cons (ps_aug (i := 6) nd rfl (.inl rfl) (pe_op (op_addK (K := K) rfl) (pv 14) (pv 15)) ip_add) (pss_cons (ps_expr (pe_bm PySem.F.plainAttrs_list PySem.F.slot_list_append PySem.F.type_list_append mt_append (pv 7) (pa_cons (pv 6) pa_nil))) (pss_cons (ps_asg (pe_callC c__law_plan_cell (hr.mono (by decide)) (by rfl) (pa_cons (pe_ix (ix_seqK (K := K) rfl) (pv 0) pe_int (fun _ _ => rfl)) (pa_cons (pv 6) pa_nil))) (pg_name (i := 16) nd rfl (.inr rfl))) (pss_cons (ps_setLc (i := 17) (own := [("row", 21)]) (g := gName 21) (tt := _) rfl nd rfl rfl (sw_true rfl rfl rfl (by decide +kernel)) (pi_list (pv 8)) (blkOk_by (N := N__law_play) (sc := defScope s__law_play) (by decide +kernel)) (fun _ _ _ _ _ => (pg_name (i := 21) nd rfl (.inl rfl))) (fun _ _ _ _ _ => (pts_one (PW.pt (pw_and (pt_cmpR (op_eqK (K := K) rfl hu) (pe_ix (ix_seqK (K := K) rfl) (pv 21) pe_int (fun _ _ => rfl)) (pv 10) (nomark _)) (pw_and1 (pt_not (pt_chain op_le op_le (pe_ix (ix_seqK (K := K) rfl) (pv 21) pe_int (fun _ _ => rfl)) (pv 16) (pe_ix (ix_seqK (K := K) rfl) (pv 21) pe_int (fun _ _ => rfl))))))))) (fun _ _ _ _ _ => (pv 21))) (pss_one (ps_if (pt_cmpR (op_neK (K := K) rfl hu) (pv 17) (pe_lst pa_nil) (nomark _)) (pss_one (ps_ret (pe_tup (pa_cons (pe_tup (pa_cons pe_str (pa_cons (pv 10) (pa_cons (pe_ix (ix_seqK (K := K) rfl) (pe_ix (ix_seqK (K := K) rfl) (pv 17) pe_int (fun _ _ => rfl)) pe_int (fun _ _ => rfl)) (pa_cons (pe_ix (ix_seqK (K := K) rfl) (pe_ix (ix_seqK (K := K) rfl) (pv 17) pe_int (fun _ _ => rfl)) pe_int (fun _ _ => rfl)) (pa_cons (pv 16) pa_nil)))))) (pa_cons (pv 9) pa_nil))))) pss_nil))))))))))) pss_nil) (pss_one (ps_for PassesOwn.never rfl (pi_list (pe_ix (ix_seqK (K := K) rfl) (pv 4) (pv 10) (fun _ _ => rfl))) (pg_name (i := 18) nd rfl (.inl rfl)) (pss_cons (ps_asg (pe_callV (k := kClo) (hr.mono (by decide)) (pe_ix (ix_seqK (K := K) rfl) (pv 1) pe_int (fun _ _ => rfl)) (pa_cons (pv 5) (pa_cons (pv 10) (pa_cons (pv 6) (pa_cons (pv 18) pa_nil))))) (pg_or (pg_tup (n := 3) rfl (pgs_cons (pg_name (i := 5) nd rfl (.inl rfl)) (pgs_cons (pg_name (i := 19) nd rfl (.inl rfl)) (pgs_cons (pg_name (i := 20) nd rfl (.inl rfl)) pgs_nil)))) (pg_unl (n := 3) rfl (pgs_cons (pg_name (i := 5) nd rfl (.inl rfl)) (pgs_cons (pg_name (i := 19) nd rfl (.inl rfl)) (pgs_cons (pg_name (i := 20) nd rfl (.inl rfl)) pgs_nil)))))) (pss_cons (ps_if (pt_not (pt_val (pe_callC c__law_right_range (hr.mono (by decide)) (by rfl) (pa_cons (pv 0) (pa_cons (pv 19) (pa_cons (pv 20) pa_nil)))))) (pss_one (ps_ret (pe_tup (pa_cons (pe_tup (pa_cons pe_str (pa_cons (pv 10) (pa_cons (pv 18) pa_nil)))) (pa_cons (pv 9) pa_nil))))) pss_nil) (pss_one (ps_expr (pe_bm PySem.F.plainAttrs_list PySem.F.slot_list_append PySem.F.type_list_append mt_append (pv 8) (pa_cons (pe_tup (pa_cons (pv 10) (pa_cons (pv 18) (pa_cons (pv 19) (pa_cons (pv 20) pa_nil))))) pa_nil)))))))))) (pss_one (ps_ret (pe_tup (pa_cons (pe_tup (pa_cons pe_str (pa_cons (pv 7) (pa_cons (pv 8) pa_nil)))) (pa_cons (pv 9) pa_nil))))))))))))), fn_run h ?_⟩
  intro xs st Φ hl hp
  clear hl h hu hr nd
  try dsimp only [L2.cxOf, NdefX.ncx]
  obtain ⟨hs, src, srcv, h, p, f0, f1, f2, found, lens, rfl, eh, HV, FS, ok, hplay, q⟩ := hp
  have hN := ok.sn
  refine ws_sA (we_call (wa_cons (we_var rfl (wa_nil ⟨by rfl, p, rfl, ok, wg_name ?_⟩))))
  refine ws_sA (we_call (wa_cons (we_var rfl (wa_nil ⟨by rfl, p, rfl, ok, wg_name ?_⟩))))
  refine ws_sA (we_callF (qB hs.b (planO K C_Plan p)) (we_op (we_var rfl (we_c rfl (wr_ixM eh (y := f0) rfl ⟨HV.b, wa_cons (we_var rfl (wa_nil ?_))⟩)))))
  refine ⟨allP_cons (planO_plain _ _ _) allP_nil, rfl, rfl, trivial, wg_name ?_⟩
  refine ws_sA (we_op (we_var rfl (we_c rfl (wr_ixuL rfl (d := .int p.s) rfl (wg_name ?_)))))
  refine ws_seq (ws_asg (we_lstC (wa_cons (we_var rfl (wa_nil ⟨_, _, purs_cons purs_nil, big_le (by simp), wg_name ?_⟩)))))
  refine ws_seq (ws_asg (we_lstC (wa_nil ⟨_, _, purs_nil, by simp, wg_name ?_⟩)))
  refine ws_seq (ws_asg (we_lstC (wa_nil ⟨_, _, purs_nil, by simp, wg_name ?_⟩)))
  have el1 : (st ++ [Cell.mu [PyData.int p.s]]).length = st.length + 1 := by simp
  have el2 : (st ++ [Cell.mu [PyData.int p.s]] ++ [Cell.mu []]).length = st.length + 2 := by simp
  have es : st ++ [Cell.mu [PyData.int p.s]] ++ [Cell.mu []] ++ [Cell.mu []] = playSto st [p.s] [] [] := by simp [playSto]
  rw [es, el1, el2]
  refine ws_seq (ws_forR1 ?_)
  walk_at "s"
  rw [List.length_map]
  refine ⟨by omega, by omega, fun i ss' st' => ∃ (s : PyData) (line : Int) (lines : List Int) (told : List Rng) (lens' : List Int) (y10 y11 y12 y13 y14 y15 y16 y17 y18 y19 y20 y21 : Option Val), st' = playSto st lines told lens' ∧ ss' = [vD (worldD p), vC h, some srcv, some (planO K C_Plan p), vD (nwD p), vD s, vI line, vC st.length, vC (st.length + 1), vC (st.length + 2), y10, y11, y12, y13, y14, y15, y16, y17, y18, y19, y20, y21] ∧ resid hs src p i s line lines told lens' = some (found, lens) ∧ told.length ≤ 100 * i ∧ lines.length ≤ 2 * i + 1 ∧ lens'.length ≤ 2 * i,
    ⟨hs.b, p.s, [p.s], [], [], none, none, none, none, none, none, none, none, none, none, none, none, rfl, rfl, hplay, Nat.zero_le _, Nat.le_refl _, Nat.zero_le _⟩, ?_, ?_⟩
  · rintro i ss' st' hi ⟨s, line, lines, told, lens', y10, y11, y12, y13, y14, y15, y16, y17, y18, y19, y20, y21, rfl, rfl, hr, hb1, hb2, hb3⟩
    have hi : i ≤ p.ss.length := by omega
    refine wg_name ?_
    refine ws_mid (fun ss' st' => ∃ (s : PyData) (line : Int) (lines : List Int) (told : List Rng) (lens' : List Int) (y10 y11 y12 y13 y14 y15 y16 y17 y18 y19 y20 y21 : Option Val), st' = playSto st lines told lens' ∧ ss' = [vD (worldD p), vC h, some srcv, some (planO K C_Plan p), vD (nwD p), vD s, vI line, vC st.length, vC (st.length + 1), vC (st.length + 2), vI (0 + (i : Int)), y11, y12, y13, y14, y15, y16, y17, y18, y19, y20, y21] ∧ (match tellsG hs p.r (i : Int) line (marksAt p (i : Int)) s told with | none => none | some (.inl e) => some (e, lens') | some (.inr (s', told')) => playG hs src p (p.ss.drop i) ((i : Int) + 1) s' line lines told' lens') = some (found, lens) ∧ told.length ≤ 100 * i ∧ lines.length ≤ 2 * i + 2 ∧ lens'.length ≤ 2 * i + 1) ?_ ?_
    · refine ws_if ?_
      walk_at "s"
      refine ⟨fun hk => ?_, fun hk => ?_⟩
      · obtain ⟨j, rfl⟩ : ∃ j, i = j + 1 := ⟨i - 1, by have := of_decide_eq_true hk; omega⟩
        have hj : j < p.ss.length := by omega
        have hr : playG hs src p (p.ss.drop j) (((j : Nat) : Int) + 1) s line lines told lens' = some (found, lens) := hr
        rw [List.drop_eq_getElem_cons hj] at hr
        unfold playG at hr
        have hx : atI (p.ss.map secD) (0 + ((j + 1 : Nat) : Int) - 1) = some (secD p.ss[j]) := by
          rw [show (0 + ((j + 1 : Nat) : Int) - 1) = ((j : Nat) : Int) by omega]
          exact atI_nat (by rw [List.getElem?_map, List.getElem?_eq_getElem hj]; rfl)
        generalize p.ss[j] = x at hr hx
        obtain ⟨a, b, c⟩ := x
        have ek : (((j : Nat) : Int) + 1) = 0 + ((j + 1 : Nat) : Int) := by omega
        rw [ek] at hr
        generalize hkk : (0 + ((j + 1 : Nat) : Int)) = k at hr hx ⊢
        refine ws_sA (we_op (we_op (we_var rfl (we_c rfl (wr_ixuL rfl (d := .list (p.ss.map secD)) rfl (we_op (we_var rfl (we_c rfl (wr_sub (wr_ixuL rfl hx ?_))))))))))
        refine wg_orT rfl (wgs_consM (wg_name (wgs_consM (wg_name (wgs_consM (wg_name (wgs_nilM ?_)))))))
        split at hr
        · cases hr
        rename_i L hsrc
        refine ws_sA (we_callF (qSrc src) (we_var rfl ⟨FS, ?_⟩))
        refine wa_cons (we_var rfl (wa_cons (we_var rfl (wa_cons (we_lcC (gw_name (by simp)) ?_)))))
        refine we_var rfl ⟨_, _, rfl, ps_1, by rw [List.length_map]; exact big_lt (by omega), fun d => some d, ?_, ?_⟩
        · intro ws i d acc hd
          obtain ⟨z, hz, rfl⟩ := List.mem_map.mp (List.mem_of_getElem? hd)
          walk_at "s"
          refine ⟨fun _ => ?_, fun h => (by cases h)⟩
          walk_at "s"
          refine wc_tupT ?_
          exact ⟨_, _, rfl, take_snoc2, rfl⟩
        rw [List.filterMap_some]
        refine wa_nil ⟨allP_cons trivial (allP_cons trivial (allP_cons trivial allP_nil)), rfl, k, line, told, L, rfl, hsrc, trivial, wg_name ?_⟩
        refine ws_seq (ws_app ?_)
        refine we_var rfl ⟨_, _, rfl, ps_2, ?_⟩
        refine we_var rfl ⟨_, _, _, rfl, ps_2, by rw [List.length_map]; exact big_lt (by omega), ?_⟩
        rw [ps_set2]
        have hst : ∃ res, stepG hs p c k L s line told = some res := by
          cases e : stepG hs p c k L s line told with
          | none => rw [e] at hr; cases hr
          | some res => exact ⟨res, rfl⟩
        obtain ⟨res, hst⟩ := hst
        rw [hst] at hr
        unfold stepG at hst
        split at hst
        · cases hst
        rename_i s2 pad hset
        refine ws_sA (we_callF (qS hs) (we_op (we_var rfl (we_c rfl (wr_ixM (ps_old eh) (y := f2) rfl ⟨HV.s, wa_cons (we_var rfl (wa_cons (we_var rfl (wa_cons (we_var rfl (wa_nil ?_))))))⟩)))))
        refine ⟨allP_cons trivial (allP_cons trivial (allP_cons trivial allP_nil)), rfl, s, _, _, s2, pad, rfl, hset, trivial, ?_⟩
        refine wg_orT rfl (wgs_consM (wg_name (wgs_consM (wg_name (wgs_nilM ?_)))))
        have fin : ∀ e, found = e → lens = lens' ++ [L] → Ct.Fin st Φ (.pd (.tuple [e, .list ((lens' ++ [L]).map PyData.int)])) (st ++ [Cell.mu (lines.map PyData.int), .mu (told.map rngD), .fr ((lens' ++ [L]).map PyData.int)]) := by
          rintro e rfl rfl
          exact fin_pd (by simp) q
        have finL : ∀ {lines : List Int} (e : PyData), found = e → lens = lens' ++ [L] → Ct.Fin st Φ (.pd (.tuple [e, .list ((lens' ++ [L]).map PyData.int)])) (st ++ [Cell.mu (lines.map PyData.int), .mu (told.map rngD), .fr ((lens' ++ [L]).map PyData.int)]) := by
          rintro lines e rfl rfl
          exact fin_pd (by simp) q
        have purL : ∀ {lines : List Int}, pur (.cell (st.length + 2)) (playSto st lines told (lens' ++ [L])) = some (.list ((lens' ++ [L]).map PyData.int), st ++ [Cell.mu (lines.map PyData.int), .mu (told.map rngD), .fr ((lens' ++ [L]).map PyData.int)]) := by
          intro lines
          unfold pur
          simp only [ps_2]
          simp [playSto, List.set_append]
        have hpad : ¬ (0 ≤ pad ∧ pad ≤ c) → found = padD k ∧ lens = lens' ++ [L] := fun h => by
          rw [if_pos h] at hst
          cases hst
          cases hr
          exact ⟨rfl, rfl⟩
        refine ws_seq (ws_if ?_)
        walk_at "s"
        refine wc_isi rfl rfl ?_
        refine ⟨_, rfl, fun h => (by cases h), fun _ => ?_⟩
        walk_at "s"
        refine wc_isi rfl rfl ?_
        refine ⟨_, rfl, fun h => (by cases h), fun _ => ?_⟩
        walk_at "s"
        refine ⟨fun h => ?_, fun h => ⟨_, rfl, fun _ => ?_, fun h2 => (by cases h2)⟩⟩
        case refine_2 =>
          obtain ⟨e1, e2⟩ := hpad fun z => of_decide_eq_false h z.1
          refine ws_ret (we_tup (wa_cons (we_tup (wa_cons (we_c rfl (wa_cons (we_var rfl (wa_nil ⟨_, _, purs_cons (purs_cons purs_nil), big_le (by simp), ?_⟩))))))))
          refine wa_cons (we_pur (we_var rfl ⟨_, _, purL, wa_nil ⟨_, _, purs_cons (purs_cons purs_nil), big_le (by simp), finL _ e1 e2⟩⟩))
        walk_at "s"
        refine ⟨fun h2 => ?_, fun h2 => ?_⟩
        · obtain ⟨e1, e2⟩ := hpad fun z => (by have := z.2; simp at h2; omega)
          refine ws_ret (we_tup (wa_cons (we_tup (wa_cons (we_c rfl (wa_cons (we_var rfl (wa_nil ⟨_, _, purs_cons (purs_cons purs_nil), big_le (by simp), ?_⟩))))))))
          refine wa_cons (we_pur (we_var rfl ⟨_, _, purL, wa_nil ⟨_, _, purs_cons (purs_cons purs_nil), big_le (by simp), finL _ e1 e2⟩⟩))
        have h1 := of_decide_eq_true h
        have h2 : pad ≤ c := by simpa using h2
        rw [if_neg (fun z => z ⟨h1, h2⟩)] at hst
        clear hpad fin
        refine ws_next ?_
        refine ws_sG rfl (we_op (we_var rfl (we_var rfl (wr_addI ⟨_, rfl, ?_⟩))))
        generalize line + (L + pad) = line2 at hst ⊢
        refine ws_seq (ws_app ?_)
        refine we_var rfl ⟨_, _, rfl, ps_0, ?_⟩
        refine we_var rfl ⟨_, _, _, rfl, ps_0, by rw [List.length_map]; exact big_lt (by omega), ?_⟩
        rw [ps_set0]
        refine ws_sA (we_call (wa_cons (we_op (we_var rfl (we_c rfl (wr_ixuL rfl (d := pagesD p.H) rfl (wa_cons (we_var rfl (wa_nil ⟨by rfl, _, _, rfl, ⟨ok.H1, ok.H2⟩, wg_name ?_⟩)))))))))
        generalize line2 / p.H + 1 = cell at hst ⊢
        refine ws_sA (we_lcC (gw_name (by simp)) (we_var rfl ⟨_, _, rfl, ps_1, by rw [List.length_map]; exact big_lt (by omega), wrF k cell, ?_, ?_⟩))
        · intro ws i d acc hd
          obtain ⟨⟨z1, z2, z3, z4⟩, hz, rfl⟩ := List.mem_map.mp (List.mem_of_getElem? hd)
          walk_at "s"
          refine ⟨fun hb => ?_, fun hb => ?_⟩
          · have hb := of_decide_eq_true hb
            walk_at "s"
            refine ⟨fun h1 => ?_, fun h1 => ?_⟩
            · walk_at "s"
              refine ⟨fun h2 => ?_, fun h2 => ?_⟩
              · walk_at "s"
                exact ⟨_, _, rfl, take_snoc2, if_pos ⟨hb, fun z => by have h3 : cell ≤ z4 := z.2; simp at h2; omega⟩⟩
              · exact ⟨take_snoc2, if_neg fun z => z.2 ⟨of_decide_eq_true h1, by simpa using h2⟩⟩
            · refine ⟨_, rfl, fun _ => ?_, fun h2 => (by cases h2)⟩
              walk_at "s"
              exact ⟨_, _, rfl, take_snoc2, if_pos ⟨hb, fun z => of_decide_eq_false h1 z.1⟩⟩
          · refine ⟨fun h => (by cases h), fun _ => ?_⟩
            exact ⟨take_snoc2, if_neg fun z => of_decide_eq_false hb z.1⟩
        rw [wrF_map]
        have hW : wrongIn k cell told = (told.filter fun x => decide (x.2.1 = k ∧ ¬ (x.2.2.1 ≤ cell ∧ cell ≤ x.2.2.2))).head? := by
          unfold wrongIn
          rw [List.head?_filter]
        rw [hW] at hst
        generalize (told.filter fun x => decide (x.2.1 = k ∧ ¬ (x.2.2.1 ≤ cell ∧ cell ≤ x.2.2.2))) = W at hst ⊢
        refine wg_name ?_
        refine ws_if (wt_test (we_op (we_var rfl (we_lst (wa_nil ⟨_, _, purs_nil, by simp, wr_neD rfl rfl (sh_rngs W) rfl ?_⟩)))))
        rw [eqv_isNil]
        cases W with
        | cons x W =>
          obtain ⟨x1, x2, x3, x4⟩ := x
          refine ⟨_, rfl, fun _ => ?_, fun h => (by simp at h)⟩
          simp only [List.head?_cons] at hst
          cases hst
          cases hr
          refine ws_ret (we_tup (wa_cons (we_tup (wa_cons (we_c rfl (wa_cons (we_var rfl (wa_cons (we_op (we_op (we_var rfl (we_c rfl (wr_ixuL rfl (d := rngD (x1, x2, x3, x4)) (atI_nat (j := 0) rfl) (we_c rfl (wr_ixuT (d := .int x3) rfl ?_)))))))))))))))
          refine wa_cons (we_op (we_op (we_var rfl (we_c rfl (wr_ixuL rfl (d := rngD (x1, x2, x3, x4)) (atI_nat (j := 0) rfl) (we_c rfl (wr_ixuT (d := .int x4) rfl ?_)))))))
          refine wa_cons (we_var rfl (wa_nil ⟨_, _, by (repeat apply purs_cons); exact purs_nil, big_le (by simp), ?_⟩))
          refine wa_cons (we_pur (we_var rfl ⟨_, _, purL, wa_nil ⟨_, _, purs_cons (purs_cons purs_nil), big_le (by simp), finL _ rfl rfl⟩⟩))
        | nil =>
          refine ⟨_, rfl, fun h => (by simp at h), fun _ => ?_⟩
          simp only [List.head?_nil] at hst
          refine ws_next ?_
          refine ⟨s2, line2, lines ++ [line2], told, lens' ++ [L], none, _, _, _, _, _, _, _, _, _, _, _, rfl, rfl, ?_, by omega, by rw [List.length_append]; simp; omega, by rw [List.length_append]; simp; omega⟩
          have e2 : ((j + 1 : Nat) : Int) = k := by omega
          rw [e2]
          cases htg : tellsG hs p.r k line2 (marksAt p k) s2 told with
          | none => rw [htg] at hst; cases hst
          | some res2 =>
            rw [htg] at hst
            cases res2 with
            | inl e =>
              cases hst
              exact hr
            | inr pr =>
              obtain ⟨s3, told3⟩ := pr
              cases hst
              exact hr
      · have hk := of_decide_eq_false hk
        obtain rfl : i = 0 := by omega
        refine ws_next ?_
        exact ⟨s, line, lines, told, lens', none, _, _, _, _, _, _, _, _, _, _, _, rfl, rfl, hr, hb1, by omega, by omega⟩
    · rintro ss' st' ⟨s, line, lines, told, lens', y10, y11, y12, y13, y14, y15, y16, y17, y18, y19, y20, y21, rfl, rfl, hr, hb1, hb2, hb3⟩
      have hnw : atI ((List.range (p.ss.length + 1)).map fun (t : Nat) => PyData.list ((marksAt p (t : Int)).map PyData.int)) (0 + (i : Int)) = some (.list ((marksAt p (i : Int)).map PyData.int)) := by
        rw [Int.zero_add]
        exact atI_nat (by rw [List.getElem?_map, List.getElem?_range (by omega)]; rfl)
      have hml := marks_len p (i : Int)
      refine ws_forL (we_op (we_var rfl (we_var rfl (wr_ixuL rfl hnw ⟨_, rfl, fun m ss' st' => ∃ (s : PyData) (told : List Rng) (y10 y11 y12 y13 y14 y15 y16 y17 y18 y19 y20 y21 : Option Val), st' = playSto st lines told lens' ∧ ss' = [vD (worldD p), vC h, some srcv, some (planO K C_Plan p), vD (nwD p), vD s, vI line, vC st.length, vC (st.length + 1), vC (st.length + 2), vI (0 + (i : Int)), y11, y12, y13, y14, y15, y16, y17, y18, y19, y20, y21] ∧ (match tellsG hs p.r (i : Int) line ((marksAt p (i : Int)).drop m) s told with | none => none | some (.inl e) => some (e, lens') | some (.inr (s', told')) => playG hs src p (p.ss.drop i) ((i : Int) + 1) s' line lines told' lens') = some (found, lens) ∧ told.length ≤ 100 * i + m, ⟨s, told, none, _, _, _, _, _, _, _, _, _, _, _, rfl, rfl, hr, hb1⟩, ?_, ?_⟩))))
      · rintro m d ss' st' hd ⟨s, told, y10, y11, y12, y13, y14, y15, y16, y17, y18, y19, y20, y21, rfl, rfl, hr, hb1⟩
        obtain ⟨j, hj, rfl⟩ : ∃ j, (marksAt p (i : Int))[m]? = some j ∧ d = .int j := by
          rw [List.getElem?_map] at hd
          cases e : (marksAt p (i : Int))[m]? with
          | none => rw [e] at hd; cases hd
          | some x => rw [e] at hd; exact ⟨x, rfl, (Option.some.inj hd).symm⟩
        obtain ⟨hm, e⟩ := List.getElem?_eq_some_iff.mp hj
        rw [List.drop_eq_getElem_cons hm, e] at hr
        unfold tellsG at hr
        cases hst : hs.t s (i : Int) line j with
        | none => rw [hst] at hr; cases hr
        | some pr =>
          obtain ⟨s2, f, l⟩ := pr
          rw [hst] at hr
          simp only at hr
          refine wg_name ?_
          refine ws_sA (we_callF (qT hs) (we_op (we_var rfl (we_c rfl (wr_ixM (ps_old eh) (y := f1) rfl ⟨HV.t, wa_cons (we_var rfl (wa_cons (we_var rfl (wa_cons (we_var rfl (wa_cons (we_var rfl (wa_nil ?_))))))))⟩)))))
          refine ⟨allP_cons trivial (allP_cons trivial (allP_cons trivial (allP_cons trivial allP_nil))), rfl, s, _, _, _, s2, f, l, rfl, by rw [Int.zero_add]; exact hst, trivial, ?_⟩
          refine wg_orT rfl (wgs_consM (wg_name (wgs_consM (wg_name (wgs_consM (wg_name (wgs_nilM ?_)))))))
          refine ws_seq (ws_if (wt_not (wt_B (we_call (wa_cons (we_var rfl (wa_cons (we_var rfl (wa_cons (we_var rfl (wa_nil ⟨by rfl, p, f, l, rfl, ?_⟩)))))))))))
          refine ⟨_, rfl, fun h => ?_, fun h => ?_⟩
          · have h : rightR p.r f l = false := by simpa using h
            rw [h] at hr
            have e1 := (Prod.mk.inj (Option.some.inj hr)).1
            have e2 : lens' = lens := (Prod.mk.inj (Option.some.inj hr)).2
            subst e2
            rw [← e1] at q
            refine ws_ret (we_tup (wa_cons (we_tup (wa_cons (we_c rfl (wa_cons (we_var rfl (wa_cons (we_var rfl (wa_nil ⟨_, _, purs_cons (purs_cons (purs_cons purs_nil)), big_le (by simp), ?_⟩)))))))))) 
            refine wa_cons (we_pur (we_var rfl ⟨.list (lens'.map PyData.int), st ++ [Cell.mu (lines.map PyData.int), .mu (told.map rngD), .fr (lens'.map PyData.int)], ?_, wa_nil ⟨_, _, purs_cons (purs_cons purs_nil), big_le (by simp), ?_⟩⟩))
            · unfold pur
              simp only [ps_2]
              simp [playSto, List.set_append]
            · rw [Int.zero_add]
              exact fin_pd (by simp) q
          · have h : rightR p.r f l = true := by simpa using h
            rw [if_pos h] at hr
            refine ws_next ?_
            refine ws_app ?_
            refine we_var rfl ⟨_, _, rfl, ps_1, ?_⟩
            walk_at "s"
            refine ⟨_, _, _, rfl, ps_1, by rw [List.length_map]; exact big_lt (by omega), ?_⟩
            refine ⟨s2, told ++ [((i : Int), j, f, l)], none, _, _, _, _, _, _, _, _, _, _, _, ?_, rfl, hr, by rw [List.length_append]; simp; omega⟩
            rw [← ps_set1]
            rw [Int.zero_add]
      · rintro ss' st' ⟨s, told, y10, y11, y12, y13, y14, y15, y16, y17, y18, y19, y20, y21, rfl, rfl, hr, hb1⟩
        rw [List.length_map, List.drop_length] at hr
        rw [List.length_map] at hb1
        exact ⟨s, line, lines, told, lens', _, _, _, _, _, _, _, _, _, _, _, _, rfl, rfl, hr, by omega, by omega, by omega⟩
  · rintro ss' st' ⟨s, line, lines, told, lens', y10, y11, y12, y13, y14, y15, y16, y17, y18, y19, y20, y21, rfl, rfl, hr, hb1, hb2, hb3⟩
    rw [show ((p.ss.length : Int) + 1).toNat = p.ss.length + 1 by omega] at hr
    have hr : playG hs src p (p.ss.drop p.ss.length) (((p.ss.length : Nat) : Int) + 1) s line lines told lens' = some (found, lens) := hr
    rw [List.drop_length] at hr
    cases hr
    refine ws_ret (we_tup (wa_cons (we_tup (wa_cons (we_c rfl ?_)))))
    refine wa_cons (we_pur (we_var rfl ⟨.list (lines.map PyData.int), st ++ [Cell.fr (lines.map PyData.int), .mu (told.map rngD), .mu (lens.map PyData.int)], ?_, ?_⟩))
    · unfold pur
      simp only [ps_0]
      simp [playSto]
    refine wa_cons (we_pur (we_var rfl ⟨.list (told.map rngD), st ++ [Cell.fr (lines.map PyData.int), .fr (told.map rngD), .mu (lens.map PyData.int)], ?_, ?_⟩))
    · simp [pur, List.set_append]
    refine wa_nil ⟨_, _, purs_cons (purs_cons (purs_cons purs_nil)), big_le (by simp), ?_⟩
    refine wa_cons (we_pur (we_var rfl ⟨.list (lens.map PyData.int), st ++ [Cell.fr (lines.map PyData.int), .fr (told.map rngD), .fr (lens.map PyData.int)], ?_, ?_⟩))
    · simp [pur, List.set_append]
    refine wa_nil ⟨_, _, purs_cons (purs_cons purs_nil), big_le (by simp), ?_⟩
    exact fin_pd (by simp) q
/-! ### _law_course_holds -/
abbrev N__law_course_holds : List Str := ["purse", "like", "many", "start", "kind", "a", "b", "c", "H", "m", "r", "world", "plan", "house", "source", "lengths", "found", "brought", "turn"]
theorem sc__law_course_holds : FnScope N__law_course_holds ["purse", "like", "many", "start", "kind"] (defScope s__law_course_holds) := ⟨rfl, rfl, rfl, by decide +kernel, rfl, by decide +kernel, by decide +kernel⟩
theorem ok__law_course_holds (c_played : Cal P w K mg base 6 "played" ["plan", "house", "lengths"] (spP K T 3 (pre_played P w K mg base T C_Plan))) (c__law_ranges_hold : Cal P w K mg base 1 "_law_ranges_hold" ["like", "found"] (spP K T 2 pre__law_ranges_hold)) (c__law_play : Cal P w K mg base 8 "_law_play" ["world", "house", "source"] (spP K T 3 (pre__law_play P w K mg base T C_Plan))) (c__law_listed : Cal P w K mg base 1 "_law_listed" ["lengths"] (spP K T 1 (pre__law_listed K))) (c__law_draw : Cal P w K mg base 1 "_law_draw" ["purse", "many"] (spP K T 2 pre__law_draw)) (c__law_seeker : Cal P w K mg base 1 "_law_seeker" ["like", "seed"] (spP K T 2 (pre__law_seeker K))) (c_ever_house : Cal P w K mg base 5 "ever_house" ["a", "b", "c", "H", "m", "r"] (spP K T 6 (pre_ever_house K))) (c_Plan_rows : CalM P w K mg base 2 C_Plan "rows" ["self"] (spP K T 1 (pre_Plan_rows K C_Plan))) (c_like_plan : Cal P w K mg base 7 "like_plan" ["a", "b", "c", "H", "m", "r", "N", "start"] (spP K T 8 (pre_like_plan K C_Plan))) (c__law_like_world : Cal P w K mg base 1 "_law_like_world" ["like", "many", "start"] (spP K T 3 pre__law_like_world)) (Z : Zs mg) (h_Plan : Cls K C_Plan) (na_Plan : ∀ f ∈ fl_Plan, NoAttr K C_Plan f) (hH : ∀ (a b c H m r : Int) (p : PlanR), Good a b c H m r → HouseV P w K mg base T kClo (everHS a b c H m r p.s) (planO K C_Plan p) (evB K) (evT K a b c H m r) (evS K a b c H m r)) (hLis : ∀ Ls : List Int, FnV P w K mg base T kClo (lisV K Ls) 3 (qSrc (srcL Ls))) (hSk : ∀ a b c H m r seed : Int, Good a b c H m r → FnV P w K mg base T kClo (skV K a b c H m r seed) 3 (qSrc (srcS a b c H m r seed))) (dd : Df K mg "_law_course_holds" s__law_course_holds) : Cal P w K mg base 9 "_law_course_holds" ["purse", "like", "many", "start", "kind"] (spP K T 5 (pre__law_course_holds K)) := by
  refine dd.cal (fun f fd F => F.ok sc__law_course_holds (fun vs H Q E h => spP_len h) fun cdv A outer s H vs Q E hr h => ?_) (fun _ _ _ _ _ _ us hl => match us, hl with | [_, _, _, _, _], _ => rfl)
  have nd := sc__law_course_holds.nd
  have hu := room_u hr
  refine ⟨_, (pss_cons (ps_asg (pv 1) (pg_or (pg_tup (n := 6) rfl (pgs_cons (pg_name (i := 5) nd rfl (.inr rfl)) (pgs_cons (pg_name (i := 6) nd rfl (.inr rfl)) (pgs_cons (pg_name (i := 7) nd rfl (.inl rfl)) (pgs_cons (pg_name (i := 8) nd rfl (.inl rfl)) (pgs_cons (pg_name (i := 9) nd rfl (.inl rfl)) (pgs_cons (pg_name (i := 10) nd rfl (.inl rfl)) pgs_nil))))))) (pg_unl (n := 6) rfl (pgs_cons (pg_name (i := 5) nd rfl (.inr rfl)) (pgs_cons (pg_name (i := 6) nd rfl (.inr rfl)) (pgs_cons (pg_name (i := 7) nd rfl (.inl rfl)) (pgs_cons (pg_name (i := 8) nd rfl (.inl rfl)) (pgs_cons (pg_name (i := 9) nd rfl (.inl rfl)) (pgs_cons (pg_name (i := 10) nd rfl (.inl rfl)) pgs_nil))))))))) (pss_cons (ps_asg (pe_callC c__law_like_world (hr.mono (by decide)) (by rfl) (pa_cons (pv 1) (pa_cons (pv 2) (pa_cons (pv 3) pa_nil)))) (pg_name (i := 11) nd rfl (.inl rfl))) (pss_cons (ps_asg (pe_callC c_like_plan (hr.mono (by decide)) (by rfl) (pa_cons (pv 5) (pa_cons (pv 6) (pa_cons (pv 7) (pa_cons (pv 8) (pa_cons (pv 9) (pa_cons (pv 10) (pa_cons (pv 2) (pa_cons (pv 3) pa_nil))))))))) (pg_name (i := 12) nd rfl (.inl rfl))) (pss_cons (ps_if (pt_cmpR (op_neK (K := K) rfl hu) (pe_methC0 c_Plan_rows h_Plan (hr.mono (by decide)) (pv 12)) (pe_tup (pa_cons (pv 3) (pa_cons (pe_tup (pa_cons pe_str (pa_cons (pv 8) pa_nil))) (pa_cons (pv 10) (pa_cons (pe_ix (ix_seqK (K := K) rfl) (pv 11) pe_int (fun _ _ => rfl)) (pa_cons (pe_ix (ix_seqK (K := K) rfl) (pv 11) pe_int (fun _ _ => rfl)) pa_nil)))))) (nomark _)) (pss_one (ps_ret pe_bl)) pss_nil) (pss_cons (ps_asg (pe_callC c_ever_house (hr.mono (by decide)) (by rfl) (pa_cons (pv 5) (pa_cons (pv 6) (pa_cons (pv 7) (pa_cons (pv 8) (pa_cons (pv 9) (pa_cons (pv 10) pa_nil))))))) (pg_name (i := 13) nd rfl (.inl rfl))) (pss_cons (ps_asg (pe_callC c__law_seeker (hr.mono (by decide)) (by rfl) (pa_cons (pv 1) (pa_cons (pe_callC c__law_draw (hr.mono (by decide)) (by rfl) (pa_cons (pv 0) (pa_cons pe_int pa_nil))) pa_nil))) (pg_name (i := 14) nd rfl (.inl rfl))) (pss_cons (ps_if (pt_cmpR (op_neK (K := K) rfl hu) (pv 4) pe_int (nomark _)) (pss_cons (ps_setLc (i := 15) (own := [("turn", 18)]) (g := gName 18) (tt := tYes) rfl nd rfl rfl (sw_true rfl rfl rfl (by decide +kernel)) (pi_range1 rfl Z.range_ (pa_cons (pv 2) pa_nil)) (blkOk_by (N := N__law_course_holds) (sc := defScope s__law_course_holds) (by decide +kernel)) (fun _ _ _ _ _ => (pg_name (i := 18) nd rfl (.inl rfl))) (fun _ _ _ _ _ => pts_nil) (fun _ _ _ _ _ => (pe_ifExp (pt_cmpR (op_eqK (K := K) rfl hu) (pv 4) pe_int (nomark _)) (pv 5) (pe_ifExp (pt_cmpR (op_eqK (K := K) rfl hu) (pv 4) pe_int (nomark _)) (pv 6) (pe_op (op_addK (K := K) rfl) (pv 5) (pe_callC c__law_draw (hr.mono (by decide)) (by rfl) (pa_cons (pv 0) (pa_cons (pe_op (op_addK (K := K) rfl) (pe_op op_sub (pv 6) (pv 5)) pe_int) pa_nil)))))))) (pss_one (ps_asg (pe_callC c__law_listed (hr.mono (by decide)) (by rfl) (pa_cons (pv 15) pa_nil)) (pg_name (i := 14) nd rfl (.inl rfl))))) pss_nil) (pss_cons (ps_asg (pe_callC c__law_play (hr.mono (by decide)) (by rfl) (pa_cons (pv 11) (pa_cons (pv 13) (pa_cons (pv 14) pa_nil)))) (pg_or (pg_tup (n := 2) rfl (pgs_cons (pg_name (i := 16) nd rfl (.inl rfl)) (pgs_cons (pg_name (i := 17) nd rfl (.inl rfl)) pgs_nil))) (pg_unl (n := 2) rfl (pgs_cons (pg_name (i := 16) nd rfl (.inl rfl)) (pgs_cons (pg_name (i := 17) nd rfl (.inl rfl)) pgs_nil))))) (pss_cons (ps_if (PW.pt (pw_or (pt_cmpR (op_neK (K := K) rfl hu) (pe_ix (ix_seqK (K := K) rfl) (pv 16) pe_int (fun _ _ => rfl)) pe_str (nomark _)) (pw_or (pt_not (pt_val (pe_callC c__law_ranges_hold (hr.mono (by decide)) (by rfl) (pa_cons (pv 1) (pa_cons (pv 16) pa_nil))))) (pw_or1 (pt_cmpR (op_neK (K := K) rfl hu) (pe_callB (call_lenK (K := K) rfl) (by rfl) Z.len PySem.boot_len (pa_cons (pe_ix (ix_seqK (K := K) rfl) (pv 16) pe_int (fun _ _ => rfl)) pa_nil)) (pe_callB (call_max2 rfl) (by rfl) Z.max boot_max (pa_cons pe_int (pa_cons (pe_op (op_addK (K := K) rfl) (pe_op op_sub (pv 2) (pv 9)) pe_int) pa_nil))) (nomark _)))))) (pss_one (ps_ret pe_bl)) pss_nil) (pss_one (ps_ret (pe_cmpR (op_eqK (K := K) rfl hu) (pe_callC c_played (hr.mono (by decide)) (by rfl) (pa_cons (pv 12) (pa_cons (pv 13) (pa_cons (pv 17) pa_nil)))) (pv 16) (nomark _))))))))))))), fn_run h ?_⟩
  intro xs st Φ hl hp
  clear hl h hu hr nd
  try dsimp only [L2.cxOf, NdefX.ncx]
  obtain ⟨n, a, b, c, H, m, r, many, start, kind, rfl, G, hE, ⟨hm0, hm1⟩, ⟨hs0, hs1⟩, hba, hgap, hP, q⟩ := hp
  have hf := fits_of G hE
  have hn := pur_lt hP
  have G' := G
  obtain ⟨⟨g1, g2, g3, g4, g5⟩, ⟨g6, g7, g8⟩, g9, g10, g11, g12, g13, g14⟩ := G'
  have ok := likeP_ok G hs0 hs1 hm0 hm1
  refine ws_sA (we_var rfl (wg_orL rfl ?_))
  refine wgs_consM (wg_name (wgs_consM (wg_name (wgs_consM (wg_name (wgs_consM (wg_name (wgs_consM (wg_name (wgs_consM (wg_name (wgs_nilM ?_))))))))))))
  refine ws_sA (we_call (wa_cons (we_var rfl (wa_cons (we_var rfl (wa_cons (we_var rfl (wa_nil ⟨by rfl, a, b, c, H, m, r, many, start, rfl, ⟨hm0, hm1, g7, by omega⟩, wg_name ?_⟩))))))))
  refine ws_sA (we_call ?_)
  refine wa_cons (we_var rfl (wa_cons (we_var rfl (wa_cons (we_var rfl (wa_cons (we_var rfl (wa_cons (we_var rfl (wa_cons (we_var rfl (wa_cons (we_var rfl (wa_cons (we_var rfl (wa_nil ?_))))))))))))))))
  refine ⟨by rfl, a, b, c, H, m, r, many, start, rfl, G, ⟨hs0, hs1⟩, ⟨hm0, hm1⟩, wg_name ?_⟩
  have hHV := hH a b c H m r (likeP a b c H m r many start) G
  have hrw : (likeP a b c H m r many start).s = start ∧ (likeP a b c H m r many start).H = H ∧ (likeP a b c H m r many start).r = r := ⟨rfl, rfl, rfl⟩
  have course := fun (src : Int → Int → List Rng → Option Int) hsrc => K77.course hf (N := many) (start := start) hm0 (by omega) hs0 (free_gap.mp hgap) (src := src) hsrc
  have htl : (likeP a b c H m r many start).ss.length = many.toNat := by simp [likeP]
  have hsec : ∀ (i : Nat) (s : Sec), (likeP a b c H m r many start).ss[i]? = some s → s = (a, b, c) := fun i s h => (List.mem_replicate.mp (List.mem_of_getElem? h)).2
  generalize hp : likeP a b c H m r many start = p at ok hHV hrw course htl hsec ⊢
  obtain ⟨e1, e2, e3⟩ := hrw
  refine ws_seq (ws_if (wt_test (we_op (we_meth (we_var rfl ⟨_, .ob, rfl, wa_nil ⟨by rfl, p, rfl, ?_⟩⟩)))))
  refine we_tup (wa_cons (we_var rfl (wa_cons (we_tup (wa_cons (we_c rfl (wa_cons (we_var rfl (wa_nil ⟨_, _, purs_cons (purs_cons purs_nil), big_le (by simp), ?_⟩)))))))))
  refine wa_cons (we_var rfl (wa_cons (we_op (we_var rfl (we_c rfl (wr_ixuL rfl (d := .list (p.ss.map secD)) rfl ?_))))))
  refine wa_cons (we_op (we_var rfl (we_c rfl (wr_ixuL rfl (d := .list (p.ts.map pairT)) rfl (wa_nil ⟨_, _, by (repeat apply purs_cons); exact purs_nil, big_le (by simp), ?_⟩)))))
  have shp := (sh_plan (k := 0) p).shaped
  rw [e1, e2, e3] at shp
  rw [e1, e2, e3]
  refine wr_neD rfl rfl shp shp ?_
  rw [PySem.SeqAt.eqv_refl _ (by have := (sh_plan (k := 0) p).1; rw [e1, e2, e3] at this; exact this)]
  refine ⟨_, rfl, fun h => (by cases h), fun _ => ?_⟩
  refine ws_next ?_
  refine ws_sA (we_call ?_)
  refine wa_cons (we_var rfl (wa_cons (we_var rfl (wa_cons (we_var rfl (wa_cons (we_var rfl (wa_cons (we_var rfl (wa_cons (we_var rfl (wa_nil ?_))))))))))))
  refine ⟨by rfl, a, b, c, H, m, r, rfl, G, wg_name ?_⟩
  rw [e1] at hHV
  refine ws_sA (we_call (wa_cons (we_var rfl (wa_cons (we_call ?_)))))
  refine wa_cons (we_var rfl (wa_cons (we_c rfl (wa_nil ⟨by rfl, n, 1000, rfl, by omega, by omega, (pur_app hP), fun v st2 v0 v1 o2 p2 => ?_⟩))))
  refine wa_nil ⟨by rfl, a, b, c, H, m, r, v, rfl, wg_name ?_⟩
  have G2 : Grow st st2 n := Grow.app.trans (only_grow o2)
  have hst2 : st2[st.length]? = some (.ml [evB K, evT K a b c H m r, evS K a b c H m r]) := by
    rw [o2.at_ _ (by omega)]
    exact get_end
  have hl2 : st2.length = st.length + 1 := by
    rw [o2.len]
    simp
  refine ws_mid (fun ss' st' => ∃ (srcv : Val) (src : Int → Int → List Rng → Option Int) (y15 y18 : Option Val), ss' = [vC n, vD (likeD a b c H m r), vI many, vI start, vI kind, vI a, vI b, vI c, vI H, vI m, vI r, vD (worldD p), some (planO K C_Plan p), vC st.length, some srcv, y15, none, none, y18] ∧
    FnV P w K mg base T kClo srcv 3 (qSrc src) ∧ (∀ (j : Nat) (line : Int) (told : List Rng), (j : Int) + 1 ≤ many → ∃ L, src ((j : Int) + 1) line told = some L ∧ a ≤ L ∧ L ≤ b) ∧ Grow st st' n ∧ Pur st' n ∧ st'[st.length]? = some (.ml [evB K, evT K a b c H m r, evS K a b c H m r])) ?_ ?_
  · refine ws_if ?_
    walk_at "s"
    refine ⟨fun _ => ?_, fun _ => ?_⟩
    · refine ws_sA (we_pur (we_lcR1S (gw_name (by simp)) ?_))
      refine wa_cons (we_var rfl (wa_nil ⟨_, rfl, by omega, by omega, fun i st' => Grow st2 st' n ∧ Pur st' n ∧ ∃ Ls : List Int, Ls.length = i ∧ (∀ L ∈ Ls, a ≤ L ∧ L ≤ b) ∧ st'[st2.length]? = some (.mu (Ls.map PyData.int)), ⟨Grow.app, pur_app p2, [], rfl, (fun L h => by cases h), get_end⟩, ?_, ?_⟩))
      · rintro i st' hi ⟨gr, pu, Ls, l1, l2, l3⟩
        have hn2 := pur_lt p2
        have fin : ∀ (L : Int) (st3 : Sto), a ≤ L → L ≤ b → Only st' st3 n → Pur st3 n → ∃ dy st5 acc, pur (.pd (.int L)) st3 = some (dy, st5) ∧ st5[st2.length]? = some (.mu acc) ∧ acc.length < sizeLine ∧ (Grow st2 (st5.set st2.length (.mu (acc ++ [dy]))) n ∧ Pur (st5.set st2.length (.mu (acc ++ [dy]))) n ∧ ∃ Ls : List Int, Ls.length = i + 1 ∧ (∀ L ∈ Ls, a ≤ L ∧ L ≤ b) ∧ (st5.set st2.length (.mu (acc ++ [dy])))[st2.length]? = some (.mu (Ls.map PyData.int))) := fun L st3 h1 h2 o3 p3 => by
          have l3' : st3[st2.length]? = some (.mu (Ls.map PyData.int)) := (o3.at_ _ (by omega)).trans l3
          refine ⟨.int L, st3, _, rfl, l3', by rw [List.length_map]; exact big_lt (by omega), (gr.trans (only_grow o3)).set (Nat.le_refl _), pur_set p3 (by omega), Ls ++ [L], by rw [List.length_append, l1]; rfl, fun z hz => ?_, ?_⟩
          · rcases List.mem_append.mp hz with hz | hz
            · exact l2 z hz
            · rw [List.mem_singleton.mp hz]
              exact ⟨h1, h2⟩
          · rw [List.map_append]
            exact get_setSelf l3'
        walk_at "s"
        refine ⟨fun _ => ?_, fun h => (by cases h)⟩
        walk_at "s"
        refine ⟨fun _ => ?_, fun _ => ?_⟩
        · walk_at "s"
          exact fin a st' (Int.le_refl _) g2 Only.refl pu
        · walk_at "s"
          refine ⟨fun _ => ?_, fun _ => ?_⟩
          · walk_at "s"
            exact fin b st' g2 (Int.le_refl _) Only.refl pu
          · walk_at "s"
            refine ⟨by rfl, n, _, rfl, by omega, by omega, pu, fun v st3 v0 v1 o3 p3 => ?_⟩
            walk_at "s"
            exact fin (a + v) st3 (by omega) (by omega) o3 p3
      · rintro st' ⟨gr, pu, Ls, l1, l2, l3⟩
        refine ⟨.list (Ls.map PyData.int), st'.set st2.length (.fr (Ls.map PyData.int)), (by simp only [pur, l3]), wg_name ?_⟩
        refine ws_asg (we_call (wa_cons (we_var rfl (wa_nil ⟨by rfl, Ls, rfl, wg_name ?_⟩))))
        have hn2 := pur_lt p2
        refine ⟨lisV K Ls, srcL Ls, _, _, rfl, hLis Ls, fun j line told hj => ?_, (G2.trans gr).set (by omega), pur_set pu (by omega), ?_⟩
        · have hj2 : j < Ls.length := by omega
          refine ⟨Ls[j], ?_, l2 _ (List.getElem_mem hj2)⟩
          unfold srcL
          rw [if_pos (by omega), show ((j : Int) + 1 - 1).toNat = j by omega, List.getElem?_eq_getElem hj2]
        · rw [List.getElem?_set_ne (by omega), gr.at_ _ (by omega) (by omega)]
          exact hst2
    · refine ws_next ⟨skV K a b c H m r v, srcS a b c H m r v, _, _, rfl, hSk a b c H m r v G, fun j line told hj => ?_, G2, p2, hst2⟩
      unfold srcS
      rw [if_pos (by omega)]
      exact ⟨_, rfl, seek_bd g2⟩
  · rintro ss' st' ⟨srcv, src, y15, y18, rfl, hFS, hsrc, gr, pu, hst⟩
    obtain ⟨lines, told, lens, c1, c2, c3, c4, c5, c6⟩ := course src hsrc
    refine ws_sA (we_call (wa_cons (we_var rfl (wa_cons (we_var rfl (wa_cons (we_var rfl (wa_nil ⟨by rfl, everHS a b c H m r start, src, srcv, st.length, p, evB K, evT K a b c H m r, evS K a b c H m r, trueD lines told, lens, rfl, hst, hHV, hFS, ok, c1, ?_⟩))))))))
    refine wg_orT rfl (wgs_consM (wg_name (wgs_consM (wg_name (wgs_nilM ?_)))))
    refine ws_seq (ws_if ?_)
    refine wt_or (wt_test (we_op (we_op (we_var rfl (we_c rfl (wr_ixuT (d := .str "true") rfl (we_c rfl ?_)))))))
    walk_at "s"
    refine ⟨fun h => absurd h (by decide +kernel), fun _ => ?_⟩
    refine wt_or (wt_not (wt_B (we_call (wa_cons (we_var rfl (wa_cons (we_var rfl (wa_nil ⟨by rfl, a, b, c, H, m, r, lines, told, rfl, G, c5, ?_⟩))))))))
    refine ⟨_, rfl, fun h => (by cases h), fun _ => ?_⟩
    refine wt_test (we_op (we_cb (wa_cons (we_op (we_var rfl (we_c rfl (wr_ixuT (d := .list (told.map rngD)) rfl (wa_nil (wc_len rfl ?_)))))))))
    rw [List.length_map, c6]
    walk_at "s"
    refine ⟨fun h => absurd h ?_, fun _ => ?_⟩
    · have e : (((many - m + 1).toNat : Nat) : Int) = if many - m + 1 > 0 then many - m + 1 else 0 := by split <;> omega
      rw [e]
      simp
    refine ws_next ?_
    refine ws_ret (we_op (we_call (wa_cons (we_var rfl (wa_cons (we_var rfl (wa_cons (we_var rfl (wa_nil ⟨by rfl, everHS a b c H m r start, st.length, p, evB K, evT K a b c H m r, evS K a b c H m r, lens, trueD lines told, rfl, hst, hHV, ok, by rw [c3, htl], fun i s L h1 h2 => ?_, c2, we_var rfl ?_⟩)))))))))
    · rw [hsec i s h1]
      exact c4 L (List.mem_of_getElem? h2)
    refine wr_eqD rfl rfl (sh_true (k := 0) lines told).shaped (sh_true (k := 0) lines told).shaped ?_
    rw [PySem.SeqAt.eqv_refl _ (sh_true (k := 0) lines told).1]
    exact .inl (q st' gr pu)
/-! ### law -/
abbrev N_law : List Str := ["script", "purse", "like", "a", "b", "c", "H", "m", "r", "told", "more", "many", "free", "kinds", "turn", "line"]
theorem sc_law : FnScope N_law ["script"] (defScope s_law) := ⟨rfl, rfl, rfl, by decide +kernel, rfl, by decide +kernel, by decide +kernel⟩
theorem fn_law (c__law_course_holds : Cal P w K mg base 9 "_law_course_holds" ["purse", "like", "many", "start", "kind"] (spP K T 5 (pre__law_course_holds K))) (c__law_draw : Cal P w K mg base 1 "_law_draw" ["purse", "many"] (spP K T 2 pre__law_draw)) (c__law_mix : Cal P w K mg base 2 "_law_mix" ["purse", "things"] (spP K T 2 pre__law_mix)) (c__law_is_gap : Cal P w K mg base 1 "_law_is_gap" ["like", "line"] (spP K T 2 pre__law_is_gap)) (c__law_purse : Cal P w K mg base 1 "_law_purse" ["script", "at"] (spP K T 2 pre__law_purse)) (c__law_forever : Cal P w K mg base 2 "_law_forever" ["like"] (spP K T 1 pre__law_forever)) (c_for_ever : Cal P w K mg base 7 "for_ever" ["a", "b", "c", "H", "m", "r"] (spP K T 6 pre_for_ever)) (c__law_draw_verdict : Cal P w K mg base 3 "_law_draw_verdict" ["purse", "word", "most"] (spP K T 3 pre__law_draw_verdict)) (Z : Zs mg) {f : Addr} {fd : FuncData} (F : Fun K "law" "law" s_law f fd) : FnOk P w K mg base CX0 10 f fd ["script"] (spP K T 1 pre_law) := by
  refine F.ok sc_law (fun vs H Q E h => spP_len h) fun cdv A outer s H vs Q E hr h => ?_
  have nd := sc_law.nd
  have hu := room_u hr
  refine ⟨_, (pss_cons (ps_asg (pe_callC c__law_purse (hr.mono (by decide)) (by rfl) (pa_cons (pv 0) (pa_cons pe_int pa_nil))) (pg_name (i := 1) nd rfl (.inl rfl))) (pss_cons (ps_asg (pe_callC c__law_draw_verdict (hr.mono (by decide)) (by rfl) (pa_cons (pv 1) (pa_cons pe_str (pa_cons pe_int pa_nil)))) (pg_name (i := 2) nd rfl (.inr rfl))) (pss_cons (ps_asg (pv 2) (pg_or (pg_tup (n := 6) rfl (pgs_cons (pg_name (i := 3) nd rfl (.inl rfl)) (pgs_cons (pg_name (i := 4) nd rfl (.inl rfl)) (pgs_cons (pg_name (i := 5) nd rfl (.inl rfl)) (pgs_cons (pg_name (i := 6) nd rfl (.inl rfl)) (pgs_cons (pg_name (i := 7) nd rfl (.inl rfl)) (pgs_cons (pg_name (i := 8) nd rfl (.inl rfl)) pgs_nil))))))) (pg_unl (n := 6) rfl (pgs_cons (pg_name (i := 3) nd rfl (.inl rfl)) (pgs_cons (pg_name (i := 4) nd rfl (.inl rfl)) (pgs_cons (pg_name (i := 5) nd rfl (.inl rfl)) (pgs_cons (pg_name (i := 6) nd rfl (.inl rfl)) (pgs_cons (pg_name (i := 7) nd rfl (.inl rfl)) (pgs_cons (pg_name (i := 8) nd rfl (.inl rfl)) pgs_nil))))))))) (pss_cons (ps_asg (pe_callC c_for_ever (hr.mono (by decide)) (by rfl) (pa_cons (pv 3) (pa_cons (pv 4) (pa_cons (pv 5) (pa_cons (pv 6) (pa_cons (pv 7) (pa_cons (pv 8) pa_nil))))))) (pg_name (i := 9) nd rfl (.inl rfl))) (pss_cons (ps_if (PW.pt (pw_or (pt_not (pt_val (pe_callB (call_isiK (K := K) rfl) (by rfl) Z.isinstance boot_isinstance (pa_cons (pv 9) (pa_cons (pe_tyN (by rfl) Z.tuple_ boot_tuple) pa_nil))))) (pw_or1 (pt_cmpR (op_neK (K := K) rfl hu) (pv 9) (pe_callC c__law_forever (hr.mono (by decide)) (by rfl) (pa_cons (pv 2) pa_nil)) (nomark _))))) (pss_one (ps_ret pe_bl)) pss_nil) (pss_cons (ps_asg (pe_callC c__law_purse (hr.mono (by decide)) (by rfl) (pa_cons (pv 0) (pa_cons pe_int pa_nil))) (pg_name (i := 10) nd rfl (.inl rfl))) (pss_cons (ps_asg (pe_ifExp (pt_cmpR (op_eqK (K := K) rfl hu) (pe_callC c__law_draw (hr.mono (by decide)) (by rfl) (pa_cons (pv 10) (pa_cons pe_int pa_nil))) pe_int (nomark _)) pe_int (pe_op (op_addK (K := K) rfl) pe_int (pe_callC c__law_draw (hr.mono (by decide)) (by rfl) (pa_cons (pv 10) (pa_cons pe_int pa_nil))))) (pg_name (i := 11) nd rfl (.inl rfl))) (pss_cons (ps_setLc (i := 12) (own := [("line", 15)]) (g := gName 15) (tt := _) rfl nd rfl rfl (sw_true rfl rfl rfl (by decide +kernel)) (pi_range1 rfl Z.range_ (pa_cons (pe_op op_mul pe_int (pv 6)) pa_nil)) (blkOk_by (N := N_law) (sc := defScope s_law) (by decide +kernel)) (fun _ _ _ _ _ => (pg_name (i := 15) nd rfl (.inl rfl))) (fun _ _ _ _ _ => (pts_one (pt_not (pt_val (pe_callC c__law_is_gap (hr.mono (by decide)) (by rfl) (pa_cons (pv 2) (pa_cons (pv 15) pa_nil))))))) (fun _ _ _ _ _ => (pv 15))) (pss_cons (ps_asg (pe_callC c__law_mix (hr.mono (by decide)) (by rfl) (pa_cons (pv 10) (pa_cons (pe_lst (pa_cons pe_int (pa_cons pe_int (pa_cons pe_int (pa_cons pe_int pa_nil))))) pa_nil))) (pg_name (i := 13) nd rfl (.inl rfl))) (pss_cons (ps_for PassesOwn.never rfl (pi_range1 rfl Z.range_ (pa_cons pe_int pa_nil)) (pg_name (i := 14) nd rfl (.inl rfl)) (pss_cons (ps_if (pt_not (pt_val (pe_callC c__law_course_holds (hr.mono (by decide)) (by rfl) (pa_cons (pv 10) (pa_cons (pv 2) (pa_cons (pv 11) (pa_cons (pe_ix (ix_seqK (K := K) rfl) (pv 12) (pe_callC c__law_draw (hr.mono (by decide)) (by rfl) (pa_cons (pv 10) (pa_cons (pe_callB (call_lenK (K := K) rfl) (by rfl) Z.len PySem.boot_len (pa_cons (pv 12) pa_nil)) pa_nil))) (fun _ _ => rfl)) (pa_cons (pe_ix (ix_seqK (K := K) rfl) (pv 13) (pv 14) (fun _ _ => rfl)) pa_nil)))))))) (pss_one (ps_ret pe_bl)) pss_nil) (pss_one (ps_asg (pe_op (op_addK (K := K) rfl) pe_int (pe_callC c__law_draw (hr.mono (by decide)) (by rfl) (pa_cons (pv 10) (pa_cons pe_int pa_nil)))) (pg_name (i := 11) nd rfl (.inl rfl)))))) (pss_one (ps_ret (pe_callC c__law_course_holds (hr.mono (by decide)) (by rfl) (pa_cons (pv 10) (pa_cons (pv 2) (pa_cons (pe_callC c__law_draw (hr.mono (by decide)) (by rfl) (pa_cons (pv 10) (pa_cons (pe_op (op_addK (K := K) rfl) (pv 7) pe_int) pa_nil))) (pa_cons (pe_ix (ix_seqK (K := K) rfl) (pv 12) pe_int (fun _ _ => rfl)) (pa_cons (pe_ix (ix_seqK (K := K) rfl) (pv 13) pe_int (fun _ _ => rfl)) pa_nil)))))))))))))))))), fn_run h ?_⟩
  intro xs st Φ hl hp
  clear hl h hu hr nd
  try dsimp only [L2.cxOf, NdefX.ncx]
  obtain ⟨ns, rfl, hl, q⟩ := hp
  refine ws_sA (we_call (wa_cons (we_var rfl (wa_cons (we_c rfl (wa_nil ⟨by rfl, ns, 0, rfl, hl, by omega, by omega, fun p0 p1 => wg_name ?_⟩))))))
  refine ws_sA (we_call (wa_cons (we_var rfl (wa_cons (we_c rfl (wa_cons (we_c rfl (wa_nil ⟨by rfl, st.length, rfl, purse_pur get_end, fun a b c H m r st1 L hE o1 p1 => wg_name ?_⟩))))))))
  have G := L.good
  have f := fits_of G hE
  obtain ⟨hba, hH3⟩ := likeOk_small L
  refine ws_sA (we_var rfl (wg_orL rfl ?_))
  refine wgs_consM (wg_name (wgs_consM (wg_name (wgs_consM (wg_name (wgs_consM (wg_name (wgs_consM (wg_name (wgs_consM (wg_name (wgs_nilM ?_))))))))))))
  refine ws_sA (we_call ?_)
  refine wa_cons (we_var rfl (wa_cons (we_var rfl (wa_cons (we_var rfl (wa_cons (we_var rfl (wa_cons (we_var rfl (wa_cons (we_var rfl (wa_nil ?_))))))))))))
  refine ⟨by rfl, a, b, c, H, m, r, rfl, G, wg_name ?_⟩
  have hsh := (sh_ver (k := 1) (forEver a b c H m r)).shaped
  have hrf := PySem.SeqAt.eqv_refl _ (sh_ver (k := 1) (forEver a b c H m r)).1
  obtain ⟨ds, hds⟩ := ver_tup (forEver a b c H m r)
  refine ws_seq (ws_if (wt_or (wt_not (wt_B (we_cb (wa_cons (we_var rfl (wa_cons (we_ty (wa_nil ?_)))))))))) 
  refine wc_isi (d := eVer (forEver a b c H m r)) (b := true) rfl (by rw [hds]; rfl) ?_
  refine ⟨_, rfl, fun h => (by cases h), fun _ => ?_⟩
  refine wt_test (we_op (we_var rfl (we_call (wa_cons (we_var rfl (wa_nil ⟨by rfl, a, b, c, H, m, r, rfl, G, ?_⟩))))))
  refine wr_neD rfl rfl hsh hsh ?_
  rw [hrf]
  refine ⟨_, rfl, fun h => (by cases h), fun _ => ?_⟩
  refine ws_next ?_
  clear hds hrf hsh
  generalize eVer (forEver a b c H m r) = vd0
  refine ws_sA (we_call (wa_cons (we_var rfl (wa_cons (we_c rfl (wa_nil ⟨by rfl, ns, 1, rfl, hl, by omega, by omega, fun q0 q1 => wg_name ?_⟩))))))
  have pm : Pur (st1 ++ [Cell.mu [.int q0, .int q1, .int 1]]) st1.length := purse_pur get_end
  generalize hn : st1.length = n at pm ⊢
  generalize (st1 ++ [Cell.mu [.int q0, .int q1, .int 1]]) = st2 at pm ⊢
  refine ws_mid (fun ss' st' => Pur st' n ∧ ∃ many : Int, (0 ≤ many ∧ many ≤ 60) ∧ ss' = [vL (ns.map PyData.int), vC st.length, vD (likeD a b c H m r), vI a, vI b, vI c, vI H, vI m, vI r, vD vd0, vC n, vI many, none, none, none, none]) ?_ ?_
  · refine ws_asg (we_if (wt_test (we_op (we_call (wa_cons (we_var rfl (wa_cons (we_c rfl (wa_nil ⟨by rfl, n, 12, rfl, by omega, by omega, pm, fun v st3 v0 v1 o3 p3 => we_c rfl ?_⟩)))))))))
    walk_at "s"
    refine ⟨fun _ => ?_, fun _ => ?_⟩
    · walk_at "s"
      exact ⟨p3, _, by omega, rfl⟩
    · walk_at "s"
      refine ⟨by rfl, n, 24, rfl, by omega, by omega, p3, fun v st4 v0 v1 o4 p4 => ?_⟩
      walk_at "s"
      exact ⟨p4, _, by omega, rfl⟩
  rintro ss' st3 ⟨p3, many, ⟨m0, m1⟩, rfl⟩
  have hH1 := f.H1
  refine ws_sA (we_lcR1 (gw_name (by simp)) ?_)
  walk_at "s"
  refine ⟨by omega, by omega, big_lt (by omega), fun i => if (!isGap a b c H m r (0 + (i : Int))) = true then some (.int (0 + (i : Int))) else none, ?_, ?_⟩
  · intro i acc hi
    refine wg_name (wt_not (wt_B (we_call (wa_cons (we_var rfl (wa_cons (we_var rfl (wa_nil ⟨by rfl, a, b, c, H, m, r, _, rfl, G, ?_⟩))))))))
    refine ⟨_, rfl, fun h => ?_, fun h => ?_⟩
    · walk_at "s"
      exact ⟨_, _, rfl, take_snoc, if_pos h⟩
    · exact ⟨take_snoc, if_neg (by rw [h]; exact Bool.false_ne_true)⟩
  rw [filt_rng _ 0 fun j => !isGap a b c H m r j, show ((List.range (3 * H).toNat).map fun (i : Nat) => (0 : Int) + (i : Int)).filter (fun j => !isGap a b c H m r j) = freeL a b c H m r from rfl]
  have hfm := fun l (h : l ∈ freeL a b c H m r) => freeL_mem h
  have hfn := freeL_ne f
  have hfl : (freeL a b c H m r).length ≤ 36 := by
    unfold freeL
    refine Nat.le_trans (List.length_filter_le _ _) ?_
    simp
    omega
  generalize freeL a b c H m r = fl at hfm hfn hfl ⊢
  have hfp : 0 < fl.length := List.length_pos_iff.mpr hfn
  refine wg_name ?_
  refine ws_sA (we_call (wa_cons (we_var rfl (wa_cons (we_lst ?_)))))
  refine wa_cons (we_c rfl (wa_cons (we_c rfl (wa_cons (we_c rfl (wa_cons (we_c rfl (wa_nil ⟨_, _, purs_cons (purs_cons (purs_cons (purs_cons purs_nil))), big_le (by simp), wa_nil ?_⟩))))))))
  refine ⟨by rfl, n, [0, 1, 2, 3], rfl, by simp, p3, fun st4 ks k1 k2 gr4 p4 => wg_name ?_⟩
  have hk : ∀ (i : Nat), i < 4 → ∃ k, atI (ks.map PyData.int) (i : Int) = some (.int k) := fun i hi => by
    have : i < ks.length := by rw [k1]; exact hi
    exact ⟨ks[i], atI_nat (by rw [List.getElem?_map, List.getElem?_eq_getElem this]; rfl)⟩
  refine ws_seq (ws_forR1 (wa_cons (we_c rfl (wa_nil ⟨_, rfl, by omega, by omega, fun i ss' st' => Pur st' n ∧ ∃ (many : Int) (y14 : Option Val), (0 ≤ many ∧ many ≤ 60) ∧ ss' = [vL (ns.map PyData.int), vC st.length, vD (likeD a b c H m r), vI a, vI b, vI c, vI H, vI m, vI r, vD vd0, vC n, vI many, vL (fl.map PyData.int), vL (ks.map PyData.int), y14, none], ⟨p4, many, none, ⟨m0, m1⟩, rfl⟩, ?_, ?_⟩))))
  · rintro i ss' st' hi ⟨pu, many, y14, ⟨m0, m1⟩, rfl⟩
    refine wg_name ?_
    refine ws_seq (ws_if (wt_not (wt_B (we_call ?_))))
    refine wa_cons (we_var rfl (wa_cons (we_var rfl (wa_cons (we_var rfl ?_)))))
    refine wa_cons (we_op (we_var rfl (we_call (wa_cons (we_var rfl (wa_cons (we_cb (wa_cons (we_var rfl (wa_nil (wc_len rfl (wa_nil ?_))))))))))))
    rw [List.length_map]
    refine ⟨by rfl, n, _, rfl, by omega, by omega, pu, fun v st5 v0 v1 o5 p5 => ?_⟩
    obtain ⟨u, rfl⟩ : ∃ u : Nat, v = (u : Int) := ⟨v.toNat, by omega⟩
    have hv : u < fl.length := by omega
    have hx : atI (fl.map PyData.int) (u : Int) = some (.int fl[u]) := atI_nat (by rw [List.getElem?_map, List.getElem?_eq_getElem hv]; rfl)
    obtain ⟨f1, f2, f3⟩ := hfm _ (List.getElem_mem hv)
    generalize fl[u] = start at hx f1 f2 f3
    refine wr_ixuL rfl hx ?_
    obtain ⟨kd, hkd⟩ := hk i (by omega)
    refine wa_cons (we_op (we_var rfl (we_var rfl (wr_ixuL rfl (d := .int kd) (by rw [Int.zero_add]; exact hkd) (wa_nil ?_)))))
    refine ⟨by rfl, n, a, b, c, H, m, r, many, start, kd, rfl, G, hE, ⟨m0, m1⟩, ⟨f1, by omega⟩, hba, f3, p5, fun st6 gr6 p6 => ?_⟩
    refine ⟨_, rfl, fun h => (by cases h), fun _ => ?_⟩
    refine ws_next ?_
    refine ws_asg (we_op (we_c rfl (we_call (wa_cons (we_var rfl (wa_cons (we_c rfl (wa_nil ⟨by rfl, n, 16, rfl, by omega, by omega, p6, fun v st7 v0 v1 o7 p7 => wr_addI (wg_name ⟨p7, _, _, ⟨by omega, by omega⟩, rfl⟩)⟩))))))))
  · rintro ss' st' ⟨pu, many, y14, ⟨m0, m1⟩, rfl⟩
    have m3 := L.m3
    have mm := f.m1
    refine ws_ret (we_call ?_)
    refine wa_cons (we_var rfl (wa_cons (we_var rfl ?_)))
    refine wa_cons (we_call (wa_cons (we_var rfl (wa_cons (we_op (we_var rfl (we_c rfl (wr_addI (wa_nil ⟨by rfl, n, _, rfl, by omega, by omega, pu, fun v st5 v0 v1 o5 p5 => ?_⟩)))))))))
    have hx : atI (fl.map PyData.int) 0 = some (.int fl[0]) := atI_nat (j := 0) (by rw [List.getElem?_map, List.getElem?_eq_getElem hfp]; rfl)
    obtain ⟨f1, f2, f3⟩ := hfm _ (List.getElem_mem hfp)
    generalize fl[0] = start at hx f1 f2 f3
    refine wa_cons (we_op (we_var rfl (we_c rfl (wr_ixuL rfl hx ?_))))
    obtain ⟨kd, hkd⟩ := hk 3 (by omega)
    refine wa_cons (we_op (we_var rfl (we_c rfl (wr_ixuL rfl hkd (wa_nil ?_)))))
    refine ⟨by rfl, n, a, b, c, H, m, r, v, start, kd, rfl, G, hE, ⟨v0, by omega⟩, ⟨f1, by omega⟩, hba, f3, p5, fun st6 gr6 p6 => ?_⟩
    exact .inl (q _)
end
end K77

/-! EV: the functions as values; from the head's facts to the law. -/
namespace Ct
open PySem PySem.Spec PyProof.Rows L2 NdefX
theorem dm_mk {K : PySem.W.Frag} {C : Addr} {m qual : Str} {st : Stmt} {f : Addr} {oc kV doc pm cdv ct : Value} {od an : Option Addr} {osl : Array (Option Value)} (a : PySem.W.findIn K (.ref C) m = some (some (.ref f))) (i : PySem.W.isFn K (.ref f) = true)
    (l : K.lookup f = some ⟨oc, od, .func (PySem.W.fnOf m qual (defArgs st) (defBody st) (defScope st) .none kV doc pm an cdv ct), osl⟩) (c : PySem.W.codeIn K cdv qual = true) (k : PySem.W.keepIn K (.ref f) = true) : Dm K C m qual st := ⟨f, _, fun_mk l c k, ⟨a, i, k⟩⟩
theorem di_mk {K : PySem.W.Frag} {mg : Str → Option Value} {x qual : Str} {C : Addr} {st : Stmt} {f : Addr} {oc kV doc pm cdv ct : Value} {od an : Option Addr} {osl : Array (Option Value)} (g : mg x = some (.ref C)) (mk : PySem.W.makesIn K C = true)
    (a : PySem.W.findIn K (.ref C) "__init__" = some (some (.ref f))) (i : PySem.W.isFn K (.ref f) = true) (l : K.lookup f = some ⟨oc, od, .func (PySem.W.fnOf "__init__" qual (defArgs st) (defBody st) (defScope st) .none kV doc pm an cdv ct), osl⟩) (c : PySem.W.codeIn K cdv qual = true) (k : PySem.W.keepIn K (.ref f) = true)
    (kc : PySem.W.keepIn K (.ref C) = true) : Di K mg x C qual st := ⟨f, _, fun_mk l c k, ⟨mk, a, i, kc⟩, g⟩
def NAll (K : PySem.W.Frag) (C : Addr) : List Str → Prop
  | [] => True
  | f :: fs => PySem.W.findIn K (.ref C) f = some none ∧ NAll K C fs
theorem NAll.na {K : PySem.W.Frag} {C : Addr} : ∀ {fs : List Str}, NAll K C fs → ∀ f ∈ fs, NoAttr K C f
  | [], _, f, h => by cases h
  | g :: fs, ⟨h1, h2⟩, f, h => by
    rcases List.mem_cons.mp h with rfl | h
    · exact h1
    · exact h2.na f h
theorem Gl1.gathN {K : PySem.W.Frag} {h base : Heap} {mg : Str → Option Value} {x : Str} {st : Stmt} {c P : Addr} {TN : List NTab} {nm : Nat → Nat → Str} (g : Gl1 K h mg x st c P) (TB : LamX.TabB base mg c P) (hm : (P, nm) ∈ TN) (hu : ∀ p ∈ TN, p.1 = P → p.2 = nm) : GathN K base mg TN x st nm := by
  obtain ⟨f, oc, od, kV, doc, pm, an, ct, osl, l, cc, k, m⟩ := g.ex
  exact ⟨f, c, P, oc, od, kV, doc, pm, an, ct, osl, l, cc, k, m, TB, hm, hu⟩
theorem start_relG {K : PySem.W.Frag} {H : Hp} {T : TabI} (ht : T.P H) : Rel K T (fun _ => 0) (noTbl H) H [] where
  sub := fun b o e => (noTbl_to e).1
  nt := fun b ps e => (noTbl_to e).2 ps rfl
  tab := ht
  at_ := fun n c e => by cases n <;> cases e
  inj := fun n m c d e _ _ _ _ => by cases n <;> cases e
theorem start_spG {K : PySem.W.Frag} {H : Hp} {T : TabI} {a : Addr} {ns : List Int} {p : Pre} (ht : T.P H) (hs : SqL K H a (ns.map V.int)) (hp : p [.pd (.list (ns.map PyData.int))] [] fun x _ => x = .pd (.bool true)) :
    spP K T 1 p [.ref a] H (fun v _ => v = .bl true) fun _ _ _ => False :=
  ⟨fun _ => 0, noTbl H, [], [.pd (.list (ns.map PyData.int))], _, start_relG ht, .cons (x := .pd (.list (ns.map PyData.int))) (Dp.lst (start_seq hs) (dps_ints' ns)) .nil, rfl, hp, fun α' F' H' v x st' _ _ hv e => by
    subst e
    exact dp_bl hv⟩
end Ct
namespace K77
open PySem L2 Ct Kp PyProof.Rows NdefX
section
variable {P : Program} {w : World} {K : PySem.W.Frag} {mg : Str → Option Value} {base : Heap} {T : TabI} {C_Plan : Addr}
theorem house_ever (nkB : ∀ (f : Addr) (cl : List (Str × Addr)) (c : Addr), NOk P w K mg base CX0 2 f (NF.of s_ever_house__begin_run "begin_run" "ever_house.<locals>.begin_run" cl c) ["plan"] [] (spN K T 1 0 (pre_ever_house__begin_run K C_Plan)))
    (nkT : ∀ (f : Addr) (cl : List (Str × Addr)) (c : Addr), NOk P w K mg base CX0 3 f (NF.of s_ever_house__tell_range "tell_range" "ever_house.<locals>.tell_range" cl c) ["state", "section", "line", "mark"] ["numbers", "r"] (spN K T 4 2 pre_ever_house__tell_range))
    (nkS : ∀ (f : Addr) (cl : List (Str × Addr)) (c : Addr), NOk P w K mg base CX0 3 f (NF.of s_ever_house__set_section "set_section" "ever_house.<locals>.set_section" cl c) ["state", "section", "lines"] ["c", "numbers"] (spN K T 3 2 pre_ever_house__set_section))
    (a b c H m r : Int) (p : PlanR) (G : Good a b c H m r) : HouseV P w K mg base T kClo (everHS a b c H m r p.s) (planO K C_Plan p) (evB K) (evT K a b c H m r) (evS K a b c H m r) := by
  refine ⟨⟨_, _, _, _, _, _, _, _, rfl, allP_nil, fun f cl c => (nkB f cl c).mono (by decide), rfl, fun xs Φ hl hq => ?_⟩, ⟨_, _, _, _, _, _, _, _, rfl, allP_cons trivial (allP_cons trivial allP_nil), fun f cl c => nkT f cl c, rfl, fun xs Φ hl hq => ?_⟩,
    ⟨_, _, _, _, _, _, _, _, rfl, allP_cons trivial (allP_cons trivial allP_nil), fun f cl c => nkS f cl c, rfl, fun xs Φ hl hq => ?_⟩⟩
  · obtain ⟨rfl, q⟩ := hq
    exact ⟨p, rfl, q⟩
  · obtain ⟨s, k, line, j, s', f, l, rfl, ht, q⟩ := hq
    have ht : (match decS s with
      | some (x, ps) => some (stD x (ps ++ [(j, rPage a b c H r line (j - k))]), rPage a b c H r line (j - k), rPage a b c H r line (j - k) + r - 1)
      | none => none) = some (s', f, l) := ht
    cases hd : decS s with
    | none => rw [hd] at ht; cases ht
    | some pr =>
      obtain ⟨x, ps⟩ := pr
      obtain ⟨rfl, hlen⟩ := decS_eq hd
      simp only [decS_st hlen, Option.some.injEq, Prod.mk.injEq] at ht
      try obtain ⟨rfl, rfl, rfl⟩ := ht
      try obtain ⟨rfl, rfl⟩ := ht
      exact ⟨a, b, c, H, m, r, x, ps, k, line, j, rfl, G, hlen, q⟩
  · obtain ⟨s, k, L, s', pad, rfl, ht, q⟩ := hq
    have ht : (match decS s with
      | some (x, ps) => some (stD (x + L + setPad a b c H m r k L x ps) ps, setPad a b c H m r k L x ps)
      | none => none) = some (s', pad) := ht
    cases hd : decS s with
    | none => rw [hd] at ht; cases ht
    | some pr =>
      obtain ⟨x, ps⟩ := pr
      obtain ⟨rfl, hlen⟩ := decS_eq hd
      simp only [decS_st hlen, Option.some.injEq, Prod.mk.injEq] at ht
      try obtain ⟨rfl, rfl, rfl⟩ := ht
      try obtain ⟨rfl, rfl⟩ := ht
      exact ⟨a, b, c, H, m, r, x, ps, k, L, rfl, G, hlen, q⟩
theorem lis_V (nk : ∀ (f : Addr) (cl : List (Str × Addr)) (c : Addr), NOk P w K mg base CX0 1 f (NF.of s__law_listed___law_next_length "_law_next_length" "_law_listed.<locals>._law_next_length" cl c) ["k", "line", "told"] ["lengths"] (spN K T 3 1 pre__law_listed___law_next_length)) (Ls : List Int) :
    FnV P w K mg base T kClo (lisV K Ls) 3 (qSrc (srcL Ls)) := by
  refine ⟨_, _, _, _, _, _, _, _, rfl, allP_cons trivial allP_nil, fun f cl c => (nk f cl c).mono (by decide), rfl, fun xs Φ hl hq => ?_⟩
  obtain ⟨k, line, told, L, rfl, hs, q⟩ := hq
  exact ⟨k, line, told, Ls, L, rfl, hs, q⟩
theorem sk_V (nk : ∀ (f : Addr) (cl : List (Str × Addr)) (c : Addr), NOk P w K mg base CX0 2 f (NF.of s__law_seeker___law_seeks "_law_seeks" "_law_seeker.<locals>._law_seeks" cl c) ["k", "line", "told"] ["like", "seed"] (spN K T 3 2 pre__law_seeker___law_seeks)) (a b c H m r seed : Int) (G : Good a b c H m r) :
    FnV P w K mg base T kClo (skV K a b c H m r seed) 3 (qSrc (srcS a b c H m r seed)) := by
  refine ⟨_, _, _, _, _, _, _, _, rfl, allP_cons trivial (allP_cons trivial allP_nil), fun f cl c => (nk f cl c).mono (by decide), rfl, fun xs Φ hl hq => ?_⟩
  obtain ⟨k, line, told, L, rfl, hs, q⟩ := hq
  unfold srcS at hs
  split at hs
  · rename_i hk
    cases hs
    exact ⟨a, b, c, H, m, r, seed, k, line, told, rfl, G, hk, q⟩
  · cases hs
end
end K77

namespace K77
open PySem L2 Ct Kp PyProof.Rows NdefX
theorem law_at {l : PySem.W.OpenLaw} {w : World} {K : PySem.W.Frag} {mg : Str → Option Value} {h : Heap} {fa C_Plan C_Play C_Ruler c_c_law_listed P__law_listed c_c_law_seeker P__law_seeker c_cever_house P_ever_house : Addr} (hfa : mg "law" = some (.ref fa)) (g_Plan : mg "Plan" = some (.ref C_Plan)) (g_Play : mg "Play" = some (.ref C_Play)) (g_Ruler : mg "Ruler" = some (.ref C_Ruler)) (g__law_listed : Gl1 K h mg "_law_listed" s__law_listed c_c_law_listed P__law_listed) (g__law_seeker : Gl1 K h mg "_law_seeker" s__law_seeker c_c_law_seeker P__law_seeker) (g_ever_house : Gl1 K h mg "ever_house" s_ever_house c_cever_house P_ever_house) (h_Plan : Cls K C_Plan) (h_Play : Cls K C_Play) (na_Plan : NAll K C_Plan fl_Plan) (na_Play : NAll K C_Play fl_Play) (kt_Ruler : PySem.W.kitOne K (.type "tuple") (.ref C_Ruler) = some false) (d_Play___init__ : Di K mg "Play" C_Play "Play.__init__" s_Play___init__) (d_Plan___init__ : Di K mg "Plan" C_Plan "Plan.__init__" s_Plan___init__) (d_Play_ending : Dm K C_Play "ending" "Play.ending" s_Play_ending) (d_Plan_first_tell : Dm K C_Plan "first_tell" "Plan.first_tell" s_Plan_first_tell) (d_Plan_many : Dm K C_Plan "many" "Plan.many" s_Plan_many) (d_Plan_check_mark : Dm K C_Plan "check_mark" "Plan.check_mark" s_Plan_check_mark) (d_Plan_told_marks : Dm K C_Plan "told_marks" "Plan.told_marks" s_Plan_told_marks) (d_Plan_has_cell : Dm K C_Plan "has_cell" "Plan.has_cell" s_Plan_has_cell) (d_Plan_range_cells : Dm K C_Plan "range_cells" "Plan.range_cells" s_Plan_range_cells) (d_Play_asks : Dm K C_Play "asks" "Play.asks" s_Play_asks) (d_Plan_cell : Dm K C_Plan "cell" "Plan.cell" s_Plan_cell) (d_Plan_section : Dm K C_Plan "section" "Plan.section" s_Plan_section) (d_Play_passes : Dm K C_Play "passes" "Play.passes" s_Play_passes) (d_Plan_start : Dm K C_Plan "start" "Plan.start" s_Plan_start) (d_Plan_sections : Dm K C_Plan "sections" "Plan.sections" s_Plan_sections) (d_Plan_tells : Dm K C_Plan "tells" "Plan.tells" s_Plan_tells) (d_Plan_rows : Dm K C_Plan "rows" "Plan.rows" s_Plan_rows) (d_is_whole : Df K mg "is_whole" s_is_whole) (d_is_range : Df K mg "is_range" s_is_range) (d_checked_lengths : Df K mg "checked_lengths" s_checked_lengths) (d_check_most : Df K mg "check_most" s_check_most) (d_check_numbers : Df K mg "check_numbers" s_check_numbers) (d_played : Df K mg "played" s_played) (d__law_ranges_hold : Df K mg "_law_ranges_hold" s__law_ranges_hold) (d__law_right_range : Df K mg "_law_right_range" s__law_right_range) (d__law_plan_cell : Df K mg "_law_plan_cell" s__law_plan_cell) (d__law_first_tell : Df K mg "_law_first_tell" s__law_first_tell) (d__law_newly_all : Df K mg "_law_newly_all" s__law_newly_all) (d_is_row : Df K mg "is_row" s_is_row) (d_are_whole : Df K mg "are_whole" s_are_whole) (d_checked_tells : Df K mg "checked_tells" s_checked_tells) (d_right_section : Df K mg "right_section" s_right_section) (d_checked_sections : Df K mg "checked_sections" s_checked_sections) (d_is_pages : Df K mg "is_pages" s_is_pages) (d_whole_from : Df K mg "whole_from" s_whole_from) (d_check_lengths_bound : Df K mg "check_lengths_bound" s_check_lengths_bound) (d__law_plan_ruler : Df K mg "_law_plan_ruler" s__law_plan_ruler) (d__law_made_plan : Df K mg "_law_made_plan" s__law_made_plan) (d__law_play : Df K mg "_law_play" s__law_play) (d__law_draw : Df K mg "_law_draw" s__law_draw) (d__law_rest : Df K mg "_law_rest" s__law_rest) (d__law_is_gap : Df K mg "_law_is_gap" s__law_is_gap) (d_check_like : Df K mg "check_like" s_check_like) (d_range_begin : Df K mg "range_begin" s_range_begin) (d_range_page : Df K mg "range_page" s_range_page) (d_over_of : Df K mg "over_of" s_over_of) (d_beyond_gap : Df K mg "beyond_gap" s_beyond_gap) (d_like_plan : Df K mg "like_plan" s_like_plan) (d__law_like_world : Df K mg "_law_like_world" s__law_like_world) (d__law_course_holds : Df K mg "_law_course_holds" s__law_course_holds) (d__law_mix : Df K mg "_law_mix" s__law_mix) (d__law_purse : Df K mg "_law_purse" s__law_purse) (d__law_up : Df K mg "_law_up" s__law_up) (d__law_over : Df K mg "_law_over" s__law_over) (d__law_forever : Df K mg "_law_forever" s__law_forever) (d_parts_up : Df K mg "parts_up" s_parts_up) (d_remainders_of : Df K mg "remainders_of" s_remainders_of) (d_caught_ways : Df K mg "caught_ways" s_caught_ways) (d_for_ever : Df K mg "for_ever" s_for_ever) (d__law_draw_like : Df K mg "_law_draw_like" s__law_draw_like) (d__law_draw_verdict : Df K mg "_law_draw_verdict" s__law_draw_verdict) (x_LEAD : ∃ t, mg "LEAD" = some (.int c_LEAD t)) (x_LENGTHS : ∃ t, mg "LENGTHS" = some (.int c_LENGTHS t)) (x_LINES : ∃ t, mg "LINES" = some (.int c_LINES t)) (x_PAGE : ∃ t, mg "PAGE" = some (.int c_PAGE t)) (x_RANGE : ∃ t, mg "RANGE" = some (.int c_RANGE t)) (x_SECTIONS : ∃ t, mg "SECTIONS" = some (.int c_SECTIONS t)) (x_TELLS : ∃ t, mg "TELLS" = some (.int c_TELLS t)) (Z : Zs mg) (d_law : Df K mg "law" s_law) (ne__law_listed__law_seeker : P__law_listed ≠ P__law_seeker) (ne__law_listed_ever_house : P__law_listed ≠ P_ever_house) (ne__law_seeker_ever_house : P__law_seeker ≠ P_ever_house) : LamX.LawAtS l w K CX0 10 63 "script" mg fa h := by
  obtain ⟨f, fd, FL, mL⟩ := d_law
  cases hfa.symm.trans mL
  have nT : ∀ p ∈ ([(c_c_law_listed, P__law_listed), (c_c_law_seeker, P__law_seeker), (c_cever_house, P_ever_house)] : List (Addr × Addr)), K.lookup p.2 = none := fun p hp => by
    simp only [List.mem_cons, List.not_mem_nil, or_false] at hp
    rcases hp with rfl | rfl | rfl
    · exact g__law_listed.no
    · exact g__law_seeker.no
    · exact g_ever_house.no
  have gT : ∀ p ∈ ([(c_c_law_listed, P__law_listed), (c_c_law_seeker, P__law_seeker), (c_cever_house, P_ever_house)] : List (Addr × Addr)), h.get? p.2 = some { cls := .none, data := .fields #[] } := fun p hp => by
    simp only [List.mem_cons, List.not_mem_nil, or_false] at hp
    rcases hp with rfl | rfl | rfl
    · exact g__law_listed.tb
    · exact g__law_seeker.tb
    · exact g_ever_house.tb
  have cT : ∀ p ∈ ([(c_c_law_listed, P__law_listed), (c_c_law_seeker, P__law_seeker), (c_cever_house, P_ever_house)] : List (Addr × Addr)), PySem.W.CodeHd h p.1 p.2 := fun p hp => by
    simp only [List.mem_cons, List.not_mem_nil, or_false] at hp
    rcases hp with rfl | rfl | rfl
    · exact g__law_listed.hd
    · exact g__law_seeker.hd
    · exact g_ever_house.hd
  have hb : ∀ (s : Shared) (u : Value), BindsTo s fd ⟨[u], []⟩ [("script", u)] := by
    obtain ⟨oc, od, kV, doc, pm, an, cdv, ct, osl, rfl, lk, hcd⟩ := FL.ex
    exact fun s u => .of_eq rfl
  refine ⟨fd, [(c_c_law_listed, P__law_listed), (c_c_law_seeker, P__law_seeker), (c_cever_house, P_ever_house)], spP K (tabN [(P__law_listed, nm__law_listed), (P__law_seeker, nm__law_seeker), (P_ever_house, nm_ever_house)]) 1 pre_law, gT, nT, cT, hb, fun H a ns hl _ hH hS => ?_, fun base kb gb tb => ?_⟩
  · refine start_spG (T := tabN [(P__law_listed, nm__law_listed), (P__law_seeker, nm__law_seeker), (P_ever_house, nm_ever_house)]) (fun p hp => ?_) hS ⟨ns, rfl, hl, fun _ => rfl⟩
    simp only [List.mem_cons, List.not_mem_nil, or_false] at hp
    rcases hp with rfl | rfl | rfl
    · exact TabN.nil (hH (c_c_law_listed, P__law_listed) (by simp))
    · exact TabN.nil (hH (c_c_law_seeker, P__law_seeker) (by simp))
    · exact TabN.nil (hH (c_cever_house, P_ever_house) (by simp))
  · skip
    have gn__law_listed : GathN K base mg [(P__law_listed, nm__law_listed), (P__law_seeker, nm__law_seeker), (P_ever_house, nm_ever_house)] "_law_listed" s__law_listed nm__law_listed := g__law_listed.gathN (tb (c_c_law_listed, P__law_listed) (by simp)) (by simp) (fun p hp e => by
      simp only [List.mem_cons, List.not_mem_nil, or_false] at hp
      rcases hp with rfl | rfl | rfl
      · rfl
      · exact absurd e.symm ne__law_listed__law_seeker
      · exact absurd e.symm ne__law_listed_ever_house)
    have gn__law_seeker : GathN K base mg [(P__law_listed, nm__law_listed), (P__law_seeker, nm__law_seeker), (P_ever_house, nm_ever_house)] "_law_seeker" s__law_seeker nm__law_seeker := g__law_seeker.gathN (tb (c_c_law_seeker, P__law_seeker) (by simp)) (by simp) (fun p hp e => by
      simp only [List.mem_cons, List.not_mem_nil, or_false] at hp
      rcases hp with rfl | rfl | rfl
      · exact absurd e ne__law_listed__law_seeker
      · rfl
      · exact absurd e.symm ne__law_seeker_ever_house)
    have gn_ever_house : GathN K base mg [(P__law_listed, nm__law_listed), (P__law_seeker, nm__law_seeker), (P_ever_house, nm_ever_house)] "ever_house" s_ever_house nm_ever_house := g_ever_house.gathN (tb (c_cever_house, P_ever_house) (by simp)) (by simp) (fun p hp e => by
      simp only [List.mem_cons, List.not_mem_nil, or_false] at hp
      rcases hp with rfl | rfl | rfl
      · exact absurd e ne__law_listed_ever_house
      · exact absurd e ne__law_seeker_ever_house
      · rfl)
    have c_Play_ending := ok_Play_ending (P := l.prog) (w := w) (K := K) (mg := mg) (base := base) (T := tabN [(P__law_listed, nm__law_listed), (P__law_seeker, nm__law_seeker), (P_ever_house, nm_ever_house)]) (C_Plan := C_Plan) (C_Play := C_Play) Z h_Play na_Play.na d_Play_ending
    have c_Plan_first_tell := ok_Plan_first_tell (P := l.prog) (w := w) (K := K) (mg := mg) (base := base) (T := tabN [(P__law_listed, nm__law_listed), (P__law_seeker, nm__law_seeker), (P_ever_house, nm_ever_house)]) (C_Plan := C_Plan) h_Plan na_Plan.na d_Plan_first_tell
    have c_Plan_many := ok_Plan_many (P := l.prog) (w := w) (K := K) (mg := mg) (base := base) (T := tabN [(P__law_listed, nm__law_listed), (P__law_seeker, nm__law_seeker), (P_ever_house, nm_ever_house)]) (C_Plan := C_Plan) Z h_Plan na_Plan.na d_Plan_many
    have c_Plan_check_mark := ok_Plan_check_mark (P := l.prog) (w := w) (K := K) (mg := mg) (base := base) (T := tabN [(P__law_listed, nm__law_listed), (P__law_seeker, nm__law_seeker), (P_ever_house, nm_ever_house)]) (C_Plan := C_Plan) Z h_Plan na_Plan.na d_Plan_check_mark
    have c_Plan_told_marks := ok_Plan_told_marks (P := l.prog) (w := w) (K := K) (mg := mg) (base := base) (T := tabN [(P__law_listed, nm__law_listed), (P__law_seeker, nm__law_seeker), (P_ever_house, nm_ever_house)]) (C_Plan := C_Plan) c_Plan_first_tell c_Plan_many c_Plan_check_mark Z h_Plan na_Plan.na d_Plan_told_marks
    have c_Plan_has_cell := ok_Plan_has_cell (P := l.prog) (w := w) (K := K) (mg := mg) (base := base) (T := tabN [(P__law_listed, nm__law_listed), (P__law_seeker, nm__law_seeker), (P_ever_house, nm_ever_house)]) (C_Plan := C_Plan) h_Plan na_Plan.na d_Plan_has_cell
    have c_Plan_range_cells := ok_Plan_range_cells (P := l.prog) (w := w) (K := K) (mg := mg) (base := base) (T := tabN [(P__law_listed, nm__law_listed), (P__law_seeker, nm__law_seeker), (P_ever_house, nm_ever_house)]) (C_Plan := C_Plan) h_Plan na_Plan.na d_Plan_range_cells
    have c_is_whole := ok_is_whole (P := l.prog) (w := w) (K := K) (mg := mg) (base := base) (T := tabN [(P__law_listed, nm__law_listed), (P__law_seeker, nm__law_seeker), (P_ever_house, nm_ever_house)]) Z d_is_whole
    have c_is_range := ok_is_range (P := l.prog) (w := w) (K := K) (mg := mg) (base := base) (T := tabN [(P__law_listed, nm__law_listed), (P__law_seeker, nm__law_seeker), (P_ever_house, nm_ever_house)]) (C_Plan := C_Plan) c_Plan_has_cell c_Plan_range_cells c_is_whole h_Plan na_Plan.na d_is_range
    have c_Play_asks := ok_Play_asks (P := l.prog) (w := w) (K := K) (mg := mg) (base := base) (T := tabN [(P__law_listed, nm__law_listed), (P__law_seeker, nm__law_seeker), (P_ever_house, nm_ever_house)]) (C_Plan := C_Plan) (C_Play := C_Play) c_Plan_told_marks c_is_range h_Plan h_Play na_Plan.na na_Play.na d_Play_asks
    have c_Plan_cell := ok_Plan_cell (P := l.prog) (w := w) (K := K) (mg := mg) (base := base) (T := tabN [(P__law_listed, nm__law_listed), (P__law_seeker, nm__law_seeker), (P_ever_house, nm_ever_house)]) (C_Plan := C_Plan) h_Plan na_Plan.na d_Plan_cell
    have c_Plan_section := ok_Plan_section (P := l.prog) (w := w) (K := K) (mg := mg) (base := base) (T := tabN [(P__law_listed, nm__law_listed), (P__law_seeker, nm__law_seeker), (P_ever_house, nm_ever_house)]) (C_Plan := C_Plan) Z h_Plan na_Plan.na d_Plan_section
    have c_Play_passes := ok_Play_passes (P := l.prog) (w := w) (K := K) (mg := mg) (base := base) (T := tabN [(P__law_listed, nm__law_listed), (P__law_seeker, nm__law_seeker), (P_ever_house, nm_ever_house)]) (C_Plan := C_Plan) (C_Play := C_Play) c_Play_asks c_Plan_cell c_Plan_section c_is_whole h_Play h_Plan na_Play.na na_Plan.na d_Play_passes
    have c_Plan_start := ok_Plan_start (P := l.prog) (w := w) (K := K) (mg := mg) (base := base) (T := tabN [(P__law_listed, nm__law_listed), (P__law_seeker, nm__law_seeker), (P_ever_house, nm_ever_house)]) (C_Plan := C_Plan) h_Plan na_Plan.na d_Plan_start
    have c_Play___init__ := ok_Play___init__ (P := l.prog) (w := w) (K := K) (mg := mg) (base := base) (T := tabN [(P__law_listed, nm__law_listed), (P__law_seeker, nm__law_seeker), (P_ever_house, nm_ever_house)]) (C_Plan := C_Plan) (C_Play := C_Play) c_Plan_start Z h_Play h_Plan na_Play.na na_Plan.na d_Play___init__
    have c_checked_lengths := ok_checked_lengths (P := l.prog) (w := w) (K := K) (mg := mg) (base := base) (T := tabN [(P__law_listed, nm__law_listed), (P__law_seeker, nm__law_seeker), (P_ever_house, nm_ever_house)]) c_is_whole Z d_checked_lengths
    have c_Plan_sections := ok_Plan_sections (P := l.prog) (w := w) (K := K) (mg := mg) (base := base) (T := tabN [(P__law_listed, nm__law_listed), (P__law_seeker, nm__law_seeker), (P_ever_house, nm_ever_house)]) (C_Plan := C_Plan) Z h_Plan na_Plan.na d_Plan_sections
    have c_check_most := ok_check_most (P := l.prog) (w := w) (K := K) (mg := mg) (base := base) (T := tabN [(P__law_listed, nm__law_listed), (P__law_seeker, nm__law_seeker), (P_ever_house, nm_ever_house)]) c_is_whole d_check_most
    have c_check_numbers := ok_check_numbers (P := l.prog) (w := w) (K := K) (mg := mg) (base := base) (T := tabN [(P__law_listed, nm__law_listed), (P__law_seeker, nm__law_seeker), (P_ever_house, nm_ever_house)]) c_check_most d_check_numbers
    have c_played := ok_played (P := l.prog) (w := w) (K := K) (mg := mg) (base := base) (T := tabN [(P__law_listed, nm__law_listed), (P__law_seeker, nm__law_seeker), (P_ever_house, nm_ever_house)]) (C_Plan := C_Plan) (C_Play := C_Play) c_Play_ending c_Play_passes c_Play_asks c_Play___init__ c_checked_lengths c_Plan_sections c_check_numbers Z x_LENGTHS h_Play h_Plan na_Play.na na_Plan.na d_played
    have c__law_ranges_hold := ok__law_ranges_hold (P := l.prog) (w := w) (K := K) (mg := mg) (base := base) (T := tabN [(P__law_listed, nm__law_listed), (P__law_seeker, nm__law_seeker), (P_ever_house, nm_ever_house)])  d__law_ranges_hold
    have c__law_right_range := ok__law_right_range (P := l.prog) (w := w) (K := K) (mg := mg) (base := base) (T := tabN [(P__law_listed, nm__law_listed), (P__law_seeker, nm__law_seeker), (P_ever_house, nm_ever_house)]) Z d__law_right_range
    have c__law_plan_cell := ok__law_plan_cell (P := l.prog) (w := w) (K := K) (mg := mg) (base := base) (T := tabN [(P__law_listed, nm__law_listed), (P__law_seeker, nm__law_seeker), (P_ever_house, nm_ever_house)]) Z d__law_plan_cell
    have c__law_first_tell := ok__law_first_tell (P := l.prog) (w := w) (K := K) (mg := mg) (base := base) (T := tabN [(P__law_listed, nm__law_listed), (P__law_seeker, nm__law_seeker), (P_ever_house, nm_ever_house)]) Z d__law_first_tell
    have c__law_newly_all := ok__law_newly_all (P := l.prog) (w := w) (K := K) (mg := mg) (base := base) (T := tabN [(P__law_listed, nm__law_listed), (P__law_seeker, nm__law_seeker), (P_ever_house, nm_ever_house)]) c__law_first_tell Z d__law_newly_all
    have c_is_row := ok_is_row (P := l.prog) (w := w) (K := K) (mg := mg) (base := base) (T := tabN [(P__law_listed, nm__law_listed), (P__law_seeker, nm__law_seeker), (P_ever_house, nm_ever_house)]) Z d_is_row
    have c_are_whole := ok_are_whole (P := l.prog) (w := w) (K := K) (mg := mg) (base := base) (T := tabN [(P__law_listed, nm__law_listed), (P__law_seeker, nm__law_seeker), (P_ever_house, nm_ever_house)]) c_is_whole c_is_row Z d_are_whole
    have c_checked_tells := ok_checked_tells (P := l.prog) (w := w) (K := K) (mg := mg) (base := base) (T := tabN [(P__law_listed, nm__law_listed), (P__law_seeker, nm__law_seeker), (P_ever_house, nm_ever_house)]) c_are_whole Z d_checked_tells
    have c_right_section := ok_right_section (P := l.prog) (w := w) (K := K) (mg := mg) (base := base) (T := tabN [(P__law_listed, nm__law_listed), (P__law_seeker, nm__law_seeker), (P_ever_house, nm_ever_house)]) c_are_whole d_right_section
    have c_checked_sections := ok_checked_sections (P := l.prog) (w := w) (K := K) (mg := mg) (base := base) (T := tabN [(P__law_listed, nm__law_listed), (P__law_seeker, nm__law_seeker), (P_ever_house, nm_ever_house)]) c_right_section Z d_checked_sections
    have c_is_pages := ok_is_pages (P := l.prog) (w := w) (K := K) (mg := mg) (base := base) (T := tabN [(P__law_listed, nm__law_listed), (P__law_seeker, nm__law_seeker), (P_ever_house, nm_ever_house)]) c_is_row Z d_is_pages
    have c_whole_from := ok_whole_from (P := l.prog) (w := w) (K := K) (mg := mg) (base := base) (T := tabN [(P__law_listed, nm__law_listed), (P__law_seeker, nm__law_seeker), (P_ever_house, nm_ever_house)]) c_is_whole d_whole_from
    have c_check_lengths_bound := ok_check_lengths_bound (P := l.prog) (w := w) (K := K) (mg := mg) (base := base) (T := tabN [(P__law_listed, nm__law_listed), (P__law_seeker, nm__law_seeker), (P_ever_house, nm_ever_house)]) c_is_row c_check_numbers x_LENGTHS d_check_lengths_bound
    have c_Plan___init__ := ok_Plan___init__ (P := l.prog) (w := w) (K := K) (mg := mg) (base := base) (T := tabN [(P__law_listed, nm__law_listed), (P__law_seeker, nm__law_seeker), (P_ever_house, nm_ever_house)]) (C_Plan := C_Plan) (C_Ruler := C_Ruler) c_checked_tells c_checked_sections c_is_pages c_whole_from c_check_most c_check_lengths_bound Z x_RANGE x_PAGE x_TELLS x_SECTIONS x_LINES h_Plan na_Plan.na g_Ruler kt_Ruler d_Plan___init__
    have c__law_plan_ruler := ok__law_plan_ruler (P := l.prog) (w := w) (K := K) (mg := mg) (base := base) (T := tabN [(P__law_listed, nm__law_listed), (P__law_seeker, nm__law_seeker), (P_ever_house, nm_ever_house)]) Z d__law_plan_ruler
    have c__law_made_plan := ok__law_made_plan (P := l.prog) (w := w) (K := K) (mg := mg) (base := base) (T := tabN [(P__law_listed, nm__law_listed), (P__law_seeker, nm__law_seeker), (P_ever_house, nm_ever_house)]) (C_Plan := C_Plan) c_Plan___init__ c__law_plan_ruler Z d__law_made_plan
    have c__law_play := ok__law_play (P := l.prog) (w := w) (K := K) (mg := mg) (base := base) (T := tabN [(P__law_listed, nm__law_listed), (P__law_seeker, nm__law_seeker), (P_ever_house, nm_ever_house)]) (C_Plan := C_Plan) c__law_right_range c__law_plan_cell c__law_newly_all c__law_made_plan Z d__law_play
    have c__law_listed___law_next_length := nk__law_listed___law_next_length (P := l.prog) (w := w) (K := K) (mg := mg) (base := base) (T := tabN [(P__law_listed, nm__law_listed), (P__law_seeker, nm__law_seeker), (P_ever_house, nm_ever_house)]) 
    have c__law_listed := ok__law_listed (P := l.prog) (w := w) (K := K) (mg := mg) (base := base) (TN := [(P__law_listed, nm__law_listed), (P__law_seeker, nm__law_seeker), (P_ever_house, nm_ever_house)])  gn__law_listed
    have c__law_draw := ok__law_draw (P := l.prog) (w := w) (K := K) (mg := mg) (base := base) (T := tabN [(P__law_listed, nm__law_listed), (P__law_seeker, nm__law_seeker), (P_ever_house, nm_ever_house)]) Z d__law_draw
    have c__law_rest := ok__law_rest (P := l.prog) (w := w) (K := K) (mg := mg) (base := base) (T := tabN [(P__law_listed, nm__law_listed), (P__law_seeker, nm__law_seeker), (P_ever_house, nm_ever_house)]) Z d__law_rest
    have c__law_is_gap := ok__law_is_gap (P := l.prog) (w := w) (K := K) (mg := mg) (base := base) (T := tabN [(P__law_listed, nm__law_listed), (P__law_seeker, nm__law_seeker), (P_ever_house, nm_ever_house)])  d__law_is_gap
    have c__law_seeker___law_seeks := nk__law_seeker___law_seeks (P := l.prog) (w := w) (K := K) (mg := mg) (base := base) (T := tabN [(P__law_listed, nm__law_listed), (P__law_seeker, nm__law_seeker), (P_ever_house, nm_ever_house)]) c__law_rest c__law_is_gap Z
    have c__law_seeker := ok__law_seeker (P := l.prog) (w := w) (K := K) (mg := mg) (base := base) (TN := [(P__law_listed, nm__law_listed), (P__law_seeker, nm__law_seeker), (P_ever_house, nm_ever_house)])  gn__law_seeker
    have c_check_like := ok_check_like (P := l.prog) (w := w) (K := K) (mg := mg) (base := base) (T := tabN [(P__law_listed, nm__law_listed), (P__law_seeker, nm__law_seeker), (P_ever_house, nm_ever_house)]) c_whole_from c_is_whole c_check_most c_check_numbers x_RANGE x_LEAD x_PAGE x_LENGTHS d_check_like
    have c_ever_house__begin_run := nk_ever_house__begin_run (P := l.prog) (w := w) (K := K) (mg := mg) (base := base) (T := tabN [(P__law_listed, nm__law_listed), (P__law_seeker, nm__law_seeker), (P_ever_house, nm_ever_house)]) (C_Plan := C_Plan) c_Plan_start h_Plan na_Plan.na
    have c_range_begin := ok_range_begin (P := l.prog) (w := w) (K := K) (mg := mg) (base := base) (T := tabN [(P__law_listed, nm__law_listed), (P__law_seeker, nm__law_seeker), (P_ever_house, nm_ever_house)])  d_range_begin
    have c_range_page := ok_range_page (P := l.prog) (w := w) (K := K) (mg := mg) (base := base) (T := tabN [(P__law_listed, nm__law_listed), (P__law_seeker, nm__law_seeker), (P_ever_house, nm_ever_house)]) c_range_begin Z d_range_page
    have c_ever_house__tell_range := nk_ever_house__tell_range (P := l.prog) (w := w) (K := K) (mg := mg) (base := base) (T := tabN [(P__law_listed, nm__law_listed), (P__law_seeker, nm__law_seeker), (P_ever_house, nm_ever_house)]) c_range_page Z
    have c_over_of := ok_over_of (P := l.prog) (w := w) (K := K) (mg := mg) (base := base) (T := tabN [(P__law_listed, nm__law_listed), (P__law_seeker, nm__law_seeker), (P_ever_house, nm_ever_house)])  d_over_of
    have c_beyond_gap := ok_beyond_gap (P := l.prog) (w := w) (K := K) (mg := mg) (base := base) (T := tabN [(P__law_listed, nm__law_listed), (P__law_seeker, nm__law_seeker), (P_ever_house, nm_ever_house)]) c_over_of d_beyond_gap
    have c_ever_house__set_section := nk_ever_house__set_section (P := l.prog) (w := w) (K := K) (mg := mg) (base := base) (T := tabN [(P__law_listed, nm__law_listed), (P__law_seeker, nm__law_seeker), (P_ever_house, nm_ever_house)]) c_beyond_gap c_range_begin Z
    have c_ever_house := ok_ever_house (P := l.prog) (w := w) (K := K) (mg := mg) (base := base) (TN := [(P__law_listed, nm__law_listed), (P__law_seeker, nm__law_seeker), (P_ever_house, nm_ever_house)]) c_check_like gn_ever_house
    have c_Plan_tells := ok_Plan_tells (P := l.prog) (w := w) (K := K) (mg := mg) (base := base) (T := tabN [(P__law_listed, nm__law_listed), (P__law_seeker, nm__law_seeker), (P_ever_house, nm_ever_house)]) (C_Plan := C_Plan) Z h_Plan na_Plan.na d_Plan_tells
    have c_Plan_rows := ok_Plan_rows (P := l.prog) (w := w) (K := K) (mg := mg) (base := base) (T := tabN [(P__law_listed, nm__law_listed), (P__law_seeker, nm__law_seeker), (P_ever_house, nm_ever_house)]) (C_Plan := C_Plan) c_Plan_tells c_Plan_sections h_Plan na_Plan.na d_Plan_rows
    have c_like_plan := ok_like_plan (P := l.prog) (w := w) (K := K) (mg := mg) (base := base) (T := tabN [(P__law_listed, nm__law_listed), (P__law_seeker, nm__law_seeker), (P_ever_house, nm_ever_house)]) (C_Plan := C_Plan) c_Plan___init__ c_check_like c_check_most Z x_SECTIONS x_LINES d_like_plan
    have c__law_like_world := ok__law_like_world (P := l.prog) (w := w) (K := K) (mg := mg) (base := base) (T := tabN [(P__law_listed, nm__law_listed), (P__law_seeker, nm__law_seeker), (P_ever_house, nm_ever_house)]) Z d__law_like_world
    have hH := house_ever (P := l.prog) (w := w) (K := K) (mg := mg) (base := base) (T := tabN [(P__law_listed, nm__law_listed), (P__law_seeker, nm__law_seeker), (P_ever_house, nm_ever_house)]) (C_Plan := C_Plan) c_ever_house__begin_run c_ever_house__tell_range c_ever_house__set_section
    have hLis := lis_V (P := l.prog) (w := w) (K := K) (mg := mg) (base := base) (T := tabN [(P__law_listed, nm__law_listed), (P__law_seeker, nm__law_seeker), (P_ever_house, nm_ever_house)]) c__law_listed___law_next_length
    have hSk := sk_V (P := l.prog) (w := w) (K := K) (mg := mg) (base := base) (T := tabN [(P__law_listed, nm__law_listed), (P__law_seeker, nm__law_seeker), (P_ever_house, nm_ever_house)]) c__law_seeker___law_seeks
    have c__law_course_holds := ok__law_course_holds (P := l.prog) (w := w) (K := K) (mg := mg) (base := base) (T := tabN [(P__law_listed, nm__law_listed), (P__law_seeker, nm__law_seeker), (P_ever_house, nm_ever_house)]) (C_Plan := C_Plan) c_played c__law_ranges_hold c__law_play c__law_listed c__law_draw c__law_seeker c_ever_house c_Plan_rows c_like_plan c__law_like_world Z h_Plan na_Plan.na hH hLis hSk d__law_course_holds
    have c__law_mix := ok__law_mix (P := l.prog) (w := w) (K := K) (mg := mg) (base := base) (T := tabN [(P__law_listed, nm__law_listed), (P__law_seeker, nm__law_seeker), (P_ever_house, nm_ever_house)]) c__law_draw Z d__law_mix
    have c__law_purse := ok__law_purse (P := l.prog) (w := w) (K := K) (mg := mg) (base := base) (T := tabN [(P__law_listed, nm__law_listed), (P__law_seeker, nm__law_seeker), (P_ever_house, nm_ever_house)]) Z d__law_purse
    have c__law_up := ok__law_up (P := l.prog) (w := w) (K := K) (mg := mg) (base := base) (T := tabN [(P__law_listed, nm__law_listed), (P__law_seeker, nm__law_seeker), (P_ever_house, nm_ever_house)])  d__law_up
    have c__law_over := ok__law_over (P := l.prog) (w := w) (K := K) (mg := mg) (base := base) (T := tabN [(P__law_listed, nm__law_listed), (P__law_seeker, nm__law_seeker), (P_ever_house, nm_ever_house)])  d__law_over
    have c__law_forever := ok__law_forever (P := l.prog) (w := w) (K := K) (mg := mg) (base := base) (T := tabN [(P__law_listed, nm__law_listed), (P__law_seeker, nm__law_seeker), (P_ever_house, nm_ever_house)]) c__law_up c__law_rest c__law_over Z d__law_forever
    have c_parts_up := ok_parts_up (P := l.prog) (w := w) (K := K) (mg := mg) (base := base) (T := tabN [(P__law_listed, nm__law_listed), (P__law_seeker, nm__law_seeker), (P_ever_house, nm_ever_house)])  d_parts_up
    have c_remainders_of := ok_remainders_of (P := l.prog) (w := w) (K := K) (mg := mg) (base := base) (T := tabN [(P__law_listed, nm__law_listed), (P__law_seeker, nm__law_seeker), (P_ever_house, nm_ever_house)]) c_check_like Z d_remainders_of
    have c_caught_ways := ok_caught_ways (P := l.prog) (w := w) (K := K) (mg := mg) (base := base) (T := tabN [(P__law_listed, nm__law_listed), (P__law_seeker, nm__law_seeker), (P_ever_house, nm_ever_house)]) c_parts_up c_remainders_of Z d_caught_ways
    have c_for_ever := ok_for_ever (P := l.prog) (w := w) (K := K) (mg := mg) (base := base) (T := tabN [(P__law_listed, nm__law_listed), (P__law_seeker, nm__law_seeker), (P_ever_house, nm_ever_house)]) c_caught_ways c_over_of c_check_like d_for_ever
    have c__law_draw_like := ok__law_draw_like (P := l.prog) (w := w) (K := K) (mg := mg) (base := base) (T := tabN [(P__law_listed, nm__law_listed), (P__law_seeker, nm__law_seeker), (P_ever_house, nm_ever_house)]) c__law_draw c__law_rest Z d__law_draw_like
    have c__law_draw_verdict := ok__law_draw_verdict (P := l.prog) (w := w) (K := K) (mg := mg) (base := base) (T := tabN [(P__law_listed, nm__law_listed), (P__law_seeker, nm__law_seeker), (P_ever_house, nm_ever_house)]) c__law_over c__law_forever c__law_draw_like Z d__law_draw_verdict
    exact fn_law (P := l.prog) (w := w) (K := K) (mg := mg) (base := base) (T := tabN [(P__law_listed, nm__law_listed), (P__law_seeker, nm__law_seeker), (P_ever_house, nm_ever_house)]) c__law_course_holds c__law_draw c__law_mix c__law_is_gap c__law_purse c__law_forever c_for_ever c__law_draw_verdict Z FL
end K77
open PySem PySem.W PyProof.Rows
set_option maxHeartbeats 0 in
theorem PySem.Challenge.cw_comestrue_k77_whole_kept_for_ever_holds : PySem.Challenge.rw_comestrue_k77_whole_kept_for_ever.Holds := by
  w_on; o_law; k_head; (case hw => w_witness2)
  k_fill
  refine LamX.walk_ofTs (l := PySem.Challenge.rw_comestrue_k77_whole_kept_for_ever) (n := 63) (k := 10) (x := "script") (CX := fun _ => L2.CX0) rfl (by decide) rfl ⟨rfl, by decide, by decide⟩ (fun w h Y => PySem.W.km_in_of Y) ?F (fun _ _ _ _ _ h => h)
  case F =>
    intro w mg fa h Y KX G hmg
    have hT := PySem.W.km_tabs_of Y
    refine' K77.law_at hmg ?q0 ?q1 ?q2 ?q3 ?q4 ?q5 ?q6 ?q7 ?q8 ?q9 ?q10 ?q11 ?q12 ?q13 ?q14 ?q15 ?q16 ?q17 ?q18 ?q19 ?q20 ?q21 ?q22 ?q23 ?q24 ?q25 ?q26 ?q27 ?q28 ?q29 ?q30 ?q31 ?q32 ?q33 ?q34 ?q35 ?q36 ?q37 ?q38 ?q39 ?q40 ?q41 ?q42 ?q43 ?q44 ?q45 ?q46 ?q47 ?q48 ?q49 ?q50 ?q51 ?q52 ?q53 ?q54 ?q55 ?q56 ?q57 ?q58 ?q59 ?q60 ?q61 ?q62 ?q63 ?q64 ?q65 ?q66 ?q67 ?q68 ?q69 ?q70 ?q71 ?q72 ?q73 ?q74 ?q75 ?q76 ?q77 ?q78 ?q79 ?q80 ?q81 ?q82 ?q83
    case q0 => refine' PySem.W.mg_of KX G ?a; (case a => k_is)
    case q1 => refine' PySem.W.mg_of KX G ?a; (case a => k_is)
    case q2 => refine' PySem.W.mg_of KX G ?a; (case a => k_is)
    case q3 => refine' Ct.gl1_mk KX G ?a ?l ?c ?k ?hd (hT 607 (by k_mem)) ?no; (case a => k_is); (case l => k_is); (case c => k_is); (case k => k_is); (case hd => kernel_rfl); (case no => kernel_rfl)
    case q4 => refine' Ct.gl1_mk KX G ?a ?l ?c ?k ?hd (hT 673 (by k_mem)) ?no; (case a => k_is); (case l => k_is); (case c => k_is); (case k => k_is); (case hd => kernel_rfl); (case no => kernel_rfl)
    case q5 => refine' Ct.gl1_mk KX G ?a ?l ?c ?k ?hd (hT 482 (by k_mem)) ?no; (case a => k_is); (case l => k_is); (case c => k_is); (case k => k_is); (case hd => kernel_rfl); (case no => kernel_rfl)
    case q6 => refine' ⟨?pg, ?hd, ?po, ?sa⟩; (case pg => k_is); (case hd => k_is); (case po => k_is); (case sa => k_is)
    case q7 => refine' ⟨?pg, ?hd, ?po, ?sa⟩; (case pg => k_is); (case hd => k_is); (case po => k_is); (case sa => k_is)
    case q8 => refine' ⟨?n0, ?n1, ?n2, ?n3, ?n4, ?n5, trivial⟩; (case n0 => k_is); (case n1 => k_is); (case n2 => k_is); (case n3 => k_is); (case n4 => k_is); (case n5 => k_is)
    case q9 => refine' ⟨?n0, ?n1, ?n2, ?n3, ?n4, trivial⟩; (case n0 => k_is); (case n1 => k_is); (case n2 => k_is); (case n3 => k_is); (case n4 => k_is)
    case q10 => kernel_rfl
    case q11 => refine' Ct.di_mk (PySem.W.mg_of KX G ?g) ?mk ?a ?i ?l ?c ?k ?kc; (case g => k_is); (case mk => k_is); (case a => k_is); (case i => k_is); (case l => k_is); (case c => k_is); (case k => k_is); (case kc => k_is)
    case q12 => refine' Ct.di_mk (PySem.W.mg_of KX G ?g) ?mk ?a ?i ?l ?c ?k ?kc; (case g => k_is); (case mk => k_is); (case a => k_is); (case i => k_is); (case l => k_is); (case c => k_is); (case k => k_is); (case kc => k_is)
    case q13 => refine' Ct.dm_mk ?a ?i ?l ?c ?k; (case a => k_is); (case i => k_is); (case l => k_is); (case c => k_is); (case k => k_is)
    case q14 => refine' Ct.dm_mk ?a ?i ?l ?c ?k; (case a => k_is); (case i => k_is); (case l => k_is); (case c => k_is); (case k => k_is)
    case q15 => refine' Ct.dm_mk ?a ?i ?l ?c ?k; (case a => k_is); (case i => k_is); (case l => k_is); (case c => k_is); (case k => k_is)
    case q16 => refine' Ct.dm_mk ?a ?i ?l ?c ?k; (case a => k_is); (case i => k_is); (case l => k_is); (case c => k_is); (case k => k_is)
    case q17 => refine' Ct.dm_mk ?a ?i ?l ?c ?k; (case a => k_is); (case i => k_is); (case l => k_is); (case c => k_is); (case k => k_is)
    case q18 => refine' Ct.dm_mk ?a ?i ?l ?c ?k; (case a => k_is); (case i => k_is); (case l => k_is); (case c => k_is); (case k => k_is)
    case q19 => refine' Ct.dm_mk ?a ?i ?l ?c ?k; (case a => k_is); (case i => k_is); (case l => k_is); (case c => k_is); (case k => k_is)
    case q20 => refine' Ct.dm_mk ?a ?i ?l ?c ?k; (case a => k_is); (case i => k_is); (case l => k_is); (case c => k_is); (case k => k_is)
    case q21 => refine' Ct.dm_mk ?a ?i ?l ?c ?k; (case a => k_is); (case i => k_is); (case l => k_is); (case c => k_is); (case k => k_is)
    case q22 => refine' Ct.dm_mk ?a ?i ?l ?c ?k; (case a => k_is); (case i => k_is); (case l => k_is); (case c => k_is); (case k => k_is)
    case q23 => refine' Ct.dm_mk ?a ?i ?l ?c ?k; (case a => k_is); (case i => k_is); (case l => k_is); (case c => k_is); (case k => k_is)
    case q24 => refine' Ct.dm_mk ?a ?i ?l ?c ?k; (case a => k_is); (case i => k_is); (case l => k_is); (case c => k_is); (case k => k_is)
    case q25 => refine' Ct.dm_mk ?a ?i ?l ?c ?k; (case a => k_is); (case i => k_is); (case l => k_is); (case c => k_is); (case k => k_is)
    case q26 => refine' Ct.dm_mk ?a ?i ?l ?c ?k; (case a => k_is); (case i => k_is); (case l => k_is); (case c => k_is); (case k => k_is)
    case q27 => refine' Ct.dm_mk ?a ?i ?l ?c ?k; (case a => k_is); (case i => k_is); (case l => k_is); (case c => k_is); (case k => k_is)
    case q28 => refine' Ct.df_mk KX G ?a ?l ?c ?k; (case a => k_is); (case l => k_is); (case c => k_is); (case k => k_is)
    case q29 => refine' Ct.df_mk KX G ?a ?l ?c ?k; (case a => k_is); (case l => k_is); (case c => k_is); (case k => k_is)
    case q30 => refine' Ct.df_mk KX G ?a ?l ?c ?k; (case a => k_is); (case l => k_is); (case c => k_is); (case k => k_is)
    case q31 => refine' Ct.df_mk KX G ?a ?l ?c ?k; (case a => k_is); (case l => k_is); (case c => k_is); (case k => k_is)
    case q32 => refine' Ct.df_mk KX G ?a ?l ?c ?k; (case a => k_is); (case l => k_is); (case c => k_is); (case k => k_is)
    case q33 => refine' Ct.df_mk KX G ?a ?l ?c ?k; (case a => k_is); (case l => k_is); (case c => k_is); (case k => k_is)
    case q34 => refine' Ct.df_mk KX G ?a ?l ?c ?k; (case a => k_is); (case l => k_is); (case c => k_is); (case k => k_is)
    case q35 => refine' Ct.df_mk KX G ?a ?l ?c ?k; (case a => k_is); (case l => k_is); (case c => k_is); (case k => k_is)
    case q36 => refine' Ct.df_mk KX G ?a ?l ?c ?k; (case a => k_is); (case l => k_is); (case c => k_is); (case k => k_is)
    case q37 => refine' Ct.df_mk KX G ?a ?l ?c ?k; (case a => k_is); (case l => k_is); (case c => k_is); (case k => k_is)
    case q38 => refine' Ct.df_mk KX G ?a ?l ?c ?k; (case a => k_is); (case l => k_is); (case c => k_is); (case k => k_is)
    case q39 => refine' Ct.df_mk KX G ?a ?l ?c ?k; (case a => k_is); (case l => k_is); (case c => k_is); (case k => k_is)
    case q40 => refine' Ct.df_mk KX G ?a ?l ?c ?k; (case a => k_is); (case l => k_is); (case c => k_is); (case k => k_is)
    case q41 => refine' Ct.df_mk KX G ?a ?l ?c ?k; (case a => k_is); (case l => k_is); (case c => k_is); (case k => k_is)
    case q42 => refine' Ct.df_mk KX G ?a ?l ?c ?k; (case a => k_is); (case l => k_is); (case c => k_is); (case k => k_is)
    case q43 => refine' Ct.df_mk KX G ?a ?l ?c ?k; (case a => k_is); (case l => k_is); (case c => k_is); (case k => k_is)
    case q44 => refine' Ct.df_mk KX G ?a ?l ?c ?k; (case a => k_is); (case l => k_is); (case c => k_is); (case k => k_is)
    case q45 => refine' Ct.df_mk KX G ?a ?l ?c ?k; (case a => k_is); (case l => k_is); (case c => k_is); (case k => k_is)
    case q46 => refine' Ct.df_mk KX G ?a ?l ?c ?k; (case a => k_is); (case l => k_is); (case c => k_is); (case k => k_is)
    case q47 => refine' Ct.df_mk KX G ?a ?l ?c ?k; (case a => k_is); (case l => k_is); (case c => k_is); (case k => k_is)
    case q48 => refine' Ct.df_mk KX G ?a ?l ?c ?k; (case a => k_is); (case l => k_is); (case c => k_is); (case k => k_is)
    case q49 => refine' Ct.df_mk KX G ?a ?l ?c ?k; (case a => k_is); (case l => k_is); (case c => k_is); (case k => k_is)
    case q50 => refine' Ct.df_mk KX G ?a ?l ?c ?k; (case a => k_is); (case l => k_is); (case c => k_is); (case k => k_is)
    case q51 => refine' Ct.df_mk KX G ?a ?l ?c ?k; (case a => k_is); (case l => k_is); (case c => k_is); (case k => k_is)
    case q52 => refine' Ct.df_mk KX G ?a ?l ?c ?k; (case a => k_is); (case l => k_is); (case c => k_is); (case k => k_is)
    case q53 => refine' Ct.df_mk KX G ?a ?l ?c ?k; (case a => k_is); (case l => k_is); (case c => k_is); (case k => k_is)
    case q54 => refine' Ct.df_mk KX G ?a ?l ?c ?k; (case a => k_is); (case l => k_is); (case c => k_is); (case k => k_is)
    case q55 => refine' Ct.df_mk KX G ?a ?l ?c ?k; (case a => k_is); (case l => k_is); (case c => k_is); (case k => k_is)
    case q56 => refine' Ct.df_mk KX G ?a ?l ?c ?k; (case a => k_is); (case l => k_is); (case c => k_is); (case k => k_is)
    case q57 => refine' Ct.df_mk KX G ?a ?l ?c ?k; (case a => k_is); (case l => k_is); (case c => k_is); (case k => k_is)
    case q58 => refine' Ct.df_mk KX G ?a ?l ?c ?k; (case a => k_is); (case l => k_is); (case c => k_is); (case k => k_is)
    case q59 => refine' Ct.df_mk KX G ?a ?l ?c ?k; (case a => k_is); (case l => k_is); (case c => k_is); (case k => k_is)
    case q60 => refine' Ct.df_mk KX G ?a ?l ?c ?k; (case a => k_is); (case l => k_is); (case c => k_is); (case k => k_is)
    case q61 => refine' Ct.df_mk KX G ?a ?l ?c ?k; (case a => k_is); (case l => k_is); (case c => k_is); (case k => k_is)
    case q62 => refine' Ct.df_mk KX G ?a ?l ?c ?k; (case a => k_is); (case l => k_is); (case c => k_is); (case k => k_is)
    case q63 => refine' Ct.df_mk KX G ?a ?l ?c ?k; (case a => k_is); (case l => k_is); (case c => k_is); (case k => k_is)
    case q64 => refine' Ct.df_mk KX G ?a ?l ?c ?k; (case a => k_is); (case l => k_is); (case c => k_is); (case k => k_is)
    case q65 => refine' Ct.df_mk KX G ?a ?l ?c ?k; (case a => k_is); (case l => k_is); (case c => k_is); (case k => k_is)
    case q66 => refine' Ct.df_mk KX G ?a ?l ?c ?k; (case a => k_is); (case l => k_is); (case c => k_is); (case k => k_is)
    case q67 => refine' Ct.df_mk KX G ?a ?l ?c ?k; (case a => k_is); (case l => k_is); (case c => k_is); (case k => k_is)
    case q68 => refine' Ct.df_mk KX G ?a ?l ?c ?k; (case a => k_is); (case l => k_is); (case c => k_is); (case k => k_is)
    case q69 => refine' Ct.df_mk KX G ?a ?l ?c ?k; (case a => k_is); (case l => k_is); (case c => k_is); (case k => k_is)
    case q70 => refine' Ct.df_mk KX G ?a ?l ?c ?k; (case a => k_is); (case l => k_is); (case c => k_is); (case k => k_is)
    case q71 => refine' Ct.df_mk KX G ?a ?l ?c ?k; (case a => k_is); (case l => k_is); (case c => k_is); (case k => k_is)
    case q72 => refine' Ct.cst_mk KX G ?a; (case a => k_is)
    case q73 => refine' Ct.cst_mk KX G ?a; (case a => k_is)
    case q74 => refine' Ct.cst_mk KX G ?a; (case a => k_is)
    case q75 => refine' Ct.cst_mk KX G ?a; (case a => k_is)
    case q76 => refine' Ct.cst_mk KX G ?a; (case a => k_is)
    case q77 => refine' Ct.cst_mk KX G ?a; (case a => k_is)
    case q78 => refine' Ct.cst_mk KX G ?a; (case a => k_is)
    case q79 =>
      refine' ⟨?z0, ?z1, ?z2, ?z3, ?z4, ?z5, ?z6, ?z7, ?z8, ?z9, ?z10, ?z11, ?z12⟩
      (case z0 => refine' PySem.W.mg_none_of KX G ?a; (case a => k_is))
      (case z1 => refine' PySem.W.mg_none_of KX G ?a; (case a => k_is))
      (case z2 => refine' PySem.W.mg_none_of KX G ?a; (case a => k_is))
      (case z3 => refine' PySem.W.mg_none_of KX G ?a; (case a => k_is))
      (case z4 => refine' PySem.W.mg_none_of KX G ?a; (case a => k_is))
      (case z5 => refine' PySem.W.mg_none_of KX G ?a; (case a => k_is))
      (case z6 => refine' PySem.W.mg_none_of KX G ?a; (case a => k_is))
      (case z7 => refine' PySem.W.mg_none_of KX G ?a; (case a => k_is))
      (case z8 => refine' PySem.W.mg_none_of KX G ?a; (case a => k_is))
      (case z9 => refine' PySem.W.mg_none_of KX G ?a; (case a => k_is))
      (case z10 => refine' PySem.W.mg_none_of KX G ?a; (case a => k_is))
      (case z11 => refine' PySem.W.mg_none_of KX G ?a; (case a => k_is))
      (case z12 => refine' PySem.W.mg_none_of KX G ?a; (case a => k_is))
    case q80 => refine' Ct.df_mk KX G ?a ?l ?c ?k; (case a => k_is); (case l => k_is); (case c => k_is); (case k => k_is)
    case q81 => decide
    case q82 => decide
    case q83 => decide
