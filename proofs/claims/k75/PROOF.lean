import PyProof.Rows.All
import Wide.All
import OpenK.AllK
import Wide.FinOn
import HandS.ForExc
import HandS.Comp
import HandS.Iter
import HandS.Lambda
import HandS.EndTab
import HandS.IsInst
import HandS.NoneIn
import HandS.Flow
import KE.SortKeyHeap
import HandS.Nested
import HandS.SortRule
import HandS.Deep
import HandS.Dict
import HandS.Small
import HandS.Walk
import HandS.WideBits
import HandS.Style
import PyProof.EqKinds
import KE.OsArith
import KE.IntBitsLaws
import PySem.Challenge.RW_comestrue_k75_whole_pads_tells_and_freed
set_option Elab.async false
set_option linter.all false
set_option autoImplicit false
set_option maxRecDepth 100000
set_option maxHeartbeats 4000000
/-! Ct: value-level judgements over the hand layer. A value is plain data or a list cell of a store. -/
namespace Ct
open PySem L2

/-- a thing that never changes, by what is true of it -/
structure Ob where
  φ : Hp → V → Prop
  mono : ∀ {F F' : Hp} {v : V}, Same F F' → φ F v → φ F' v
inductive Val where
  | pd (d : PyData)
  | cell (n : Nat)
  | ty (n : String)
  | ob (o : Ob)
/-- mu: a list of plain data; fr: such a one that is no more written; ml: a list of values; ins: an instance of the class at C -/
inductive Cell where
  | mu (xs : List PyData)
  | fr (xs : List PyData)
  | ml (xs : List Val)
  | ins (C : Addr) (fs : List (Str × Val))
  | gone
  | pin (vs : List V) (xs : List PyData)
  | dt (kvs : List (List Int × PyData))
def Cell.live : Cell → Prop
  | .fr _ => False
  | .gone => False
  | _ => True
abbrev Sto := List Cell
abbrev SS := List (Option Val)

section
variable {K : PySem.W.Frag} {F F' F'' H H' : Hp} {a : Addr} {xs : List V}
theorem seqT (s : Same F F') (h : SqT K F a xs) : SqT K F' a xs := by
  rcases h with (h | ⟨o, h⟩) | h
  · exact .inl (.inl (s _ _ h))
  · exact .inl (.inr ⟨o, s _ _ h⟩)
  · exact .inr h
mutual
theorem dpm (s : Same F F') : ∀ {v : V} {d : PyData}, Dp K F v d → Dp K F' v d
  | _, _, .non => .non
  | _, _, .bl b => .bl b
  | _, _, .int i => .int i
  | _, _, .str x => .str x
  | _, _, .lst h t => .lst (s.seq h) (dpsm s t)
  | _, _, .tup h t => .tup (seqT s h) (dpsm s t)
theorem dpsm (s : Same F F') : ∀ {vs : List V} {ds : List PyData}, DpAll K F vs ds → DpAll K F' vs ds
  | _, _, .nil => .nil
  | _, _, .cons h t => .cons (dpm s h) (dpsm s t)
end
theorem dps_len : ∀ {vs : List V} {ds : List PyData}, DpAll K F vs ds → vs.length = ds.length
  | _, _, .nil => rfl
  | _, _, .cons _ t => congrArg (· + 1) (dps_len t)
theorem dps_get : ∀ {vs : List V} {ds : List PyData} {i : Nat} {d : PyData}, DpAll K F vs ds → ds[i]? = some d → ∃ v, vs[i]? = some v ∧ Dp K F v d
  | _, _, _, _, .nil, e => by simp at e
  | _, _, 0, _, .cons h _, e => by
    simp at e
    subst e
    exact ⟨_, rfl, h⟩
  | _, _, i + 1, _, .cons _ t, e => by
    simp at e
    obtain ⟨v, h1, h2⟩ := dps_get t e
    exact ⟨v, by simpa using h1, h2⟩
theorem dps_getV : ∀ {vs : List V} {ds : List PyData} {i : Nat} {v : V}, DpAll K F vs ds → vs[i]? = some v → ∃ d, ds[i]? = some d ∧ Dp K F v d
  | _, _, _, _, .nil, e => by simp at e
  | _, _, 0, _, .cons h _, e => by
    simp at e
    subst e
    exact ⟨_, rfl, h⟩
  | _, _, i + 1, _, .cons _ t, e => by
    simp at e
    obtain ⟨v, h1, h2⟩ := dps_getV t e
    exact ⟨v, by simpa using h1, h2⟩
theorem dps_app : ∀ {vs ws : List V} {ds es : List PyData}, DpAll K F vs ds → DpAll K F ws es → DpAll K F (vs ++ ws) (ds ++ es)
  | _, _, _, _, .nil, t => t
  | _, _, _, _, .cons h r, t => .cons h (dps_app r t)
theorem dps_set : ∀ {vs : List V} {ds : List PyData} {v : V} {d : PyData} (i : Nat), DpAll K F vs ds → Dp K F v d → DpAll K F (vs.set i v) (ds.set i d)
  | _, _, _, _, _, .nil, _ => .nil
  | _, _, _, _, 0, .cons _ r, h => .cons h r
  | _, _, _, _, i + 1, .cons g r, h => .cons g (dps_set i r h)
theorem dps_take : ∀ {vs : List V} {ds : List PyData} (n : Nat), DpAll K F vs ds → DpAll K F (vs.take n) (ds.take n)
  | _, _, 0, _ => .nil
  | _, _, _ + 1, .nil => .nil
  | _, _, n + 1, .cons h t => .cons h (dps_take n t)
theorem dps_drop : ∀ {vs : List V} {ds : List PyData} (n : Nat), DpAll K F vs ds → DpAll K F (vs.drop n) (ds.drop n)
  | _, _, 0, r => r
  | _, _, _ + 1, .nil => .nil
  | _, _, n + 1, .cons _ t => dps_drop n t
theorem dps_ints : ∀ {vs : List V} {ns : List Int}, DpAll K F vs (ns.map PyData.int) → vs = ns.map V.int
  | _, [], .nil => rfl
  | _, n :: ns, .cons (.int _) t => by rw [dps_ints t]; rfl
theorem dps_ints' : ∀ (ns : List Int), DpAll K F (ns.map V.int) (ns.map PyData.int)
  | [] => .nil
  | n :: ns => .cons (.int n) (dps_ints' ns)
theorem dp_int {v : V} {i : Int} (h : Dp K F v (.int i)) : v = .int i := by cases h; rfl
theorem dp_bl {v : V} {b : Bool} (h : Dp K F v (.bool b)) : v = .bl b := by cases h; rfl
theorem dp_str {v : V} {x : Str} (h : Dp K F v (.str x)) : v = .str x := by cases h; rfl
theorem dp_non {v : V} (h : Dp K F v .none) : v = .non := by cases h; rfl
theorem dp_lst {v : V} {ds : List PyData} (h : Dp K F v (.list ds)) : ∃ a vs, v = .ref a ∧ SqL K F a vs ∧ DpAll K F vs ds := by
  cases h with
  | lst h t => exact ⟨_, _, rfl, h, t⟩
theorem dp_tup {v : V} {ds : List PyData} (h : Dp K F v (.tuple ds)) : ∃ a vs, v = .ref a ∧ SqT K F a vs ∧ DpAll K F vs ds := by
  cases h with
  | tup h t => exact ⟨_, _, rfl, h, t⟩
end

/-- what is known of code objects' tables -/
structure TabI where
  P : Hp → Prop
  ext : ∀ {H H' : Hp}, Same H H' → P H → P H'
  write : ∀ {H : Hp} {p : Addr} {u o : HO}, H p = some u → (∀ ps, u ≠ .tbl ps) → (∀ φ, u ≠ .ext φ) → P H → P (upd H p o)
  less : ∀ {H H' : Hp}, (∀ b o, H b = some o → (∃ ps, o = .tbl ps) ∨ (∃ φ, o = .ext φ) → H' b = some o) → P H → P H'
def tab0 : TabI := ⟨fun _ => True, fun _ _ => trivial, fun _ _ _ _ => trivial, fun _ _ => trivial⟩
def tabL (T : List (Addr × Str)) : TabI := ⟨LamX.Tabs T, fun s t => t.ext s, fun {H p u o} h nt nx t q hq => by
  obtain ⟨ps, h1, h2, h3⟩ := t q hq
  refine ⟨ps, ?_, h2, fun pos cv hc => ?_⟩
  · rw [upd_ne (ne_of h1 h (fun z => nt ps z.symm))]
    exact h1
  · obtain ⟨c, e1, e2⟩ := h3 pos cv hc
    refine ⟨c, e1, ?_⟩
    rw [upd_ne (ne_of e2 h (fun z => by unfold LamX.CodeO at z; exact nx _ z.symm))]
    exact e2, fun k t q hq => by
  obtain ⟨ps, h1, h2, h3⟩ := t q hq
  exact ⟨ps, k _ _ h1 (.inl ⟨_, rfl⟩), h2, fun pos cv hc => let ⟨c, e1, e2⟩ := h3 pos cv hc; ⟨c, e1, k _ _ e2 (.inr ⟨_, rfl⟩)⟩⟩⟩
/-- T tells the table at P, whose one name is q -/
structure TabI.Has (T : TabI) (P : Addr) (q : Str) : Prop where
  to : ∀ H, T.P H → LamX.Tabs [(P, q)] H
  of : ∀ H H2, T.P H → LamX.ExtN H H2 → LamX.Tabs [(P, q)] H2 → T.P H2
theorem tabL_has {P : Addr} {q : Str} : (tabL [(P, q)]).Has P q := ⟨fun _ h => h, fun _ _ _ _ h => h⟩
/-! ### the relation -/
section
variable (K : PySem.W.Frag) (T : TabI) (α : Nat → Addr) (F H : Hp)
/-- a dict whose keys are tuples of ints -/
inductive Kvs : List (List L2.Key × V) → List (List Int × PyData) → Prop
  | nil : Kvs [] []
  | cons {k : List Int} {v : V} {d : PyData} {ws kvs} : Dp K F v d → Kvs ws kvs → Kvs ((k.map Sum.inl, v) :: ws) ((k, d) :: kvs)
def VR (L : Nat) : Val → V → Prop
  | .pd d, v => Dp K F v d
  | .cell n, v => n < L ∧ v = .ref (α n)
  | .ty n, v => v = .ty n
  | .ob o, v => o.φ F v
structure SR (L : Nat) (ss : SS) (σ : L2.St) : Prop where
  len : ss.length = σ.length
  at_ : ∀ (i : Nat) (x : Val), ss[i]? = some (some x) → ∃ v, σ[i]? = some (some v) ∧ VR K α F L x v
inductive VRs (L : Nat) : List Val → List V → Prop
  | nil : VRs L [] []
  | cons {x v xs vs} : VR K α F L x v → VRs L xs vs → VRs L (x :: xs) (v :: vs)
inductive FRs (L : Nat) : List (Str × Val) → List (Str × V) → Prop
  | nil : FRs L [] []
  | cons {f x v xs vs} : VR K α F L x v → FRs L xs vs → FRs L ((f, x) :: xs) ((f, v) :: vs)
/-- what lies at a for a cell -/
def CR (L : Nat) (a : Addr) : Cell → Prop
  | .mu xs => F a = none ∧ ∃ vs, H a = some (.lst vs) ∧ DpAll K F vs xs
  | .fr xs => ∃ vs, F a = some (.lst vs) ∧ DpAll K F vs xs
  | .ml xs => F a = none ∧ ∃ vs, H a = some (.lst vs) ∧ VRs K α F L xs vs
  | .ins C fs => F a = none ∧ ∃ dx vs, H a = some (.ins C dx vs) ∧ FRs K α F L fs vs
  | .gone => ∃ o, F a = some o
  | .pin vs xs => F a = none ∧ H a = some (.lst vs) ∧ DpAll K F vs xs
  | .dt kvs => F a = none ∧ ∃ ws, H a = some (.dT ws) ∧ Kvs K F ws kvs
structure Rel (st : Sto) : Prop where
  sub : Same F H
  nt : ∀ a ps, F a ≠ some (.tbl ps)
  tab : T.P H
  at_ : ∀ (n : Nat) (c : Cell), st[n]? = some c → CR K α F H st.length (α n) c
  inj : ∀ (n m : Nat) (c d : Cell), st[n]? = some c → st[m]? = some d → c.live → d.live → α n = α m → n = m
end
structure Nx (α : Nat → Addr) (F : Hp) (L : Nat) (α' : Nat → Addr) (F' : Hp) (L' : Nat) : Prop where
  sub : Same F F'
  le : L ≤ L'
  ag : ∀ n, n < L → α' n = α n
theorem Nx.refl {α : Nat → Addr} {F : Hp} {L : Nat} : Nx α F L α F L := ⟨Same.refl F, Nat.le_refl _, fun _ _ => rfl⟩
theorem Nx.trans {α α1 α2 : Nat → Addr} {F F1 F2 : Hp} {L L1 L2 : Nat} (a : Nx α F L α1 F1 L1) (b : Nx α1 F1 L1 α2 F2 L2) : Nx α F L α2 F2 L2 :=
  ⟨a.sub.trans b.sub, Nat.le_trans a.le b.le, fun n h => (b.ag n (Nat.lt_of_lt_of_le h a.le)).trans (a.ag n h)⟩

section
variable {K : PySem.W.Frag} {T : TabI} {α α' : Nat → Addr} {F F' H H' : Hp} {L L' : Nat} {st : Sto} {ss : SS} {σ : L2.St}
theorem Kvs.mono (s : Same F F') : ∀ {ws : List (List L2.Key × V)} {kvs : List (List Int × PyData)}, Kvs K F ws kvs → Kvs K F' ws kvs
  | _, _, .nil => .nil
  | _, _, .cons h t => .cons (dpm s h) (t.mono s)
theorem VR.mono (n : Nx α F L α' F' L') : ∀ {x : Val} {v : V}, VR K α F L x v → VR K α' F' L' x v
  | .pd _, _, h => dpm n.sub h
  | .cell m, _, ⟨h, e⟩ => ⟨Nat.lt_of_lt_of_le h n.le, by rw [n.ag m h]; exact e⟩
  | .ty _, _, h => h
  | .ob o, _, h => o.mono n.sub h
theorem FRs.mono (n : Nx α F L α' F' L') : ∀ {fs : List (Str × Val)} {vs : List (Str × V)}, FRs K α F L fs vs → FRs K α' F' L' fs vs
  | _, _, .nil => .nil
  | _, _, .cons h t => .cons (h.mono n) (FRs.mono n t)
theorem Rel.mu (r : Rel K T α F H st) (n : Nat) (xs : List PyData) (e : st[n]? = some (.mu xs)) : F (α n) = none ∧ ∃ vs, H (α n) = some (.lst vs) ∧ DpAll K F vs xs := r.at_ n _ e
theorem Rel.fr (r : Rel K T α F H st) (n : Nat) (xs : List PyData) (e : st[n]? = some (.fr xs)) : ∃ vs, F (α n) = some (.lst vs) ∧ DpAll K F vs xs := r.at_ n _ e
theorem Rel.ml (r : Rel K T α F H st) (n : Nat) (xs : List Val) (e : st[n]? = some (.ml xs)) : F (α n) = none ∧ ∃ vs, H (α n) = some (.lst vs) ∧ VRs K α F st.length xs vs := r.at_ n _ e
theorem Rel.ins (r : Rel K T α F H st) (n : Nat) (C : Addr) (fs : List (Str × Val)) (e : st[n]? = some (.ins C fs)) : F (α n) = none ∧ ∃ dx vs, H (α n) = some (.ins C dx vs) ∧ FRs K α F st.length fs vs := r.at_ n _ e
/-- a live cell stands apart from what never changes -/
theorem CR.off {a : Addr} {c : Cell} (l : c.live) (h : CR K α F H L a c) : F a = none := by
  cases c with
  | mu xs => exact h.1
  | fr xs => cases l
  | ml xs => exact h.1
  | ins C fs => exact h.1
  | gone => cases l
  | pin vs xs => exact h.1
  | dt kvs => exact h.1
theorem CR.on {a : Addr} {c : Cell} (h : CR K α F H L a c) (s : Same F H) : ∃ o, H a = some o := by
  cases c with
  | mu xs => exact ⟨_, h.2.choose_spec.1⟩
  | fr xs => exact ⟨_, s _ _ h.choose_spec.1⟩
  | ml xs => exact ⟨_, h.2.choose_spec.1⟩
  | ins C fs => exact ⟨_, h.2.choose_spec.choose_spec.1⟩
  | gone => exact ⟨_, s _ _ h.choose_spec⟩
  | pin vs xs => exact ⟨_, h.2.1⟩
  | dt kvs => exact ⟨_, h.2.choose_spec.1⟩
theorem SR.mono (n : Nx α F L α' F' L') (h : SR K α F L ss σ) : SR K α' F' L' ss σ :=
  ⟨h.len, fun i x e => let ⟨v, e1, e2⟩ := h.at_ i x e; ⟨v, e1, e2.mono n⟩⟩
theorem VRs.len : ∀ {xs : List Val} {vs : List V}, VRs K α F L xs vs → xs.length = vs.length
  | _, _, .nil => rfl
  | _, _, .cons _ t => congrArg (· + 1) t.len
theorem VRs.app : ∀ {xs ys : List Val} {vs ws : List V}, VRs K α F L xs vs → VRs K α F L ys ws → VRs K α F L (xs ++ ys) (vs ++ ws)
  | _, _, _, _, .nil, t => t
  | _, _, _, _, .cons h r, t => .cons h (r.app t)
theorem SR.set (h : SR K α F L ss σ) {x : Val} {v : V} (i : Nat) (r : VR K α F L x v) : SR K α F L (ss.set i (some x)) (σ.set i (some v)) := by
  refine ⟨by rw [List.length_set, List.length_set]; exact h.len, fun j y e => ?_⟩
  by_cases hj : i = j
  · subst hj
    by_cases hi : i < ss.length
    · rw [List.getElem?_set_self hi] at e
      cases e
      exact ⟨v, List.getElem?_set_self (by rw [← h.len]; exact hi), r⟩
    · rw [List.getElem?_eq_none (by rw [List.length_set]; omega)] at e
      cases e
  · rw [List.getElem?_set_ne hj] at e ⊢
    exact h.at_ j y e
theorem SR.setNone (h : SR K α F L ss σ) (i : Nat) : SR K α F L (ss.set i none) (σ.set i none) := by
  refine ⟨by rw [List.length_set, List.length_set]; exact h.len, fun j y e => ?_⟩
  by_cases hj : i = j
  · subst hj
    by_cases hi : i < ss.length
    · rw [List.getElem?_set_self hi] at e
      cases e
    · rw [List.getElem?_eq_none (by rw [List.length_set]; omega)] at e
      cases e
  · rw [List.getElem?_set_ne hj] at e ⊢
    exact h.at_ j y e
theorem VRs.mono (n : Nx α F L α' F' L') : ∀ {xs : List Val} {vs : List V}, VRs K α F L xs vs → VRs K α' F' L' xs vs
  | _, _, .nil => .nil
  | _, _, .cons h t => .cons (h.mono n) (VRs.mono n t)
/-- a cell's thing is the same, the rest has grown -/
theorem CR.move {a : Addr} {c : Cell} (h : CR K α F H L a c) (n : Nx α F L α' F' L') (eF : c.live → F a = none → F' a = none) (eH : c.live → ∀ o, (∀ ps, o ≠ .tbl ps) → H a = some o → H' a = some o) : CR K α' F' H' L' a c := by
  cases c with
  | mu xs => exact let ⟨h1, vs, h2, h3⟩ := h; ⟨eF trivial h1, vs, eH trivial _ (fun ps z => by cases z) h2, dpsm n.sub h3⟩
  | fr xs => exact let ⟨vs, h2, h3⟩ := h; ⟨vs, n.sub _ _ h2, dpsm n.sub h3⟩
  | ml xs => exact let ⟨h1, vs, h2, h3⟩ := h; ⟨eF trivial h1, vs, eH trivial _ (fun ps z => by cases z) h2, h3.mono n⟩
  | ins C fs => exact let ⟨h1, dx, vs, h2, h3⟩ := h; ⟨eF trivial h1, dx, vs, eH trivial _ (fun ps z => by cases z) h2, h3.mono n⟩
  | gone => exact let ⟨o, e⟩ := h; ⟨o, n.sub _ _ e⟩
  | pin vs xs => exact let ⟨h1, h2, h3⟩ := h; ⟨eF trivial h1, eH trivial _ (fun ps z => by cases z) h2, dpsm n.sub h3⟩
  | dt kvs => exact let ⟨h1, ws, h2, h3⟩ := h; ⟨eF trivial h1, ws, eH trivial _ (fun ps z => by cases z) h2, h3.mono n.sub⟩
theorem Rel.grow (r : Rel K T α F H st) (s : Same H H') (t : T.P H') : Rel K T α F H' st :=
  ⟨r.sub.trans s, r.nt, t, fun n c e => (r.at_ n c e).move Nx.refl (fun _ h => h) fun _ o _ h => s _ _ h, r.inj⟩
theorem same_upd {p : Addr} {o : HO} (h : H p = none) : Same H (upd H p o) := fun b x e => by
  rw [upd_ne (ne_of_none e h)]
  exact e
theorem none_of (r : Rel K T α F H st) {p : Addr} (h : H p = none) : F p = none := r.sub.free h
/-- a new immutable thing -/
theorem Rel.new {p : Addr} {o : HO} (r : Rel K T α F H st) (h : H p = none) (no : ∀ ps, o ≠ .tbl ps) : Rel K T α (upd F p o) (upd H p o) st := by
  have hF := none_of r h
  have sF : Same F (upd F p o) := same_upd hF
  refine ⟨fun b x e => ?_, fun b ps e => ?_, T.ext (same_upd h) r.tab, fun n c e => ?_, r.inj⟩
  · by_cases hb : b = p
    · subst hb
      rw [upd_same] at e ⊢
      exact e
    · rw [upd_ne hb] at e ⊢
      exact r.sub _ _ e
  · by_cases hb : b = p
    · subst hb
      rw [upd_same] at e
      exact no ps (Option.some.inj e)
    · rw [upd_ne hb] at e
      exact r.nt b ps e
  · have hc := r.at_ n c e
    have ne : α n ≠ p := fun z => by
      obtain ⟨o', h'⟩ := hc.on r.sub
      rw [z, h] at h'
      cases h'
    exact hc.move ⟨sF, Nat.le_refl _, fun _ _ => rfl⟩ (fun _ h1 => by rw [upd_ne ne]; exact h1) fun _ o _ h1 => by rw [upd_ne ne]; exact h1
theorem Nx.new {p : Addr} {o : HO} (h : F p = none) : Nx α F L α (upd F p o) L := ⟨same_upd h, Nat.le_refl _, fun _ _ => rfl⟩
/-- a new cell -/
def ext (α : Nat → Addr) (n : Nat) (p : Addr) : Nat → Addr := fun m => if m = n then p else α m
theorem ext_same {n : Nat} {p : Addr} : ext α n p n = p := by unfold ext; rw [if_pos rfl]
theorem ext_ne {n m : Nat} {p : Addr} (h : m ≠ n) : ext α n p m = α m := by unfold ext; rw [if_neg h]
theorem Nx.ext {p : Addr} : Nx α F L (ext α L p) F (L + 1) := ⟨Same.refl F, Nat.le_succ _, fun n h => ext_ne (Nat.ne_of_lt h)⟩
theorem get_app {c : Cell} {n : Nat} {x : Cell} (e : (st ++ [c])[n]? = some x) : (n = st.length ∧ x = c) ∨ (n < st.length ∧ st[n]? = some x) := by
  by_cases h : n < st.length
  · rw [List.getElem?_append_left h] at e
    exact .inr ⟨h, e⟩
  · rw [List.getElem?_append_right (by omega)] at e
    by_cases h2 : n - st.length = 0
    · rw [h2] at e
      simp at e
      exact .inl ⟨by omega, e.symm⟩
    · obtain ⟨k, hk⟩ : ∃ k, n - st.length = k + 1 := ⟨n - st.length - 1, by omega⟩
      rw [hk] at e
      simp at e
/-- a new cell of any kind -/
theorem Rel.cellG {p : Addr} {o : HO} {c : Cell} (r : Rel K T α F H st) (h : H p = none) (d : CR K (ext α st.length p) F (upd H p o) (st.length + 1) p c) (no : ∀ ps, o ≠ .tbl ps) : Rel K T (ext α st.length p) F (upd H p o) (st ++ [c]) := by
  have sH : Same H (upd H p o) := same_upd h
  have len : (st ++ [c]).length = st.length + 1 := by simp
  have ne : ∀ n x, st[n]? = some x → α n ≠ p := fun n x e z => by
    obtain ⟨o', h'⟩ := (r.at_ n x e).on r.sub
    rw [z, h] at h'
    cases h'
  refine ⟨r.sub.trans sH, r.nt, T.ext sH r.tab, fun n x e => ?_, fun n m x y e1 e2 l1 l2 e => ?_⟩
  · rw [len]
    rcases get_app e with ⟨rfl, q⟩ | ⟨hl, q⟩
    · rw [q, ext_same]
      exact d
    · rw [ext_ne (Nat.ne_of_lt hl)]
      exact (r.at_ n x q).move Nx.ext (fun _ h => h) fun _ o _ h1 => sH _ _ h1
  · rcases get_app e1 with ⟨h1, q1⟩ | ⟨h1, q1⟩ <;> rcases get_app e2 with ⟨h2, q2⟩ | ⟨h2, q2⟩
    · omega
    · subst h1
      rw [ext_same, ext_ne (Nat.ne_of_lt h2)] at e
      exact absurd e.symm (ne m _ q2)
    · subst h2
      rw [ext_same, ext_ne (Nat.ne_of_lt h1)] at e
      exact absurd e (ne n _ q1)
    · rw [ext_ne (Nat.ne_of_lt h1), ext_ne (Nat.ne_of_lt h2)] at e
      exact r.inj n m x y q1 q2 l1 l2 e
theorem Rel.cell {p : Addr} {vs : List V} {xs : List PyData} (r : Rel K T α F H st) (h : H p = none) (d : DpAll K F vs xs) : Rel K T (ext α st.length p) F (upd H p (.lst vs)) (st ++ [.mu xs]) :=
  r.cellG h ⟨none_of r h, vs, upd_same, d⟩ fun ps z => by cases z
theorem get_set {n m : Nat} {c x : Cell} (e : (st.set n c)[m]? = some x) : (m = n ∧ x = c) ∨ (m ≠ n ∧ st[m]? = some x) := by
  by_cases h : n = m
  · subst h
    by_cases hl : n < st.length
    · rw [List.getElem?_set_self hl] at e
      exact .inl ⟨rfl, (Option.some.inj e).symm⟩
    · rw [List.getElem?_eq_none (by rw [List.length_set]; omega)] at e
      cases e
  · rw [List.getElem?_set_ne h] at e
    exact .inr ⟨fun z => h z.symm, e⟩
/-- a cell is written -/
theorem Rel.writeG {n : Nat} {c0 c : Cell} {u o : HO} (r : Rel K T α F H st) (h : st[n]? = some c0) (l0 : c0.live) (hu : H (α n) = some u) (nt : ∀ ps, u ≠ .tbl ps) (nx : ∀ φ, u ≠ .ext φ) (d : CR K α F (upd H (α n) o) st.length (α n) c) : Rel K T α F (upd H (α n) o) (st.set n c) := by
  have h1 := (r.at_ n _ h).off l0
  refine ⟨fun b x e => ?_, r.nt, T.write hu nt nx r.tab, fun m x e => ?_, fun m k x y e1 e2 l1 l2 e => ?_⟩
  · rw [upd_ne (ne_of_none e h1)]
    exact r.sub _ _ e
  · rw [List.length_set]
    rcases get_set e with ⟨rfl, q⟩ | ⟨hn, q⟩
    · rw [q]
      exact d
    · have ne : x.live → α m ≠ α n := fun l z => hn (r.inj m n _ _ q h l l0 z)
      exact (r.at_ m x q).move Nx.refl (fun _ h => h) fun l o _ h1 => by rw [upd_ne (ne l)]; exact h1
  · have f : ∀ {m : Nat} {x : Cell}, (st.set n c)[m]? = some x → x.live → ∃ y, st[m]? = some y ∧ y.live := fun {m x} e l => by
      rcases get_set e with ⟨rfl, _⟩ | ⟨_, q⟩
      · exact ⟨c0, h, l0⟩
      · exact ⟨x, q, l⟩
    obtain ⟨a1, b1, d1⟩ := f e1 l1
    obtain ⟨a2, b2, d2⟩ := f e2 l2
    exact r.inj m k _ _ b1 b2 d1 d2 e
theorem Rel.write {n : Nat} {xs ys : List PyData} {ws : List V} (r : Rel K T α F H st) (h : st[n]? = some (.mu xs)) (d : DpAll K F ws ys) : Rel K T α F (upd H (α n) (.lst ws)) (st.set n (.mu ys)) := by
  obtain ⟨h1, vs, h2, h3⟩ := r.mu n xs h
  exact r.writeG h trivial h2 (fun ps z => by cases z) (fun ps z => by cases z) ⟨h1, ws, upd_same, d⟩
/-- a cell is frozen: its thing goes over to what never changes -/
theorem Rel.freezeG {n : Nat} {c0 c : Cell} {o : HO} (r : Rel K T α F H st) (h : st[n]? = some c0) (l0 : c0.live) (h2 : H (α n) = some o) (no : ∀ ps, o ≠ .tbl ps) (lc : ¬ c.live) (hc : ∀ F', Same F F' → F' (α n) = some o → CR K α F' H st.length (α n) c) :
    Rel K T α (upd F (α n) o) H (st.set n c) := by
  have h1 := (r.at_ n _ h).off l0
  have sF : Same F (upd F (α n) o) := same_upd h1
  refine ⟨fun b x e => ?_, fun b ps e => ?_, r.tab, fun m x e => ?_, fun m k x y e1 e2 l1 l2 e => ?_⟩
  · by_cases hb : b = α n
    · subst hb
      rw [upd_same] at e
      rw [h2]
      exact e
    · rw [upd_ne hb] at e
      exact r.sub _ _ e
  · by_cases hb : b = α n
    · subst hb
      rw [upd_same] at e
      exact no ps (Option.some.inj e)
    · rw [upd_ne hb] at e
      exact r.nt b ps e
  · rw [List.length_set]
    rcases get_set e with ⟨rfl, q⟩ | ⟨hn, q⟩
    · rw [q]
      exact hc _ sF upd_same
    · exact (r.at_ m x q).move ⟨sF, Nat.le_refl _, fun _ _ => rfl⟩ (fun l h => by rw [upd_ne (fun z => hn (r.inj m n _ _ q ‹_› l l0 z))]; exact h) fun _ o _ h1 => h1
  · rcases get_set e1 with ⟨_, q⟩ | ⟨_, q1⟩
    · rw [q] at l1
      exact absurd l1 lc
    · rcases get_set e2 with ⟨_, q⟩ | ⟨_, q2⟩
      · rw [q] at l2
        exact absurd l2 lc
      · exact r.inj m k _ _ q1 q2 l1 l2 e
theorem Rel.freeze {n : Nat} {xs : List PyData} (r : Rel K T α F H st) (h : st[n]? = some (.mu xs)) :
    ∃ F', Rel K T α F' H (st.set n (.fr xs)) ∧ Nx α F st.length α F' st.length ∧ Dp K F' (.ref (α n)) (.list xs) := by
  obtain ⟨h1, vs, h2, h3⟩ := r.mu n xs h
  have sF : Same F (upd F (α n) (.lst vs)) := same_upd h1
  have at_ : upd F (α n) (HO.lst vs) (α n) = some (.lst vs) := upd_same
  exact ⟨upd F (α n) (.lst vs), r.freezeG h trivial h2 (fun ps z => by cases z) (fun z => z) fun F' s e => ⟨vs, e, dpsm s h3⟩, ⟨sF, Nat.le_refl _, fun _ _ => rfl⟩, .lst (.inl (.inl at_)) (dpsm sF h3)⟩
/-- back to the store of the start: what it holds does not know the later cells -/
theorem VR.back : ∀ {x : Val} {v w : V}, VR K α F L x v → VR K α' F' L' x w → VR K α' F' L x w
  | .pd _, _, _, _, h => h
  | .cell _, _, _, ⟨h, _⟩, ⟨_, e⟩ => ⟨h, e⟩
  | .ty _, _, _, _, h => h
  | .ob _, _, _, _, h => h
theorem VRs.back : ∀ {xs : List Val} {vs ws : List V}, VRs K α F L xs vs → VRs K α' F' L' xs ws → VRs K α' F' L xs ws
  | _, _, _, .nil, .nil => .nil
  | _, _, _, .cons h t, .cons h' t' => .cons (h.back h') (t.back t')
theorem FRs.back : ∀ {fs : List (Str × Val)} {vs ws : List (Str × V)}, FRs K α F L fs vs → FRs K α' F' L' fs ws → FRs K α' F' L fs ws
  | _, _, _, .nil, .nil => .nil
  | _, _, _, .cons h t, .cons h' t' => .cons (h.back h') (t.back t')
theorem CR.back {a b : Addr} {c : Cell} (h0 : CR K α F H L a c) (h : CR K α' F' H' L' b c) : CR K α' F' H' L b c := by
  cases c with
  | mu xs => exact h
  | fr xs => exact h
  | ml xs => exact let ⟨h1, vs, h2, h3⟩ := h; ⟨h1, vs, h2, h0.2.choose_spec.2.back h3⟩
  | ins C fs => exact let ⟨h1, dx, vs, h2, h3⟩ := h; ⟨h1, dx, vs, h2, h0.2.choose_spec.choose_spec.2.back h3⟩
  | gone => exact h
  | pin vs xs => exact h
  | dt kvs => exact h
theorem Rel.back {st0 : Sto} (r : Rel K T α' F' H' st) (r0 : Rel K T α F H st0) (e : st.take st0.length = st0) : Rel K T α' F' H' st0 := by
  have f : ∀ {n : Nat} {c : Cell}, st0[n]? = some c → st[n]? = some c := fun {n c} q => by
    rw [← e, List.getElem?_take] at q
    split at q
    · exact q
    · cases q
  exact ⟨r.sub, r.nt, r.tab, fun n c q => (r0.at_ n c q).back (r.at_ n c (f q)), fun n k x y e1 e2 l1 l2 z => r.inj n k x y (f e1) (f e2) l1 l2 z⟩
end
end Ct

/-! CtB: the judgements and their rules. -/
namespace Ct
open PySem L2

section
variable (K : PySem.W.Frag) (T : TabI)
def WE (te : TE) (ss : SS) (st : Sto) (Φ : Val → Sto → Prop) : Prop :=
  ∀ (α : Nat → Addr) (F H : Hp) (σ : L2.St), Rel K T α F H st → SR K α F st.length ss σ → ∀ Q : VK, (∀ (α' : Nat → Addr) (F' H' : Hp) (v : V) (x : Val) (st' : Sto), Nx α F st.length α' F' st'.length → Rel K T α' F' H' st' → VR K α' F' st'.length x v → Φ x st' → Q v H') → te σ H Q
def WT (tt : TT) (ss : SS) (st : Sto) (Φ : Bool → Sto → Prop) : Prop :=
  ∀ (α : Nat → Addr) (F H : Hp) (σ : L2.St), Rel K T α F H st → SR K α F st.length ss σ → ∀ Q : Bool → Hp → Prop, (∀ (α' : Nat → Addr) (F' H' : Hp) (b : Bool) (st' : Sto), Nx α F st.length α' F' st'.length → Rel K T α' F' H' st' → Φ b st' → Q b H') → tt σ H Q
def WA (ta : TA) (ss : SS) (st : Sto) (Φ : List Val → Sto → Prop) : Prop :=
  ∀ (α : Nat → Addr) (F H : Hp) (σ : L2.St), Rel K T α F H st → SR K α F st.length ss σ → ∀ Q : List V → Hp → Prop, (∀ (α' : Nat → Addr) (F' H' : Hp) (vs : List V) (xs : List Val) (st' : Sto), Nx α F st.length α' F' st'.length → Rel K T α' F' H' st' → VRs K α' F' st'.length xs vs → Φ xs st' → Q vs H') → ta σ H Q
def WO (to : TO) (ss : SS) (st : Sto) (Φ : Option Int → Sto → Prop) : Prop :=
  ∀ (α : Nat → Addr) (F H : Hp) (σ : L2.St), Rel K T α F H st → SR K α F st.length ss σ → ∀ Q : Option Int → Hp → Prop, (∀ (α' : Nat → Addr) (F' H' : Hp) (o : Option Int) (st' : Sto), Nx α F st.length α' F' st'.length → Rel K T α' F' H' st' → Φ o st' → Q o H') → to σ H Q
def WR (r : R2) (x y : Val) (st : Sto) (Φ : Val → Sto → Prop) : Prop :=
  ∀ (α : Nat → Addr) (F H : Hp) (vx vy : V), Rel K T α F H st → VR K α F st.length x vx → VR K α F st.length y vy → ∀ Q : VK, (∀ (α' : Nat → Addr) (F' H' : Hp) (v : V) (z : Val) (st' : Sto), Nx α F st.length α' F' st'.length → Rel K T α' F' H' st' → VR K α' F' st'.length z v → Φ z st' → Q v H') → r vx vy H Q
def WU (r : V → Hp → VK → Prop) (x : Val) (st : Sto) (Φ : Val → Sto → Prop) : Prop :=
  ∀ (α : Nat → Addr) (F H : Hp) (vx : V), Rel K T α F H st → VR K α F st.length x vx → ∀ Q : VK, (∀ (α' : Nat → Addr) (F' H' : Hp) (v : V) (z : Val) (st' : Sto), Nx α F st.length α' F' st'.length → Rel K T α' F' H' st' → VR K α' F' st'.length z v → Φ z st' → Q v H') → r vx H Q
def WC (r : List V → Hp → VK → Prop) (xs : List Val) (st : Sto) (Φ : Val → Sto → Prop) : Prop :=
  ∀ (α : Nat → Addr) (F H : Hp) (vs : List V), Rel K T α F H st → VRs K α F st.length xs vs → ∀ Q : VK, (∀ (α' : Nat → Addr) (F' H' : Hp) (v : V) (z : Val) (st' : Sto), Nx α F st.length α' F' st'.length → Rel K T α' F' H' st' → VR K α' F' st'.length z v → Φ z st' → Q v H') → r vs H Q
def WM (r : V → List V → Hp → VK → Prop) (x : Val) (xs : List Val) (st : Sto) (Φ : Val → Sto → Prop) : Prop :=
  ∀ (α : Nat → Addr) (F H : Hp) (vx : V) (vs : List V), Rel K T α F H st → VR K α F st.length x vx → VRs K α F st.length xs vs → ∀ Q : VK, (∀ (α' : Nat → Addr) (F' H' : Hp) (v : V) (z : Val) (st' : Sto), Nx α F st.length α' F' st'.length → Rel K T α' F' H' st' → VR K α' F' st'.length z v → Φ z st' → Q v H') → r vx vs H Q
def WX (t : TSet) (o i x : Val) (st : Sto) (Φ : Sto → Prop) : Prop :=
  ∀ (α : Nat → Addr) (F H : Hp) (vo vi vx : V), Rel K T α F H st → VR K α F st.length o vo → VR K α F st.length i vi → VR K α F st.length x vx → ∀ Q : Hp → Prop, (∀ (α' : Nat → Addr) (F' H' : Hp) (st' : Sto), Nx α F st.length α' F' st'.length → Rel K T α' F' H' st' → Φ st' → Q H') → t vo vi vx H Q
def WG (g : TG) (x : Val) (ss : SS) (st : Sto) (Φ : SS → Sto → Prop) : Prop :=
  ∀ (α : Nat → Addr) (F H : Hp) (σ : L2.St) (v : V), Rel K T α F H st → SR K α F st.length ss σ → VR K α F st.length x v → ∀ Q : L2.St → Hp → Prop, (∀ (α' : Nat → Addr) (F' H' : Hp) (σ' : L2.St) (ss' : SS) (st' : Sto), Nx α F st.length α' F' st'.length → Rel K T α' F' H' st' → SR K α' F' st'.length ss' σ' → Φ ss' st' → Q σ' H') → g v σ H Q
def WGs (g : TGs) (xs : List Val) (ss : SS) (st : Sto) (Φ : SS → Sto → Prop) : Prop :=
  ∀ (α : Nat → Addr) (F H : Hp) (σ : L2.St) (vs : List V), Rel K T α F H st → SR K α F st.length ss σ → VRs K α F st.length xs vs → ∀ Q : L2.St → Hp → Prop, (∀ (α' : Nat → Addr) (F' H' : Hp) (σ' : L2.St) (ss' : SS) (st' : Sto), Nx α F st.length α' F' st'.length → Rel K T α' F' H' st' → SR K α' F' st'.length ss' σ' → Φ ss' st' → Q σ' H') → g vs σ H Q
end
structure Po where
  nx : SS → Sto → Prop
  rt : Val → Sto → Prop
  bk : SS → Sto → Prop
  ct : SS → Sto → Prop
section
variable (K : PySem.W.Frag) (T : TabI)
structure Ok (α : Nat → Addr) (F : Hp) (L : Nat) (P : Po) (D : Ends) : Prop where
  nx : ∀ (α' : Nat → Addr) (F' H' : Hp) (σ' : L2.St) (ss' : SS) (st' : Sto), Nx α F L α' F' st'.length → Rel K T α' F' H' st' → SR K α' F' st'.length ss' σ' → P.nx ss' st' → D.nx σ' H'
  rt : ∀ (α' : Nat → Addr) (F' H' : Hp) (v : V) (x : Val) (st' : Sto), Nx α F L α' F' st'.length → Rel K T α' F' H' st' → VR K α' F' st'.length x v → P.rt x st' → D.rt v H'
  bk : ∀ (α' : Nat → Addr) (F' H' : Hp) (σ' : L2.St) (ss' : SS) (st' : Sto), Nx α F L α' F' st'.length → Rel K T α' F' H' st' → SR K α' F' st'.length ss' σ' → P.bk ss' st' → D.bk σ' H'
  ct : ∀ (α' : Nat → Addr) (F' H' : Hp) (σ' : L2.St) (ss' : SS) (st' : Sto), Nx α F L α' F' st'.length → Rel K T α' F' H' st' → SR K α' F' st'.length ss' σ' → P.ct ss' st' → D.ct σ' H'
def WS (ts : TS) (ss : SS) (st : Sto) (P : Po) : Prop :=
  ∀ (α : Nat → Addr) (F H : Hp) (σ : L2.St), Rel K T α F H st → SR K α F st.length ss σ → ∀ D : Ends, Ok K T α F st.length P D → ts D σ H
end
section
variable {K : PySem.W.Frag} {T : TabI}
theorem Ok.mono {α α1 : Nat → Addr} {F F1 : Hp} {L L1 : Nat} {P : Po} {D : Ends} (n : Nx α F L α1 F1 L1) (o : Ok K T α F L P D) : Ok K T α1 F1 L1 P D :=
  ⟨fun _ _ _ _ _ _ m => o.nx _ _ _ _ _ _ (n.trans m), fun _ _ _ _ _ _ m => o.rt _ _ _ _ _ _ (n.trans m), fun _ _ _ _ _ _ m => o.bk _ _ _ _ _ _ (n.trans m), fun _ _ _ _ _ _ m => o.ct _ _ _ _ _ _ (n.trans m)⟩

variable {ss : SS} {st : Sto} {Φ : Val → Sto → Prop} {te ta tb tc : TE} {tt tu : TT} {P : Po}

/-! ### data and cells -/
/-- make plain data of a value: a cell is frozen -/
def pur : Val → Sto → Option (PyData × Sto)
  | .pd d, st => some (d, st)
  | .cell n, st => match st[n]? with
    | some (.mu xs) => some (.list xs, st.set n (.fr xs))
    | some (.fr xs) => some (.list xs, st)
    | _ => none
  | _, _ => none
def purs : List Val → Sto → Option (List PyData × Sto)
  | [], st => some ([], st)
  | x :: xs, st => (pur x st).bind fun p => (purs xs p.2).bind fun q => some (p.1 :: q.1, q.2)
/-- what a value shows -/
def look : Val → Sto → Option PyData
  | .pd d, _ => some d
  | .cell n, st => match st[n]? with
    | some (.mu xs) => some (.list xs)
    | some (.fr xs) => some (.list xs)
    | some (.pin _ xs) => some (.list xs)
    | _ => none
  | _, _ => none
theorem pur_ok {α : Nat → Addr} {F H : Hp} {x : Val} {v : V} {d : PyData} {st' : Sto} (r : Rel K T α F H st) (hv : VR K α F st.length x v) (e : pur x st = some (d, st')) :
    ∃ F', Rel K T α F' H st' ∧ Nx α F st.length α F' st'.length ∧ Dp K F' v d := by
  cases x with
  | pd d0 =>
    cases e
    exact ⟨F, r, Nx.refl, hv⟩
  | cell n =>
    obtain ⟨hn, rfl⟩ := hv
    dsimp only [pur] at e
    split at e
    · rename_i xs h
      cases e
      obtain ⟨F', r', n', d'⟩ := r.freeze h
      exact ⟨F', r', by rw [List.length_set]; exact n', d'⟩
    · rename_i xs h
      cases e
      obtain ⟨vs, h1, h2⟩ := r.fr n _ h
      exact ⟨F, r, Nx.refl, .lst (.inl (.inl h1)) h2⟩
    · cases e
  | ty n => cases e
  | ob o => cases e
theorem purs_ok {α : Nat → Addr} {H : Hp} : ∀ {xs : List Val} {vs : List V} {F : Hp} {ds : List PyData} {st st' : Sto}, Rel K T α F H st → VRs K α F st.length xs vs → purs xs st = some (ds, st') →
    ∃ F', Rel K T α F' H st' ∧ Nx α F st.length α F' st'.length ∧ DpAll K F' vs ds
  | [], _, F, _, st, _, r, .nil, e => by
    cases e
    exact ⟨F, r, Nx.refl, .nil⟩
  | x :: xs, _, F, ds, st, st', r, .cons h t, e => by
    unfold purs at e
    rw [Option.bind_eq_some_iff] at e
    obtain ⟨⟨d, st1⟩, e1, e⟩ := e
    rw [Option.bind_eq_some_iff] at e
    obtain ⟨⟨es, st2⟩, e2, e⟩ := e
    cases e
    obtain ⟨F1, r1, n1, d1⟩ := pur_ok r h e1
    obtain ⟨F2, r2, n2, d2⟩ := purs_ok r1 (t.mono n1) e2
    exact ⟨F2, r2, n1.trans n2, .cons (dpm n2.sub d1) d2⟩
/-- a value's data, read in the whole heap -/
theorem look_ok {α : Nat → Addr} {F H : Hp} {x : Val} {v : V} {d : PyData} (r : Rel K T α F H st) (hv : VR K α F st.length x v) (e : look x st = some d) : Dp K H v d := by
  cases x with
  | pd d0 =>
    cases e
    exact dpm r.sub hv
  | cell n =>
    obtain ⟨hn, rfl⟩ := hv
    dsimp only [look] at e
    split at e
    · rename_i xs h
      cases e
      obtain ⟨h1, vs, h2, h3⟩ := r.mu n _ h
      exact .lst (.inl (.inl h2)) (dpsm r.sub h3)
    · rename_i xs h
      cases e
      obtain ⟨vs, h1, h2⟩ := r.fr n _ h
      exact .lst (.inl (.inl (r.sub _ _ h1))) (dpsm r.sub h2)
    · rename_i vs xs h
      cases e
      obtain ⟨_, h2, h3⟩ := r.at_ n _ h
      exact .lst (.inl (.inl h2)) (dpsm r.sub h3)
    · cases e
  | ty n => cases e
  | ob o => cases e
/-- a list's items: the list in the whole heap, its items plain data -/
theorem look_lst {α : Nat → Addr} {F H : Hp} {x : Val} {v : V} {ds : List PyData} (r : Rel K T α F H st) (hv : VR K α F st.length x v) (e : look x st = some (.list ds)) : ∃ a vs, v = .ref a ∧ SqL K H a vs ∧ DpAll K F vs ds := by
  cases x with
  | pd d0 =>
    cases e
    obtain ⟨a, vs, rfl, h1, h2⟩ := dp_lst hv
    exact ⟨a, vs, rfl, r.sub.seq h1, h2⟩
  | cell n =>
    obtain ⟨hn, rfl⟩ := hv
    dsimp only [look] at e
    split at e
    · rename_i xs h
      cases e
      obtain ⟨h1, vs, h2, h3⟩ := r.mu n _ h
      exact ⟨_, vs, rfl, .inl (.inl h2), h3⟩
    · rename_i xs h
      cases e
      obtain ⟨vs, h1, h2⟩ := r.fr n _ h
      exact ⟨_, vs, rfl, .inl (.inl (r.sub _ _ h1)), h2⟩
    · rename_i vs xs h
      cases e
      obtain ⟨_, h2, h3⟩ := r.at_ n _ h
      exact ⟨_, vs, rfl, .inl (.inl h2), h3⟩
    · cases e
  | ty n => cases e
  | ob o => cases e

/-! ### expressions -/
theorem we_var {i : Nat} {x : Val} (h : ss[i]? = some (some x)) (q : Φ x st) : WE K T (tVar i) ss st Φ := fun α F H σ r s Q k =>
  let ⟨v, e, hv⟩ := s.at_ i x h
  ⟨v, e, k α F H v x st Nx.refl r hv q⟩
def vd : V → Option PyData
  | .non => some .none
  | .bl b => some (.bool b)
  | .int i => some (.int i)
  | .str x => some (.str x)
  | _ => none
theorem vd_ok {F : Hp} : ∀ {v : V} {d : PyData}, vd v = some d → Dp K F v d
  | .non, _, e => by cases e; exact .non
  | .bl b, _, e => by cases e; exact .bl b
  | .int i, _, e => by cases e; exact .int i
  | .str x, _, e => by cases e; exact .str x
theorem we_c {v : V} {d : PyData} (h : vd v = some d) (q : Φ (.pd d) st) : WE K T (tC v) ss st Φ := fun α F H σ r s Q k => k α F H v (.pd d) st Nx.refl r (vd_ok h) q
theorem we_ty {n : String} (q : Φ (.ty n) st) : WE K T (tC (.ty n)) ss st Φ := fun α F H σ r s Q k => k α F H (.ty n) (.ty n) st Nx.refl r rfl q
/-- make it plain -/
theorem we_pur (h : WE K T te ss st fun x st1 => ∃ d st2, pur x st1 = some (d, st2) ∧ Φ (.pd d) st2) : WE K T te ss st Φ := fun α F H σ r s Q k =>
  h α F H σ r s Q fun α1 F1 H1 v x st1 n1 r1 v1 ⟨d, st2, e, q⟩ => by
    obtain ⟨F2, r2, n2, d2⟩ := pur_ok r1 v1 e
    exact k α1 F2 H1 v (.pd d) st2 (n1.trans n2) r2 d2 q
theorem we_mono {Ψ : Val → Sto → Prop} (h : WE K T te ss st Ψ) (q : ∀ x st', Ψ x st' → Φ x st') : WE K T te ss st Φ := fun α F H σ r s Q k => h α F H σ r s Q fun α1 F1 H1 v x st1 n1 r1 v1 p => k α1 F1 H1 v x st1 n1 r1 v1 (q x st1 p)
theorem we_op {r : R2} (h : WE K T ta ss st fun x st1 => WE K T tb ss st1 fun y st2 => WR K T r x y st2 Φ) : WE K T (tOp r ta tb) ss st Φ := fun α F H σ rl s Q k =>
  h α F H σ rl s _ fun α1 F1 H1 vx x st1 n1 r1 v1 h1 => h1 α1 F1 H1 σ r1 (s.mono n1) _ fun α2 F2 H2 vy y st2 n2 r2 v2 h2 => h2 α2 F2 H2 vx vy r2 (v1.mono n2) v2 Q fun α3 F3 H3 v z st3 n3 => k α3 F3 H3 v z st3 (n1.trans (n2.trans n3))
theorem we_un {r : V → Hp → VK → Prop} (h : WE K T ta ss st fun x st1 => WU K T r x st1 Φ) : WE K T (tUn r ta) ss st Φ := fun α F H σ rl s Q k =>
  h α F H σ rl s _ fun α1 F1 H1 vx x st1 n1 r1 v1 h1 => h1 α1 F1 H1 vx r1 v1 Q fun α3 F3 H3 v z st3 n3 => k α3 F3 H3 v z st3 (n1.trans n3)
theorem wr_I0 {g : Int → Int → V} {i j : Int} {d : PyData} (h : vd (g i j) = some d) (q : Φ (.pd d) st) : WR K T (rI0 g) (.pd (.int i)) (.pd (.int j)) st Φ := fun α F H vx vy r hx hy Q k => by
  obtain rfl := dp_int hx
  obtain rfl := dp_int hy
  exact ⟨i, j, rfl, rfl, k α F H _ (.pd d) st Nx.refl r (vd_ok h) q⟩
theorem wr_I {C : Int → Int → Prop} {g : Int → Int → V} {i j : Int} {d : PyData} (hc : C i j) (h : vd (g i j) = some d) (q : Φ (.pd d) st) : WR K T (rI C g) (.pd (.int i)) (.pd (.int j)) st Φ := fun α F H vx vy r hx hy Q k => by
  obtain rfl := dp_int hx
  obtain rfl := dp_int hy
  exact ⟨i, j, rfl, rfl, hc, k α F H _ (.pd d) st Nx.refl r (vd_ok h) q⟩
theorem wu_neg {i : Int} (q : Φ (.pd (.int (-i))) st) : WU K T (rU fun i => .int (-i)) (.pd (.int i)) st Φ := fun α F H vx r hx Q k => by
  obtain rfl := dp_int hx
  exact ⟨i, rfl, k α F H _ (.pd _) st Nx.refl r (Dp.int _) q⟩
theorem wr_eqI {i j : Int} (q : Φ (.pd (.bool (decide (i = j)))) st) : WR K T rEq (.pd (.int i)) (.pd (.int j)) st Φ := fun α F H vx vy r hx hy Q k => by
  obtain rfl := dp_int hx
  obtain rfl := dp_int hy
  refine ⟨rfl, k α F H _ (.pd _) st Nx.refl r ?_ q⟩
  have e : decide (V.int i = V.int j) = decide (i = j) := by simp
  rw [e]
  exact Dp.bl _
theorem wr_neI {i j : Int} (q : Φ (.pd (.bool (!decide (i = j)))) st) : WR K T rNe (.pd (.int i)) (.pd (.int j)) st Φ := fun α F H vx vy r hx hy Q k => by
  obtain rfl := dp_int hx
  obtain rfl := dp_int hy
  refine ⟨rfl, k α F H _ (.pd _) st Nx.refl r ?_ q⟩
  have e : decide (V.int i = V.int j) = decide (i = j) := by simp
  rw [e]
  exact Dp.bl _
theorem wr_eqS {i j : Str} (q : Φ (.pd (.bool (decide (i = j)))) st) : WR K T rEq (.pd (.str i)) (.pd (.str j)) st Φ := fun α F H vx vy r hx hy Q k => by
  obtain rfl := dp_str hx
  obtain rfl := dp_str hy
  refine ⟨rfl, k α F H _ (.pd _) st Nx.refl r ?_ q⟩
  have e : decide (V.str i = V.str j) = decide (i = j) := by simp
  rw [e]
  exact Dp.bl _
theorem wr_neS {i j : Str} (q : Φ (.pd (.bool (!decide (i = j)))) st) : WR K T rNe (.pd (.str i)) (.pd (.str j)) st Φ := fun α F H vx vy r hx hy Q k => by
  obtain rfl := dp_str hx
  obtain rfl := dp_str hy
  refine ⟨rfl, k α F H _ (.pd _) st Nx.refl r ?_ q⟩
  have e : decide (V.str i = V.str j) = decide (i = j) := by simp
  rw [e]
  exact Dp.bl _
/-- an optional last line equal to a number -/
theorem wr_eqN {j : Int} (q : Φ (.pd (.bool false)) st) : WR K T rEq (.pd .none) (.pd (.int j)) st Φ := fun α F H vx vy r hx hy Q k => by
  obtain rfl := dp_non hx
  obtain rfl := dp_int hy
  exact ⟨rfl, k α F H _ (.pd _) st Nx.refl r (Dp.bl _) q⟩
theorem wr_eqD {x y : Val} {d e : PyData} (h1 : look x st = some d) (h2 : look y st = some e) (s1 : SeqAt.shaped d = true) (s2 : SeqAt.shaped e = true) (q : Φ (.pd (.bool (PyData.eqv d e))) st) : WR K T (rEqD K) x y st Φ := fun α F H vx vy r hx hy Q k =>
  ⟨d, e, look_ok r hx h1, look_ok r hy h2, s1, s2, k α F H _ (.pd _) st Nx.refl r (Dp.bl _) q⟩
theorem wr_neD {x y : Val} {d e : PyData} (h1 : look x st = some d) (h2 : look y st = some e) (s1 : SeqAt.shaped d = true) (s2 : SeqAt.shaped e = true) (q : Φ (.pd (.bool (!PyData.eqv d e))) st) : WR K T (rNeD K) x y st Φ := fun α F H vx vy r hx hy Q k =>
  ⟨d, e, look_ok r hx h1, look_ok r hy h2, s1, s2, k α F H _ (.pd _) st Nx.refl r (Dp.bl _) q⟩
def isNone : PyData → Bool
  | .none => true
  | _ => false
theorem dp_isNone {F : Hp} {v : V} {d : PyData} (h : Dp K F v d) : decide (v = .non) = isNone d := by
  cases h <;> rfl
theorem wr_isN {d : PyData} (q : Φ (.pd (.bool (isNone d))) st) : WR K T (fun x y H Q => y = .non ∧ Q (.bl (decide (x = .non))) H) (.pd d) (.pd .none) st Φ := fun α F H vx vy r hx hy Q k => by
  obtain rfl := dp_non hy
  refine ⟨rfl, k α F H _ (.pd _) st Nx.refl r ?_ q⟩
  rw [dp_isNone hx]
  exact Dp.bl _
theorem wr_notN {d : PyData} (q : Φ (.pd (.bool (!isNone d))) st) : WR K T (fun x y H Q => y = .non ∧ Q (.bl (!decide (x = .non))) H) (.pd d) (.pd .none) st Φ := fun α F H vx vy r hx hy Q k => by
  obtain rfl := dp_non hy
  refine ⟨rfl, k α F H _ (.pd _) st Nx.refl r ?_ q⟩
  rw [dp_isNone hx]
  exact Dp.bl _
theorem atI_dps {F : Hp} {vs : List V} {ds : List PyData} {i : Int} {d : PyData} (t : DpAll K F vs ds) (e : atI ds i = some d) : ∃ v, atI vs i = some v ∧ Dp K F v d := by
  unfold atI at e ⊢
  rw [dps_len t]
  rw [Option.bind_eq_some_iff] at e
  obtain ⟨j, e1, e2⟩ := e
  obtain ⟨v, h1, h2⟩ := dps_get t e2
  exact ⟨v, by rw [e1]; exact h1, h2⟩
theorem wr_ixL {x : Val} {ds : List PyData} {i : Int} {d : PyData} (h : look x st = some (.list ds)) (e : atI ds i = some d) (q : Φ (.pd d) st) : WR K T (rIxL K) x (.pd (.int i)) st Φ := fun α F H vx vy r hx hy Q k => by
  obtain rfl := dp_int hy
  obtain ⟨a, vs, rfl, h1, h2⟩ := look_lst r hx h
  obtain ⟨v, e1, dv⟩ := atI_dps h2 e
  exact ⟨a, vs, i, v, rfl, rfl, h1, e1, k α F H _ (.pd _) st Nx.refl r dv q⟩
theorem wr_ixT {ds : List PyData} {i : Int} {d : PyData} (e : atI ds i = some d) (q : Φ (.pd d) st) : WR K T (rIxT K) (.pd (.tuple ds)) (.pd (.int i)) st Φ := fun α F H vx vy r hx hy Q k => by
  obtain rfl := dp_int hy
  obtain ⟨a, vs, rfl, h1, h2⟩ := dp_tup hx
  obtain ⟨v, e1, dv⟩ := atI_dps h2 e
  exact ⟨a, vs, i, v, rfl, rfl, seqT r.sub h1, e1, k α F H _ (.pd _) st Nx.refl r dv q⟩
theorem we_chain {r r' : R2} (h : WE K T ta ss st fun x st1 => WE K T tb ss st1 fun y st2 => WR K T r x y st2 fun z st3 => ∃ k, z = .pd (.bool k) ∧ (k = true → WE K T tc ss st3 fun w st4 => WR K T r' y w st4 Φ) ∧ (k = false → Φ (.pd (.bool false)) st3)) :
    WE K T (tChain r r' ta tb tc) ss st Φ := fun α F H σ rl s Q k =>
  h α F H σ rl s _ fun α1 F1 H1 vx x st1 n1 r1 v1 h1 => h1 α1 F1 H1 σ r1 (s.mono n1) _ fun α2 F2 H2 vy y st2 n2 r2 v2 h2 => h2 α2 F2 H2 vx vy r2 (v1.mono n2) v2 _ fun α3 F3 H3 v z st3 n3 r3 v3 ⟨b, e, ht, hf⟩ => by
    subst e
    obtain rfl := dp_bl v3
    refine ⟨b, rfl, ?_⟩
    cases b with
    | true =>
      rw [if_pos rfl]
      exact ht rfl α3 F3 H3 σ r3 (s.mono (n1.trans (n2.trans n3))) _ fun α4 F4 H4 vw w st4 n4 r4 v4 h4 => h4 α4 F4 H4 vy vw r4 (v2.mono (n3.trans n4)) v4 Q fun α5 F5 H5 v5 z5 st5 n5 => k α5 F5 H5 v5 z5 st5 (n1.trans (n2.trans (n3.trans (n4.trans n5))))
    | false =>
      rw [if_neg Bool.false_ne_true]
      exact k α3 F3 H3 _ (.pd _) st3 (n1.trans (n2.trans n3)) r3 (Dp.bl _) (hf rfl)
theorem we_andV (h : WE K T ta ss st fun x st1 => ∃ c, x = .pd (.bool c) ∧ (c = true → WE K T tb ss st1 Φ) ∧ (c = false → Φ (.pd (.bool false)) st1)) : WE K T (tAndV ta tb) ss st Φ := fun α F H σ rl s Q k =>
  h α F H σ rl s _ fun α1 F1 H1 vx x st1 n1 r1 v1 ⟨c, e, ht, hf⟩ => by
    subst e
    obtain rfl := dp_bl v1
    refine ⟨c, rfl, ?_⟩
    cases c with
    | true =>
      rw [if_pos rfl]
      exact ht rfl α1 F1 H1 σ r1 (s.mono n1) Q fun α2 F2 H2 v z st2 n2 => k α2 F2 H2 v z st2 (n1.trans n2)
    | false =>
      rw [if_neg Bool.false_ne_true]
      exact k α1 F1 H1 _ (.pd _) st1 n1 r1 (Dp.bl _) (hf rfl)
theorem we_orV (h : WE K T ta ss st fun x st1 => ∃ c, x = .pd (.bool c) ∧ (c = true → Φ (.pd (.bool true)) st1) ∧ (c = false → WE K T tb ss st1 Φ)) : WE K T (tOrV ta tb) ss st Φ := fun α F H σ rl s Q k =>
  h α F H σ rl s _ fun α1 F1 H1 vx x st1 n1 r1 v1 ⟨c, e, ht, hf⟩ => by
    subst e
    obtain rfl := dp_bl v1
    refine ⟨c, rfl, ?_⟩
    cases c with
    | true =>
      rw [if_pos rfl]
      exact k α1 F1 H1 _ (.pd _) st1 n1 r1 (Dp.bl _) (ht rfl)
    | false =>
      rw [if_neg Bool.false_ne_true]
      exact hf rfl α1 F1 H1 σ r1 (s.mono n1) Q fun α2 F2 H2 v z st2 n2 => k α2 F2 H2 v z st2 (n1.trans n2)
theorem we_notV (h : WE K T ta ss st fun x st1 => ∃ c, x = .pd (.bool c) ∧ Φ (.pd (.bool (!c))) st1) : WE K T (tNotV ta) ss st Φ := fun α F H σ rl s Q k =>
  h α F H σ rl s _ fun α1 F1 H1 vx x st1 n1 r1 v1 ⟨c, e, hc⟩ => by
    subst e
    obtain rfl := dp_bl v1
    exact ⟨c, rfl, k α1 F1 H1 _ (.pd _) st1 n1 r1 (Dp.bl _) hc⟩
theorem we_if (h : WT K T tt ss st fun b st1 => (b = true → WE K T ta ss st1 Φ) ∧ (b = false → WE K T tb ss st1 Φ)) : WE K T (tIf tt ta tb) ss st Φ := fun α F H σ rl s Q k =>
  h α F H σ rl s _ fun α1 F1 H1 b st1 n1 r1 ⟨ht, hf⟩ => by
    cases b with
    | true =>
      rw [if_pos rfl]
      exact ht rfl α1 F1 H1 σ r1 (s.mono n1) Q fun α2 F2 H2 v z st2 n2 => k α2 F2 H2 v z st2 (n1.trans n2)
    | false =>
      rw [if_neg Bool.false_ne_true]
      exact hf rfl α1 F1 H1 σ r1 (s.mono n1) Q fun α2 F2 H2 v z st2 n2 => k α2 F2 H2 v z st2 (n1.trans n2)
theorem wa_nil {Ψ : List Val → Sto → Prop} (q : Ψ [] st) : WA K T tNil ss st Ψ := fun α F H σ r s Q k => k α F H [] [] st Nx.refl r .nil q
theorem wa_cons {Ψ : List Val → Sto → Prop} {tr : TA} (h : WE K T ta ss st fun x st1 => WA K T tr ss st1 fun xs st2 => Ψ (x :: xs) st2) : WA K T (tCons ta tr) ss st Ψ := fun α F H σ r s Q k =>
  h α F H σ r s _ fun α1 F1 H1 v x st1 n1 r1 v1 h1 => h1 α1 F1 H1 σ r1 (s.mono n1) _ fun α2 F2 H2 vs xs st2 n2 r2 v2 h2 => k α2 F2 H2 (v :: vs) (x :: xs) st2 (n1.trans n2) r2 (.cons (v1.mono n2) v2) h2
theorem we_tup {t : TA} (h : WA K T t ss st fun xs st1 => ∃ ds st2, purs xs st1 = some (ds, st2) ∧ ds.length ≤ sizeLine ∧ Φ (.pd (.tuple ds)) st2) : WE K T (tTup t) ss st Φ := fun α F H σ r s Q k =>
  h α F H σ r s _ fun α1 F1 H1 vs xs st1 n1 r1 v1 ⟨ds, st2, e, hl, q⟩ => by
    obtain ⟨F2, r2, n2, d2⟩ := purs_ok r1 v1 e
    refine ⟨by rw [dps_len d2]; exact hl, fun p hp => ?_⟩
    have hF := none_of r2 hp
    exact k α1 (upd F2 p (.tup vs)) _ (.ref p) (.pd (.tuple ds)) st2 (n1.trans (n2.trans (Nx.new hF))) (r2.new hp fun ps z => by cases z) (.tup (.inl (.inl upd_same)) (dpsm (same_upd hF) d2)) q
/-- a list display that will not be written -/
theorem we_lst {t : TA} (h : WA K T t ss st fun xs st1 => ∃ ds st2, purs xs st1 = some (ds, st2) ∧ ds.length ≤ sizeLine ∧ Φ (.pd (.list ds)) st2) : WE K T (tLst t) ss st Φ := fun α F H σ r s Q k =>
  h α F H σ r s _ fun α1 F1 H1 vs xs st1 n1 r1 v1 ⟨ds, st2, e, hl, q⟩ => by
    obtain ⟨F2, r2, n2, d2⟩ := purs_ok r1 v1 e
    refine ⟨by rw [dps_len d2]; exact hl, fun p hp => ?_⟩
    have hF := none_of r2 hp
    exact k α1 (upd F2 p (.lst vs)) _ (.ref p) (.pd (.list ds)) st2 (n1.trans (n2.trans (Nx.new hF))) (r2.new hp fun ps z => by cases z) (.lst (.inl (.inl upd_same)) (dpsm (same_upd hF) d2)) q
/-- one that will be written -/
theorem we_lstC {t : TA} (h : WA K T t ss st fun xs st1 => ∃ ds st2, purs xs st1 = some (ds, st2) ∧ ds.length ≤ sizeLine ∧ Φ (.cell st2.length) (st2 ++ [.mu ds])) : WE K T (tLst t) ss st Φ := fun α F H σ r s Q k =>
  h α F H σ r s _ fun α1 F1 H1 vs xs st1 n1 r1 v1 ⟨ds, st2, e, hl, q⟩ => by
    obtain ⟨F2, r2, n2, d2⟩ := purs_ok r1 v1 e
    refine ⟨by rw [dps_len d2]; exact hl, fun p hp => ?_⟩
    have hlen : (st2 ++ [Cell.mu ds]).length = st2.length + 1 := by simp
    refine k (ext α1 st2.length p) F2 _ (.ref p) (.cell st2.length) (st2 ++ [.mu ds]) (by rw [hlen]; exact n1.trans (n2.trans Nx.ext)) (r2.cell hp d2) ?_ q
    exact ⟨by rw [hlen]; exact Nat.lt_succ_self _, by rw [ext_same]⟩
def cutD (xs : List PyData) (lo hi : Option Int) : List PyData := (xs.drop (HT.sIx xs.length 0 lo)).take (HT.sIx xs.length xs.length hi - HT.sIx xs.length 0 lo)
theorem dps_cut {F : Hp} {vs : List V} {ds : List PyData} (t : DpAll K F vs ds) (lo hi : Option Int) : DpAll K F (cutV vs lo hi) (cutD ds lo hi) := by
  unfold cutV cutD
  rw [dps_len t]
  exact dps_take _ (dps_drop _ t)
theorem wo_none {Ψ : Option Int → Sto → Prop} (q : Ψ none st) : WO K T tNoPart ss st Ψ := fun α F H σ r s Q k => k α F H none st Nx.refl r q
theorem wo_part {Ψ : Option Int → Sto → Prop} (h : WE K T te ss st fun x st1 => ∃ i, x = .pd (.int i) ∧ Ψ (some i) st1) : WO K T (tPart te) ss st Ψ := fun α F H σ r s Q k =>
  h α F H σ r s _ fun α1 F1 H1 v x st1 n1 r1 v1 ⟨i, e, q⟩ => by
    subst e
    obtain rfl := dp_int v1
    exact ⟨i, rfl, k α1 F1 H1 (some i) st1 n1 r1 q⟩
theorem we_slL {tl th : TO} (h : WE K T te ss st fun x st1 => WO K T tl ss st1 fun lo st2 => WO K T th ss st2 fun hi st3 => ∃ ds, look x st3 = some (.list ds) ∧ Φ (.pd (.list (cutD ds lo hi))) st3) : WE K T (tSl (rSlL K) te tl th) ss st Φ := fun α F H σ r s Q k =>
  h α F H σ r s _ fun α1 F1 H1 v x st1 n1 r1 v1 h1 => h1 α1 F1 H1 σ r1 (s.mono n1) _ fun α2 F2 H2 lo st2 n2 r2 h2 => h2 α2 F2 H2 σ r2 (s.mono (n1.trans n2)) _ fun α3 F3 H3 hi st3 n3 r3 ⟨ds, e, q⟩ => by
    obtain ⟨a, vs, rfl, h4, h5⟩ := look_lst r3 (v1.mono (n2.trans n3)) e
    refine ⟨a, vs, rfl, h4, fun p hp => ?_⟩
    have hF := none_of r3 hp
    exact k α3 (upd F3 p (.lst (cutV vs lo hi))) _ (.ref p) (.pd _) st3 (n1.trans (n2.trans (n3.trans (Nx.new hF)))) (r3.new hp fun ps z => by cases z) (Dp.lst (.inl (.inl upd_same)) (dpsm (same_upd hF) (dps_cut h5 lo hi))) q
/-- list + list -/
theorem wr_cat {n m : Nat} {xs ys : List PyData} (hn : st[n]? = some (.mu xs)) (hm : st[m]? = some (.mu ys)) (hl : xs.length + ys.length ≤ sizeLine) (q : Φ (.pd (.list (xs ++ ys))) st) : WR K T rCat (.cell n) (.cell m) st Φ := fun α F H vx vy r hx hy Q k => by
  obtain ⟨_, rfl⟩ := hx
  obtain ⟨_, rfl⟩ := hy
  obtain ⟨_, vs, e1, d1⟩ := r.mu n xs hn
  obtain ⟨_, ws, e2, d2⟩ := r.mu m ys hm
  refine ⟨_, _, vs, ws, rfl, rfl, e1, e2, by rw [dps_len d1, dps_len d2]; exact hl, fun p hp => ?_⟩
  have hF := none_of r hp
  exact k α (upd F p (.lst (vs ++ ws))) _ (.ref p) (.pd _) st (Nx.new hF) (r.new hp fun ps z => by cases z) (Dp.lst (.inl (.inl upd_same)) (dpsm (same_upd hF) (dps_app d1 d2))) q
/-- .. of any two lists that the heap tracks: given as tracked -/
def Trk (x : Val) (st : Sto) (xs : List PyData) : Prop := ∃ n, x = .cell n ∧ (st[n]? = some (.mu xs) ∨ st[n]? = some (.fr xs))
theorem trk_ok {α : Nat → Addr} {F H : Hp} {x : Val} {v : V} {xs : List PyData} (r : Rel K T α F H st) (hv : VR K α F st.length x v) (t : Trk x st xs) : ∃ a vs, v = .ref a ∧ H a = some (.lst vs) ∧ DpAll K F vs xs := by
  obtain ⟨n, rfl, t⟩ := t
  obtain ⟨_, rfl⟩ := hv
  rcases t with t | t
  · obtain ⟨_, vs, e1, d1⟩ := r.mu n xs t
    exact ⟨_, vs, rfl, e1, d1⟩
  · obtain ⟨vs, e1, d1⟩ := r.fr n xs t
    exact ⟨_, vs, rfl, r.sub _ _ e1, d1⟩
theorem wr_catT {x y : Val} {xs ys : List PyData} (hn : Trk x st xs) (hm : Trk y st ys) (hl : xs.length + ys.length ≤ sizeLine) (q : Φ (.pd (.list (xs ++ ys))) st) : WR K T rCat x y st Φ := fun α F H vx vy r hx hy Q k => by
  obtain ⟨a, vs, rfl, e1, d1⟩ := trk_ok r hx hn
  obtain ⟨b, ws, rfl, e2, d2⟩ := trk_ok r hy hm
  refine ⟨_, _, vs, ws, rfl, rfl, e1, e2, by rw [dps_len d1, dps_len d2]; exact hl, fun p hp => ?_⟩
  have hF := none_of r hp
  exact k α (upd F p (.lst (vs ++ ws))) _ (.ref p) (.pd _) st (Nx.new hF) (r.new hp fun ps z => by cases z) (Dp.lst (.inl (.inl upd_same)) (dpsm (same_upd hF) (dps_app d1 d2))) q

/-! ### tests -/
variable {Ψ : Bool → Sto → Prop}
theorem wt_test (h : WE K T te ss st fun x st1 => ∃ b, x = .pd (.bool b) ∧ Ψ b st1) : WT K T (tTest te) ss st Ψ := fun α F H σ r s Q k =>
  h α F H σ r s _ fun α1 F1 H1 v x st1 n1 r1 v1 ⟨b, e, q⟩ => by
    subst e
    obtain rfl := dp_bl v1
    exact ⟨b, rfl, k α1 F1 H1 b st1 n1 r1 q⟩
theorem wt_B (h : WE K T te ss st fun x st1 => ∃ b, x = .pd (.bool b) ∧ Ψ b st1) : WT K T (tB te) ss st Ψ := fun α F H σ r s Q k =>
  h α F H σ r s _ fun α1 F1 H1 v x st1 n1 r1 v1 ⟨b, e, q⟩ => by
    subst e
    obtain rfl := dp_bl v1
    exact ⟨b, rfl, k α1 F1 H1 b st1 n1 r1 q⟩
theorem wt_and (h : WT K T tt ss st fun b st1 => (b = true → WT K T tu ss st1 Ψ) ∧ (b = false → Ψ false st1)) : WT K T (tAnd tt tu) ss st Ψ := fun α F H σ r s Q k =>
  h α F H σ r s _ fun α1 F1 H1 b st1 n1 r1 ⟨ht, hf⟩ => by
    cases b with
    | true =>
      rw [if_pos rfl]
      exact ht rfl α1 F1 H1 σ r1 (s.mono n1) Q fun α2 F2 H2 c st2 n2 => k α2 F2 H2 c st2 (n1.trans n2)
    | false =>
      rw [if_neg Bool.false_ne_true]
      exact k α1 F1 H1 false st1 n1 r1 (hf rfl)
theorem wt_or (h : WT K T tt ss st fun b st1 => (b = true → Ψ true st1) ∧ (b = false → WT K T tu ss st1 Ψ)) : WT K T (tOr tt tu) ss st Ψ := fun α F H σ r s Q k =>
  h α F H σ r s _ fun α1 F1 H1 b st1 n1 r1 ⟨ht, hf⟩ => by
    cases b with
    | true =>
      rw [if_pos rfl]
      exact k α1 F1 H1 true st1 n1 r1 (ht rfl)
    | false =>
      rw [if_neg Bool.false_ne_true]
      exact hf rfl α1 F1 H1 σ r1 (s.mono n1) Q fun α2 F2 H2 c st2 n2 => k α2 F2 H2 c st2 (n1.trans n2)
theorem wt_not (h : WT K T tt ss st fun b st1 => Ψ (!b) st1) : WT K T (tNot tt) ss st Ψ := fun α F H σ r s Q k =>
  h α F H σ r s _ fun α1 F1 H1 b st1 n1 r1 q => k α1 F1 H1 (!b) st1 n1 r1 q
theorem wt_yes (q : Ψ true st) : WT K T tYes ss st Ψ := fun α F H σ r s Q k => k α F H true st Nx.refl r q

/-! ### targets -/
variable {X : SS → Sto → Prop}
theorem wg_name {i : Nat} {x : Val} (q : X (ss.set i (some x)) st) : WG K T (gName i) x ss st X := fun α F H σ v r s hv Q k => k α F H (σ.set i (some v)) (ss.set i (some x)) st Nx.refl r (s.set i hv) q
theorem wgs_nil (q : X ss st) : WGs K T gNil [] ss st X := fun α F H σ vs r s hv Q k => by
  cases hv
  exact ⟨rfl, k α F H σ ss st Nx.refl r s q⟩
theorem wgs_cons {g : TG} {gs : TGs} {x : Val} {xs : List Val} (h : WG K T g x ss st fun ss1 st1 => WGs K T gs xs ss1 st1 X) : WGs K T (gCons g gs) (x :: xs) ss st X := fun α F H σ vs r s hv Q k => by
  cases hv with
  | cons h1 h2 =>
    exact ⟨_, _, rfl, h α F H σ _ r s h1 _ fun α1 F1 H1 σ1 ss1 st1 n1 r1 s1 q1 => q1 α1 F1 H1 σ1 _ r1 s1 (h2.mono n1) Q fun α2 F2 H2 σ2 ss2 st2 n2 => k α2 F2 H2 σ2 ss2 st2 (n1.trans n2)⟩
theorem vrs_of {α : Nat → Addr} {F : Hp} {L : Nat} : ∀ {vs : List V} {ds : List PyData}, DpAll K F vs ds → VRs K α F L (ds.map Val.pd) vs
  | _, _, .nil => .nil
  | _, _, .cons h t => .cons h (vrs_of t)
theorem wg_tup {n : Nat} {gs : TGs} {ds : List PyData} (hn : ds.length = n) (h : WGs K T gs (ds.map Val.pd) ss st X) : WG K T (gTup K n gs) (.pd (.tuple ds)) ss st X := fun α F H σ v r s hv Q k => by
  obtain ⟨a, vs, rfl, h1, h2⟩ := dp_tup hv
  exact ⟨a, vs, rfl, seqT r.sub h1, (dps_len h2).trans hn, h α F H σ vs r s (vrs_of h2) Q k⟩
theorem wg_unl {n : Nat} {gs : TGs} {ds : List PyData} (hn : ds.length = n) (h : WGs K T gs (ds.map Val.pd) ss st X) : WG K T (gUnl K n gs) (.pd (.list ds)) ss st X := fun α F H σ v r s hv Q k => by
  obtain ⟨a, vs, rfl, h1, h2⟩ := dp_lst hv
  exact ⟨a, vs, rfl, r.sub.seq h1, (dps_len h2).trans hn, h α F H σ vs r s (vrs_of h2) Q k⟩
theorem wg_sub {to ti : TE} {t : TSet} {x : Val} (h : WE K T to ss st fun o st1 => WE K T ti ss st1 fun i st2 => WX K T t o i x st2 fun st3 => X ss st3) : WG K T (gSub to ti t) x ss st X := fun α F H σ v r s hv Q k =>
  h α F H σ r s _ fun α1 F1 H1 vo o st1 n1 r1 v1 h1 => h1 α1 F1 H1 σ r1 (s.mono n1) _ fun α2 F2 H2 vi i st2 n2 r2 v2 h2 => h2 α2 F2 H2 vo vi v r2 (v1.mono n2) v2 (hv.mono (n1.trans n2)) _ fun α3 F3 H3 st3 n3 r3 q => k α3 F3 H3 σ ss st3 (n1.trans (n2.trans n3)) r3 (s.mono (n1.trans (n2.trans n3))) q
theorem ixN_len {n : Nat} {k : Int} {j : Nat} (h : ixN n k = some j) : j < n := by
  unfold ixN at h
  split at h
  · split at h
    · cases h
      omega
    · cases h
  · split at h
    · cases h
      omega
    · cases h
theorem wx_list {n : Nat} {xs : List PyData} {i : Int} {j : Nat} {d : PyData} {Y : Sto → Prop} (h : st[n]? = some (.mu xs)) (hj : ixN xs.length i = some j) (q : Y (st.set n (.mu (xs.set j d)))) : WX K T rSetL (.cell n) (.pd (.int i)) (.pd d) st Y := fun α F H vo vi vx r ho hi hx Q k => by
  obtain ⟨_, rfl⟩ := ho
  obtain rfl := dp_int hi
  obtain ⟨_, vs, e1, d1⟩ := r.mu n xs h
  exact ⟨_, vs, i, j, rfl, rfl, e1, by rw [dps_len d1]; exact hj, k α F _ _ (by rw [List.length_set]; exact Nx.refl) (r.write h (dps_set j d1 hx)) q⟩

/-! ### calls -/
theorem we_cb {r : List V → Hp → VK → Prop} {t : TA} (h : WA K T t ss st fun xs st1 => WC K T r xs st1 Φ) : WE K T (tCB r t) ss st Φ := fun α F H σ rl s Q k =>
  h α F H σ rl s _ fun α1 F1 H1 vs xs st1 n1 r1 v1 h1 => h1 α1 F1 H1 vs r1 v1 Q fun α2 F2 H2 v z st2 n2 => k α2 F2 H2 v z st2 (n1.trans n2)
theorem vrs1 {α : Nat → Addr} {F : Hp} {L : Nat} {x : Val} {vs : List V} (h : VRs K α F L [x] vs) : ∃ v, vs = [v] ∧ VR K α F L x v := by
  cases h with
  | cons h t =>
    cases t
    exact ⟨_, rfl, h⟩
theorem vrs2 {α : Nat → Addr} {F : Hp} {L : Nat} {x y : Val} {vs : List V} (h : VRs K α F L [x, y] vs) : ∃ v w, vs = [v, w] ∧ VR K α F L x v ∧ VR K α F L y w := by
  cases h with
  | cons h t =>
    obtain ⟨w, rfl, h2⟩ := vrs1 t
    exact ⟨_, w, rfl, h, h2⟩
theorem wc_abs {i : Int} (q : Φ (.pd (.int (if i < 0 then -i else i))) st) : WC K T (fun xs H Q => ∃ i, xs = [.int i] ∧ Q (.int (if i < 0 then -i else i)) H) [.pd (.int i)] st Φ := fun α F H vs r hv Q k => by
  obtain ⟨v, rfl, h⟩ := vrs1 hv
  obtain rfl := dp_int h
  exact ⟨i, rfl, k α F H _ (.pd _) st Nx.refl r (Dp.int _) q⟩
theorem wc_int {i : Int} (q : Φ (.pd (.int i)) st) : WC K T (fun xs H Q => (∃ i, xs = [.int i] ∧ Q (.int i) H) ∨ ∃ k, xs = [.bl k] ∧ Q (.int (if k then 1 else 0)) H) [.pd (.int i)] st Φ := fun α F H vs r hv Q k => by
  obtain ⟨v, rfl, h⟩ := vrs1 hv
  obtain rfl := dp_int h
  exact .inl ⟨i, rfl, k α F H _ (.pd _) st Nx.refl r (Dp.int _) q⟩
theorem wc_max2 {i j : Int} (q : Φ (.pd (.int (if j > i then j else i))) st) : WC K T (fun xs H Q => ∃ i j, xs = [.int i, .int j] ∧ Q (.int (if j > i then j else i)) H) [.pd (.int i), .pd (.int j)] st Φ := fun α F H vs r hv Q k => by
  obtain ⟨v, w, rfl, h1, h2⟩ := vrs2 hv
  obtain rfl := dp_int h1
  obtain rfl := dp_int h2
  exact ⟨i, j, rfl, k α F H _ (.pd _) st Nx.refl r (Dp.int _) q⟩
theorem wc_min2 {i j : Int} (q : Φ (.pd (.int (if j < i then j else i))) st) : WC K T (fun xs H Q => ∃ i j, xs = [.int i, .int j] ∧ Q (.int (if j < i then j else i)) H) [.pd (.int i), .pd (.int j)] st Φ := fun α F H vs r hv Q k => by
  obtain ⟨v, w, rfl, h1, h2⟩ := vrs2 hv
  obtain rfl := dp_int h1
  obtain rfl := dp_int h2
  exact ⟨i, j, rfl, k α F H _ (.pd _) st Nx.refl r (Dp.int _) q⟩
theorem wc_len {x : Val} {ds : List PyData} (h : look x st = some (.list ds)) (q : Φ (.pd (.int (ds.length : Int))) st) : WC K T (fun xs H Q => ∃ p ys, xs = [.ref p] ∧ (SqL K H p ys ∨ SqT K H p ys) ∧ Q (.int ys.length) H) [x] st Φ := fun α F H vs r hv Q k => by
  obtain ⟨v, rfl, h1⟩ := vrs1 hv
  obtain ⟨a, ys, rfl, h2, h3⟩ := look_lst r h1 h
  refine ⟨a, ys, rfl, .inl h2, ?_⟩
  rw [dps_len h3]
  exact k α F H _ (.pd _) st Nx.refl r (Dp.int _) q
/-- list(x), to be written or added -/
theorem wc_listC {x : Val} {ds : List PyData} (h : look x st = some (.list ds)) (q : Φ (.cell st.length) (st ++ [.mu ds])) : WC K T (fun xs H Q => ∃ p ys, xs = [.ref p] ∧ (SqL K H p ys ∨ SqT K H p ys) ∧ ∀ l, H l = none → Q (.ref l) (upd H l (.lst ys))) [x] st Φ := fun α F H vs r hv Q k => by
  obtain ⟨v, rfl, h1⟩ := vrs1 hv
  obtain ⟨a, ys, rfl, h2, h3⟩ := look_lst r h1 h
  refine ⟨a, ys, rfl, .inl h2, fun p hp => ?_⟩
  have hlen : (st ++ [Cell.mu ds]).length = st.length + 1 := by simp
  refine k (ext α st.length p) F _ (.ref p) (.cell st.length) (st ++ [.mu ds]) (by rw [hlen]; exact Nx.ext) (r.cell hp h3) ?_ q
  exact ⟨by rw [hlen]; exact Nat.lt_succ_self _, by rw [ext_same]⟩
theorem wc_sum {x : Val} {ns : List Int} (h : look x st = some (.list (ns.map PyData.int))) (q : Φ (.pd (.int ns.sum)) st) : WC K T (rSum K) [x] st Φ := fun α F H vs r hv Q k => by
  obtain ⟨v, rfl, h1⟩ := vrs1 hv
  obtain ⟨a, ys, rfl, h2, h3⟩ := look_lst r h1 h
  obtain rfl := dps_ints h3
  exact ⟨a, ns, rfl, h2, k α F H _ (.pd _) st Nx.refl r (Dp.int _) q⟩
theorem wc_min {x : Val} {ns : List Int} (h : look x st = some (.list (ns.map PyData.int))) (h0 : 0 < ns.length) (q : ∀ m, m ∈ ns → (∀ y, y ∈ ns → m ≤ y) → Φ (.pd (.int m)) st) : WC K T (rMin K) [x] st Φ := fun α F H vs r hv Q k => by
  obtain ⟨v, rfl, h1⟩ := vrs1 hv
  obtain ⟨a, ys, rfl, h2, h3⟩ := look_lst r h1 h
  obtain rfl := dps_ints h3
  exact ⟨a, ns, rfl, h2, h0, fun m hm hle => k α F H _ (.pd _) st Nx.refl r (Dp.int _) (q m hm hle)⟩

/-! ### statements -/
theorem ws_next (q : P.nx ss st) : WS K T tNext ss st P := fun α F H σ r s D o => o.nx α F H σ ss st Nx.refl r s q
theorem ws_seq {t u : TS} (h : WS K T t ss st { P with nx := fun ss1 st1 => WS K T u ss1 st1 P }) : WS K T (tSeq t u) ss st P := fun α F H σ r s D o =>
  h α F H σ r s { D with nx := u D } ⟨fun α1 F1 H1 σ1 ss1 st1 n1 r1 s1 q1 => q1 α1 F1 H1 σ1 r1 s1 D (o.mono n1), o.rt, o.bk, o.ct⟩
theorem ws_brk (q : P.bk ss st) : WS K T tBreak ss st P := fun α F H σ r s D o => o.bk α F H σ ss st Nx.refl r s q
theorem ws_cont (q : P.ct ss st) : WS K T tCont ss st P := fun α F H σ r s D o => o.ct α F H σ ss st Nx.refl r s q
theorem ws_ret (h : WE K T te ss st P.rt) : WS K T (tRet te) ss st P := fun α F H σ r s D o => h α F H σ r s _ fun α1 F1 H1 v x st1 n1 r1 v1 q => o.rt α1 F1 H1 v x st1 n1 r1 v1 q
theorem ws_retN (q : P.rt (.pd .none) st) : WS K T tRetN ss st P := fun α F H σ r s D o => o.rt α F H .non (.pd _) st Nx.refl r Dp.non q
theorem ws_asg {g : TG} (h : WE K T te ss st fun x st1 => WG K T g x ss st1 P.nx) : WS K T (tAsg te g) ss st P := fun α F H σ r s D o =>
  h α F H σ r s _ fun α1 F1 H1 v x st1 n1 r1 v1 q => q α1 F1 H1 σ v r1 (s.mono n1) v1 _ fun α2 F2 H2 σ2 ss2 st2 n2 => o.nx α2 F2 H2 σ2 ss2 st2 (n1.trans n2)
theorem ws_drop (h : WE K T te ss st fun _ st1 => P.nx ss st1) : WS K T (tDrop te) ss st P := fun α F H σ r s D o =>
  h α F H σ r s _ fun α1 F1 H1 v x st1 n1 r1 v1 q => o.nx α1 F1 H1 σ ss st1 n1 r1 (s.mono n1) q
theorem ws_if {t u : TS} (h : WT K T tt ss st fun b st1 => (b = true → WS K T t ss st1 P) ∧ (b = false → WS K T u ss st1 P)) : WS K T (tIfS tt t u) ss st P := fun α F H σ r s D o =>
  h α F H σ r s _ fun α1 F1 H1 b st1 n1 r1 ⟨ht, hf⟩ => by
    cases b with
    | true =>
      rw [if_pos rfl]
      exact ht rfl α1 F1 H1 σ r1 (s.mono n1) D (o.mono n1)
    | false =>
      rw [if_neg Bool.false_ne_true]
      exact hf rfl α1 F1 H1 σ r1 (s.mono n1) D (o.mono n1)
theorem ws_aug {i : Nat} {f : Int → Int → Int} {a : Int} (hx : ss[i]? = some (some (.pd (.int a)))) (h : WE K T te ss st fun y st1 => ∃ b, y = .pd (.int b) ∧ P.nx (ss.set i (some (.pd (.int (f a b))))) st1) : WS K T (tAug i te (ipI f)) ss st P := fun α F H σ r s D o => by
  obtain ⟨v, e, hv⟩ := s.at_ i _ hx
  obtain rfl := dp_int hv
  refine ⟨.int a, e, h α F H σ r s _ fun α1 F1 H1 v x st1 n1 r1 v1 ⟨b, eb, q⟩ => ?_⟩
  subst eb
  obtain rfl := dp_int v1
  exact ⟨a, b, rfl, rfl, o.nx α1 F1 H1 _ _ st1 n1 r1 ((s.mono n1).set i (x := .pd (.int (f a b))) (Dp.int _)) q⟩
theorem ws_augS {to ti : TE} {tg : V → V → Hp → VK → Prop} {tip : TIp} {ts : TSet} (h : WE K T to ss st fun o st1 => WE K T ti ss st1 fun i st2 => WR K T tg o i st2 fun x st3 => WE K T te ss st3 fun y st4 => WR K T tip x y st4 fun z st5 => WX K T ts o i z st5 fun st6 => P.nx ss st6) :
    WS K T (tAugS to ti te tg tip ts) ss st P := fun α F H σ r s D o =>
  h α F H σ r s _ fun α1 F1 H1 vo xo st1 n1 r1 v1 h1 => h1 α1 F1 H1 σ r1 (s.mono n1) _ fun α2 F2 H2 vi xi st2 n2 r2 v2 h2 => h2 α2 F2 H2 vo vi r2 (v1.mono n2) v2 _ fun α3 F3 H3 vx x st3 n3 r3 v3 h3 =>
    h3 α3 F3 H3 σ r3 (s.mono (n1.trans (n2.trans n3))) _ fun α4 F4 H4 vy y st4 n4 r4 v4 h4 => h4 α4 F4 H4 vx vy r4 (v3.mono n4) v4 _ fun α5 F5 H5 vz z st5 n5 r5 v5 h5 =>
      h5 α5 F5 H5 vo vi vz r5 (v1.mono (n2.trans (n3.trans (n4.trans n5)))) (v2.mono (n3.trans (n4.trans n5))) v5 _ fun α6 F6 H6 st6 n6 r6 q =>
        let n := n1.trans (n2.trans (n3.trans (n4.trans (n5.trans n6))))
        o.nx α6 F6 H6 σ ss st6 n r6 (s.mono n) q
/-- xs.append(e) -/
theorem ws_app (h : WE K T ta ss st fun o st1 => ∃ n ys, o = .cell n ∧ st1[n]? = some (.mu ys) ∧ WE K T te ss st1 fun x st2 => ∃ d st3 xs, pur x st2 = some (d, st3) ∧ st3[n]? = some (.mu xs) ∧ xs.length < sizeLine ∧ P.nx ss (st3.set n (.mu (xs ++ [d])))) :
    WS K T (tDrop (tBM K "list" rAppend ta (tCons te tNil))) ss st P := fun α F H σ r s D o =>
  h α F H σ r s _ fun α1 F1 H1 vo xo st1 n1 r1 v1 ⟨n, ys, eo, ey, h1⟩ => by
    subst eo
    obtain ⟨hn, rfl⟩ := v1
    obtain ⟨_, us, eu, du⟩ := r1.mu n ys ey
    refine ⟨.inl ⟨rfl, us, .inl (.inl eu)⟩, h1 α1 F1 H1 σ r1 (s.mono n1) _ fun α2 F2 H2 v x st2 n2 r2 v2 ⟨d, st3, xs, ep, en, hl, q⟩ => ?_⟩
    obtain ⟨F3, r3, n3, d3⟩ := pur_ok r2 v2 ep
    obtain ⟨_, vs, e1, d1⟩ := r3.mu n xs en
    rw [n2.ag n hn] at e1
    have hr := r3.write en (dps_app d1 (.cons d3 .nil))
    rw [n2.ag n hn] at hr
    have nn := n1.trans (n2.trans n3)
    exact ⟨_, vs, v, rfl, rfl, e1, by rw [dps_len d1]; exact hl, o.nx α2 F3 _ σ ss _ (by rw [List.length_set]; exact nn) hr (by rw [List.length_set]; exact s.mono nn) q⟩
end
end Ct

/-! CtC: loops, comprehensions, calls of defs, a def's body; list + list of any lists; xs[i] op= e. -/
namespace Ct
open PySem L2

/-! ### two rules of the layer's kind -/
def rCatS (K : PySem.W.Frag) : R2 := fun x y H Q => ∃ l b xs zs, x = .ref l ∧ y = .ref b ∧ SqL K H l xs ∧ SqL K H b zs ∧ xs.length + zs.length ≤ sizeLine ∧ ∀ p, H p = none → Q (.ref p) (upd H p (.lst (xs ++ zs)))
section
open PyProof.Rows
variable {X : Cx}
theorem op_catS : OpR X (binaryOp .Add) (rCatS X.K) := by
  intro pins s σ H x y v u Q I rx ry h
  obtain ⟨l, b, xs, zs, rfl, rfl, hH, hB, hz, q⟩ := h
  cases rx
  cases ry
  obtain ⟨its, r, pl, _⟩ := I.list hH
  obtain ⟨its2, r2, pl2, _⟩ := I.list hB
  have hl := r.length
  have hl2 := r2.length
  obtain ⟨⟨cls, dd, data, sl⟩, ho, hc, n, hd⟩ := pl.isList
  obtain ⟨⟨cls2, dd2, data2, sl2⟩, ho2, hc2, n2, hd2⟩ := pl2.isList
  simp only at hc hd hc2 hd2
  subst hc hd hc2 hd2
  have e : its.toArray ++ its2.toArray = (its ++ its2).toArray := by simp
  refine concat_meets ⟨_, ho, rfl⟩ ⟨_, ho2, rfl⟩ noFill_list_add seq_list_add PySem.F.slot_list_add PySem.F.entry_list_add (PySem.F.args_list_add_2 _ _) (list_addW l b its.toArray its2.toArray n n2 dd dd2 sl sl2 (by simp; omega)) ⟨ho, ho2, ?_⟩
  rw [e]
  exact ⟨.ref _, _, I.lnew (t' := s.toks) (r.append r2) (by rw [List.length_append]; omega), rfl, q _ I.fresh⟩
theorem get_list : PGet X (rIxL X.K) := by
  intro pins s σ H x y v u Q I rx ry h
  obtain ⟨p, xs, i, z, rfl, rfl, hq, he, q⟩ := h
  cases rx
  obtain ⟨t, rfl⟩ := ry
  obtain ⟨its, r, pl, hz⟩ := I.list hq
  obtain ⟨j, h1, h2, h3, h4, h5⟩ := atI_get he
  obtain ⟨w, ew, rw'⟩ := r.get h2
  have hl := r.length
  have hn := line63
  have fin : EP X pins σ Q w s := ⟨z, H, I, rw', q⟩
  by_cases h0 : 0 ≤ i
  · have hj : i.toNat = j := by
      rw [seqIndex_of h0 h5] at h1
      exact Option.some.inj h1
    exact wpAny_getItem_list pl.isList h0 (by omega) (by rw [hj]; simpa using ew) fin
  · have hj : (i + (its.toArray.size : Int)).toNat = j := by
      rw [seqIndex_neg (by omega) h4] at h1
      rw [List.size_toArray, ← hl]
      exact Option.some.inj h1
    exact wpAny_getItem_list_neg pl.isList (by omega) (by rw [List.size_toArray]; omega) (by omega) (by rw [hj]; simpa using ew) fin
end

section
variable {K : PySem.W.Frag} {T : TabI} {ss : SS} {st : Sto} {Φ : Val → Sto → Prop} {te ta tb tc tl : TE} {tt tu : TT} {P : Po} {g : TG} {bd : TS}

theorem wr_catS {x y : Val} {xs ys : List PyData} (hn : look x st = some (.list xs)) (hm : look y st = some (.list ys)) (hl : xs.length + ys.length ≤ sizeLine) (q : Φ (.pd (.list (xs ++ ys))) st) : WR K T (rCatS K) x y st Φ := fun α F H vx vy r hx hy Q k => by
  obtain ⟨a, vs, rfl, e1, d1⟩ := look_lst r hx hn
  obtain ⟨b, ws, rfl, e2, d2⟩ := look_lst r hy hm
  refine ⟨_, _, vs, ws, rfl, rfl, e1, e2, by rw [dps_len d1, dps_len d2]; exact hl, fun p hp => ?_⟩
  have hF := none_of r hp
  exact k α (upd F p (.lst (vs ++ ws))) _ (.ref p) (.pd _) st (Nx.new hF) (r.new hp fun ps z => by cases z) (Dp.lst (.inl (.inl upd_same)) (dpsm (same_upd hF) (dps_app d1 d2))) q
theorem wr_ip {f : Int → Int → Int} {i j : Int} (q : Φ (.pd (.int (f i j))) st) : WR K T (ipI f) (.pd (.int i)) (.pd (.int j)) st Φ := fun α F H vx vy r hx hy Q k => by
  obtain rfl := dp_int hx
  obtain rfl := dp_int hy
  exact ⟨i, j, rfl, rfl, k α F H _ (.pd _) st Nx.refl r (Dp.int _) q⟩

/-! ### for -/
abbrev inTurn (P : Po) (N : SS → Sto → Prop) : Po := { nx := N, rt := P.rt, bk := P.nx, ct := N }
theorem ws_forL (h : WE K T tl ss st fun x st1 => ∃ xs, x = .pd (.list xs) ∧ ∃ I : Nat → SS → Sto → Prop, I 0 ss st1 ∧
      (∀ (i : Nat) (d : PyData) (ss' : SS) (st' : Sto), xs[i]? = some d → I i ss' st' → WG K T g (.pd d) ss' st' fun ss2 st2 => WS K T bd ss2 st2 (inTurn P (I (i + 1)))) ∧ ∀ (ss' : SS) (st' : Sto), I xs.length ss' st' → P.nx ss' st') :
    WS K T (tFor (iList K tl) g bd) ss st P := fun α F H σ r s D o => h α F H σ r s _ fun α1 F1 H1 v x st1 n1 r1 v1 ⟨xs, e, I, i0, hs, hd⟩ => by
  subst e
  obtain ⟨a, vs, rfl, h1, h2⟩ := dp_lst v1
  have o1 := o.mono n1
  refine ⟨a, rfl, ⟨vs, r1.sub.seq h1⟩, for_list (xs := vs) (fun i σ' H' => ∃ α' F' ss' st', Nx α1 F1 st1.length α' F' (List.length st') ∧ Rel K T α' F' H' st' ∧ SR K α' F' st'.length ss' σ' ∧ I i ss' st')
    ⟨α1, F1, ss, st1, Nx.refl, r1, s.mono n1, i0⟩ (fun i σ' H' _ ⟨α', F', ss', st', n', r', _, _⟩ => r'.sub.seq (n'.sub.seq h1)) (fun i y σ' H' hy ⟨α', F', ss', st', n', r', s', hi⟩ => ?_)
    (fun σ' H' ⟨α', F', ss', st', n', r', s', hi⟩ => o1.nx α' F' H' σ' ss' st' n' r' s' (hd ss' st' (by rw [← dps_len h2]; exact hi)))⟩
  obtain ⟨d, hd1, dd⟩ := dps_getV h2 hy
  exact hs i d ss' st' hd1 hi α' F' H' σ' y r' s' (dpm n'.sub dd) _ fun α2 F2 H2 σ2 ss2 st2 n2 r2 s2 q => q α2 F2 H2 σ2 r2 s2 _
    ⟨fun α3 F3 H3 σ3 ss3 st3 n3 r3 s3 q3 => ⟨α3, F3, ss3, st3, n'.trans (n2.trans n3), r3, s3, q3⟩, fun α3 F3 H3 v3 x3 st3 n3 => o1.rt α3 F3 H3 v3 x3 st3 (n'.trans (n2.trans n3)),
      fun α3 F3 H3 σ3 ss3 st3 n3 => o1.nx α3 F3 H3 σ3 ss3 st3 (n'.trans (n2.trans n3)), fun α3 F3 H3 σ3 ss3 st3 n3 r3 s3 q3 => ⟨α3, F3, ss3, st3, n'.trans (n2.trans n3), r3, s3, q3⟩⟩
theorem ws_forT (h : WE K T tl ss st fun x st1 => ∃ xs, x = .pd (.tuple xs) ∧ ∃ I : Nat → SS → Sto → Prop, I 0 ss st1 ∧
      (∀ (i : Nat) (d : PyData) (ss' : SS) (st' : Sto), xs[i]? = some d → I i ss' st' → WG K T g (.pd d) ss' st' fun ss2 st2 => WS K T bd ss2 st2 (inTurn P (I (i + 1)))) ∧ ∀ (ss' : SS) (st' : Sto), I xs.length ss' st' → P.nx ss' st') :
    WS K T (tFor (iTup K tl) g bd) ss st P := fun α F H σ r s D o => h α F H σ r s _ fun α1 F1 H1 v x st1 n1 r1 v1 ⟨xs, e, I, i0, hs, hd⟩ => by
  subst e
  obtain ⟨a, vs, rfl, h1, h2⟩ := dp_tup v1
  have o1 := o.mono n1
  refine ⟨a, rfl, ⟨vs, seqT r1.sub h1⟩, for_tup (xs := vs) (fun i σ' H' => ∃ α' F' ss' st', Nx α1 F1 st1.length α' F' (List.length st') ∧ Rel K T α' F' H' st' ∧ SR K α' F' st'.length ss' σ' ∧ I i ss' st')
    ⟨α1, F1, ss, st1, Nx.refl, r1, s.mono n1, i0⟩ (fun i σ' H' _ ⟨α', F', ss', st', n', r', _, _⟩ => seqT r'.sub (seqT n'.sub h1)) (fun i y σ' H' hy ⟨α', F', ss', st', n', r', s', hi⟩ => ?_)
    (fun σ' H' ⟨α', F', ss', st', n', r', s', hi⟩ => o1.nx α' F' H' σ' ss' st' n' r' s' (hd ss' st' (by rw [← dps_len h2]; exact hi)))⟩
  obtain ⟨d, hd1, dd⟩ := dps_getV h2 hy
  exact hs i d ss' st' hd1 hi α' F' H' σ' y r' s' (dpm n'.sub dd) _ fun α2 F2 H2 σ2 ss2 st2 n2 r2 s2 q => q α2 F2 H2 σ2 r2 s2 _
    ⟨fun α3 F3 H3 σ3 ss3 st3 n3 r3 s3 q3 => ⟨α3, F3, ss3, st3, n'.trans (n2.trans n3), r3, s3, q3⟩, fun α3 F3 H3 v3 x3 st3 n3 => o1.rt α3 F3 H3 v3 x3 st3 (n'.trans (n2.trans n3)),
      fun α3 F3 H3 σ3 ss3 st3 n3 => o1.nx α3 F3 H3 σ3 ss3 st3 (n'.trans (n2.trans n3)), fun α3 F3 H3 σ3 ss3 st3 n3 r3 s3 q3 => ⟨α3, F3, ss3, st3, n'.trans (n2.trans n3), r3, s3, q3⟩⟩
/-- over lo, lo + 1, .. -/
theorem for_rng {lo : Int} {n : Nat} {α1 : Nat → Addr} {F1 H1 : Hp} {st1 : Sto} {σ1 : L2.St} {D : Ends} (r1 : Rel K T α1 F1 H1 st1) (s1 : SR K α1 F1 st1.length ss σ1) (o1 : Ok K T α1 F1 st1.length P D) (I : Nat → SS → Sto → Prop) (i0 : I 0 ss st1)
    (hs : ∀ (i : Nat) (ss' : SS) (st' : Sto), i < n → I i ss' st' → WG K T g (.pd (.int (lo + i))) ss' st' fun ss2 st2 => WS K T bd ss2 st2 (inTurn P (I (i + 1)))) (hd : ∀ (ss' : SS) (st' : Sto), I n ss' st' → P.nx ss' st') :
    ∃ W : Nat → Nat → L2.St → Hp → Prop, (∃ m, W 0 m σ1 H1) ∧ ∀ i m σ H, W i m σ H →
      ((Itr lo n).stop i H ∧ D.nx σ H) ∨ ((Itr lo n).go i H ∧ ∃ N : L2.St → Hp → Prop, (∀ σ' H', N σ' H' → ∃ m', m' < m ∧ W (i + 1) m' σ' H') ∧ ∀ x H', (Itr lo n).yld i H x H' → g x σ H' fun σ2 H2 => bd { D with nx := N, ct := N, bk := D.nx } σ2 H2) :=
  for_range (lo := lo) (n := n) (fun i σ' H' => ∃ α' F' ss' st', Nx α1 F1 st1.length α' F' (List.length st') ∧ Rel K T α' F' H' st' ∧ SR K α' F' st'.length ss' σ' ∧ I i ss' st')
    ⟨α1, F1, ss, st1, Nx.refl, r1, s1, i0⟩ (fun i σ' H' hi ⟨α', F', ss', st', n', r', s', hI⟩ =>
      hs i ss' st' hi hI α' F' H' σ' (.int (lo + i)) r' s' (Dp.int _) _ fun α2 F2 H2 σ2 ss2 st2 n2 r2 s2 q => q α2 F2 H2 σ2 r2 s2 _
        ⟨fun α3 F3 H3 σ3 ss3 st3 n3 r3 s3 q3 => ⟨α3, F3, ss3, st3, n'.trans (n2.trans n3), r3, s3, q3⟩, fun α3 F3 H3 v3 x3 st3 n3 => o1.rt α3 F3 H3 v3 x3 st3 (n'.trans (n2.trans n3)),
          fun α3 F3 H3 σ3 ss3 st3 n3 => o1.nx α3 F3 H3 σ3 ss3 st3 (n'.trans (n2.trans n3)), fun α3 F3 H3 σ3 ss3 st3 n3 r3 s3 q3 => ⟨α3, F3, ss3, st3, n'.trans (n2.trans n3), r3, s3, q3⟩⟩)
    (fun σ' H' ⟨α', F', ss', st', n', r', s', hi⟩ => o1.nx α' F' H' σ' ss' st' n' r' s' (hd ss' st' hi))
theorem ws_forR1 {t : TA} (h : WA K T t ss st fun xs st1 => ∃ n, xs = [.pd (.int n)] ∧ -(2 ^ 62) ≤ n ∧ n < 2 ^ 62 ∧ ∃ I : Nat → SS → Sto → Prop, I 0 ss st1 ∧
      (∀ (i : Nat) (ss' : SS) (st' : Sto), i < n.toNat → I i ss' st' → WG K T g (.pd (.int (0 + (i : Int)))) ss' st' fun ss2 st2 => WS K T bd ss2 st2 (inTurn P (I (i + 1)))) ∧ ∀ (ss' : SS) (st' : Sto), I n.toNat ss' st' → P.nx ss' st') :
    WS K T (tFor (iRng1 t) g bd) ss st P := fun α F H σ r s D o => h α F H σ r s _ fun α1 F1 H1 vs xs st1 n1 r1 v1 ⟨n, e, b1, b2, I, i0, hs, hd⟩ => by
  subst e
  obtain ⟨v, rfl, hv⟩ := vrs1 v1
  obtain rfl := dp_int hv
  exact ⟨n, rfl, b1, b2, for_rng r1 (s.mono n1) (o.mono n1) I i0 hs hd⟩
theorem ws_forR2 {t : TA} (h : WA K T t ss st fun xs st1 => ∃ lo n, xs = [.pd (.int lo), .pd (.int n)] ∧ (-(2 ^ 62) ≤ lo ∧ lo < 2 ^ 62 ∧ -(2 ^ 62) ≤ n ∧ n < 2 ^ 62) ∧ ∃ I : Nat → SS → Sto → Prop, I 0 ss st1 ∧
      (∀ (i : Nat) (ss' : SS) (st' : Sto), i < (n - lo).toNat → I i ss' st' → WG K T g (.pd (.int (lo + (i : Int)))) ss' st' fun ss2 st2 => WS K T bd ss2 st2 (inTurn P (I (i + 1)))) ∧ ∀ (ss' : SS) (st' : Sto), I (n - lo).toNat ss' st' → P.nx ss' st') :
    WS K T (tFor (iRng2 t) g bd) ss st P := fun α F H σ r s D o => h α F H σ r s _ fun α1 F1 H1 vs xs st1 n1 r1 v1 ⟨lo, n, e, b, I, i0, hs, hd⟩ => by
  subst e
  obtain ⟨v, w, rfl, hv, hw⟩ := vrs2 v1
  obtain rfl := dp_int hv
  obtain rfl := dp_int hw
  exact ⟨lo, n, rfl, b, for_rng r1 (s.mono n1) (o.mono n1) I i0 hs hd⟩
/-- enumerate -/
theorem ws_forE {t : TA} (h : WA K T t ss st fun ys st1 => ∃ xs, ys = [.pd (.list xs)] ∧ ∃ I : Nat → SS → Sto → Prop, I 0 ss st1 ∧
      (∀ (i : Nat) (d : PyData) (ss' : SS) (st' : Sto), xs[i]? = some d → I i ss' st' → WG K T g (.pd (.tuple [.int (i : Int), d])) ss' st' fun ss2 st2 => WS K T bd ss2 st2 (inTurn P (I (i + 1)))) ∧ ∀ (ss' : SS) (st' : Sto), I xs.length ss' st' → P.nx ss' st') :
    WS K T (tFor (iEnum K t) g bd) ss st P := fun α F H σ r s D o => h α F H σ r s _ fun α1 F1 H1 vs ys st1 n1 r1 v1 ⟨xs, e, I, i0, hs, hd⟩ => by
  subst e
  obtain ⟨v, rfl, hv⟩ := vrs1 v1
  obtain ⟨a, ws, rfl, h1, h2⟩ := dp_lst hv
  have o1 := o.mono n1
  refine ⟨a, ws, rfl, r1.sub.seq h1, fun i m σ' H' => m = ws.length - i ∧ i ≤ ws.length ∧ ∃ α' F' ss' st', Nx α1 F1 st1.length α' F' (List.length st') ∧ Rel K T α' F' H' st' ∧ SR K α' F' st'.length ss' σ' ∧ I i ss' st',
    ⟨ws.length, by simp, Nat.zero_le _, α1, F1, ss, st1, Nx.refl, r1, s.mono n1, i0⟩, ?_⟩
  rintro i m σ' H' ⟨rfl, hi, α', F', ss', st', n', r', s', hI⟩
  have q := r'.sub.seq (n'.sub.seq h1)
  by_cases hlt : i < ws.length
  · refine .inr ⟨⟨ws, ws[i], q, by simp [hlt]⟩, fun σ2 H2 => ∃ α2 F2 ss2 st2, Nx α1 F1 st1.length α2 F2 (List.length st2) ∧ Rel K T α2 F2 H2 st2 ∧ SR K α2 F2 st2.length ss2 σ2 ∧ I (i + 1) ss2 st2, fun σ2 H2 p2 => ⟨ws.length - (i + 1), by omega, rfl, hlt, p2⟩, fun x H2 y => ?_⟩
    obtain ⟨T', x1, rfl, nT, rfl, y⟩ := y
    have ey := y ws q
    obtain ⟨d, hd1, dd⟩ := dps_getV h2 ey
    have hF := none_of r' nT
    have nn : Nx α' F' st'.length α' (upd F' T' (.tup [.int (i : Nat), x1])) st'.length := Nx.new hF
    have rr := r'.new (o := .tup [.int (i : Nat), x1]) nT fun ps z => by cases z
    exact hs i d ss' st' hd1 hI α' _ _ σ' (.ref T') rr (s'.mono nn) (Dp.tup (.inl (.inl upd_same)) (.cons (.int _) (.cons (dpm (same_upd hF) (dpm n'.sub dd)) .nil))) _ fun α2 F2 H2 σ2 ss2 st2 n2 r2 s2 q => q α2 F2 H2 σ2 r2 s2 _
      ⟨fun α3 F3 H3 σ3 ss3 st3 n3 r3 s3 q3 => ⟨α3, F3, ss3, st3, n'.trans (nn.trans (n2.trans n3)), r3, s3, q3⟩, fun α3 F3 H3 v3 x3 st3 n3 => o1.rt α3 F3 H3 v3 x3 st3 (n'.trans (nn.trans (n2.trans n3))),
        fun α3 F3 H3 σ3 ss3 st3 n3 => o1.nx α3 F3 H3 σ3 ss3 st3 (n'.trans (nn.trans (n2.trans n3))), fun α3 F3 H3 σ3 ss3 st3 n3 r3 s3 q3 => ⟨α3, F3, ss3, st3, n'.trans (nn.trans (n2.trans n3)), r3, s3, q3⟩⟩
  · have e : i = ws.length := by omega
    subst e
    exact .inl ⟨⟨ws, q, Nat.le_refl _⟩, o1.nx α' F' H' σ' ss' st' n' r' s' (hd ss' st' (by rw [← dps_len h2]; exact hI))⟩
theorem ws_while (I : Nat → SS → Sto → Prop) (h0 : ∃ m, I m ss st)
    (hs : ∀ (m : Nat) (ss' : SS) (st' : Sto), I m ss' st' → WT K T tt ss' st' fun b st1 => (b = true → WS K T bd ss' st1 (inTurn P fun ss2 st2 => ∃ m', m' < m ∧ I m' ss2 st2)) ∧ (b = false → P.nx ss' st1)) :
    WS K T (tWhile tt bd) ss st P := fun α F H σ r s D o => by
  obtain ⟨m0, h0⟩ := h0
  refine ⟨fun m σ' H' => ∃ α' F' ss' st', Nx α F st.length α' F' (List.length st') ∧ Rel K T α' F' H' st' ∧ SR K α' F' st'.length ss' σ' ∧ I m ss' st', ⟨m0, α, F, ss, st, Nx.refl, r, s, h0⟩, ?_⟩
  rintro m σ' H' ⟨α', F', ss', st', n', r', s', hI⟩
  refine hs m ss' st' hI α' F' H' σ' r' s' _ fun α1 F1 H1 b st1 n1 r1 ⟨ht, hf⟩ => ?_
  cases b with
  | true =>
    rw [if_pos rfl]
    refine ⟨fun σ2 H2 => ∃ m', m' < m ∧ ∃ α2 F2 ss2 st2, Nx α F st.length α2 F2 (List.length st2) ∧ Rel K T α2 F2 H2 st2 ∧ SR K α2 F2 st2.length ss2 σ2 ∧ I m' ss2 st2, fun σ2 H2 h => h, ?_⟩
    exact ht rfl α1 F1 H1 σ' r1 (s'.mono n1) _ ⟨fun α3 F3 H3 σ3 ss3 st3 n3 r3 s3 ⟨m', hm, q3⟩ => ⟨m', hm, α3, F3, ss3, st3, n'.trans (n1.trans n3), r3, s3, q3⟩, fun α3 F3 H3 v3 x3 st3 n3 => o.rt α3 F3 H3 v3 x3 st3 (n'.trans (n1.trans n3)),
      fun α3 F3 H3 σ3 ss3 st3 n3 => o.nx α3 F3 H3 σ3 ss3 st3 (n'.trans (n1.trans n3)), fun α3 F3 H3 σ3 ss3 st3 n3 r3 s3 ⟨m', hm, q3⟩ => ⟨m', hm, α3, F3, ss3, st3, n'.trans (n1.trans n3), r3, s3, q3⟩⟩
  | false =>
    rw [if_neg Bool.false_ne_true]
    exact o.nx α1 F1 H1 σ' ss' st1 (n'.trans n1) r1 (s'.mono n1) (hf rfl)

/-! ### comprehensions -/
def wipeS : SS → List Nat → SS
  | ss, [] => ss
  | ss, v :: vs => (wipeS ss vs).set v none
theorem SR.wipe {α : Nat → Addr} {F : Hp} {L : Nat} {σ : L2.St} (s : SR K α F L ss σ) : ∀ vs : List Nat, SR K α F L (wipeS ss vs) (L2.wipe σ vs)
  | [] => s
  | v :: vs => (s.wipe vs).setNone v
theorem wipe_in {σ : L2.St} {i : Nat} : ∀ {vs : List Nat}, i ∈ vs → (L2.wipe σ vs)[i]? = if i < σ.length then some none else none
  | [], h => by simp at h
  | v :: vs, h => by
    unfold L2.wipe
    have hl := L2.wipe_length σ vs
    by_cases e : v = i
    · subst e
      by_cases hv : v < σ.length
      · rw [List.getElem?_set_self (by rw [hl]; exact hv), if_pos hv]
      · rw [List.getElem?_eq_none (by rw [List.length_set, hl]; omega), if_neg hv]
    · rw [List.getElem?_set_ne e]
      rcases List.mem_cons.mp h with h | h
      · exact absurd h.symm e
      · exact wipe_in h
theorem wipe_set {σ : L2.St} {i : Nat} {x : Option V} {vs : List Nat} (h : i ∈ vs) : L2.wipe (σ.set i x) vs = L2.wipe σ vs := by
  apply List.ext_getElem?
  intro j
  by_cases hj : j ∈ vs
  · rw [wipe_in hj, wipe_in hj, List.length_set]
  · rw [L2.wipe_out hj, L2.wipe_out hj, List.getElem?_set_ne]
    rintro rfl
    exact hj h
theorem wipe_wipe {σ : L2.St} {vs : List Nat} : L2.wipe (L2.wipe σ vs) vs = L2.wipe σ vs := by
  apply List.ext_getElem?
  intro j
  by_cases hj : j ∈ vs
  · rw [wipe_in hj, wipe_in hj, L2.wipe_length]
  · rw [L2.wipe_out hj]
def GW (g : TG) (vs : List Nat) : Prop := ∀ (v : V) (σ : L2.St) (H : Hp) (Q : L2.St → Hp → Prop), g v σ H Q → g v σ H fun σ' H' => L2.wipe σ' vs = L2.wipe σ vs ∧ Q σ' H'
def GWs (g : TGs) (vs : List Nat) : Prop := ∀ (v : List V) (σ : L2.St) (H : Hp) (Q : L2.St → Hp → Prop), g v σ H Q → g v σ H fun σ' H' => L2.wipe σ' vs = L2.wipe σ vs ∧ Q σ' H'
theorem gw_name {i : Nat} {vs : List Nat} (h : i ∈ vs) : GW (gName i) vs := fun v σ H Q q => ⟨wipe_set h, q⟩
theorem gw_nil {vs : List Nat} : GWs gNil vs := fun v σ H Q ⟨e, q⟩ => ⟨e, rfl, q⟩
/-- a target's store, weakened (the targets' readings are monotone) -/
def GM (g : TG) : Prop := ∀ (v : V) (σ : L2.St) (H : Hp) (Q Q' : L2.St → Hp → Prop), (∀ σ' H', Q σ' H' → Q' σ' H') → g v σ H Q → g v σ H Q'
def GMs (g : TGs) : Prop := ∀ (v : List V) (σ : L2.St) (H : Hp) (Q Q' : L2.St → Hp → Prop), (∀ σ' H', Q σ' H' → Q' σ' H') → g v σ H Q → g v σ H Q'
theorem gm_name {i : Nat} : GM (gName i) := fun v σ H Q Q' f q => f _ _ q
theorem gm_nil : GMs gNil := fun v σ H Q Q' f ⟨e, q⟩ => ⟨e, f _ _ q⟩
theorem gm_cons {g : TG} {gs : TGs} (a : GM g) (b : GMs gs) : GMs (gCons g gs) := fun v σ H Q Q' f ⟨x, r, e, q⟩ => ⟨x, r, e, a _ _ _ _ _ (fun σ' H' q' => b _ _ _ _ _ f q') q⟩
theorem gm_tup {n : Nat} {gs : TGs} (b : GMs gs) : GM (gTup K n gs) := fun v σ H Q Q' f ⟨a, xs, e, h, l, q⟩ => ⟨a, xs, e, h, l, b _ _ _ _ _ f q⟩
theorem gw_cons {g : TG} {gs : TGs} {vs : List Nat} (m : GM g) (ms : GMs gs) (a : GW g vs) (b : GWs gs vs) : GWs (gCons g gs) vs := fun v σ H Q ⟨x, r, e, q⟩ =>
  ⟨x, r, e, m _ _ _ _ _ (fun σ' H' ⟨e1, q'⟩ => ms _ _ _ _ _ (fun σ2 H2 ⟨e2, q2⟩ => ⟨e2.trans e1, q2⟩) (b _ _ _ _ q')) (a _ _ _ _ q)⟩
theorem gw_tup {n : Nat} {gs : TGs} {vs : List Nat} (b : GWs gs vs) : GW (gTup K n gs) vs := fun v σ H Q ⟨a, xs, e, h, l, q⟩ => ⟨a, xs, e, h, l, b _ _ _ _ q⟩
theorem fm_take {α β : Type} {f : α → Option β} {xs : List α} {i : Nat} {d : α} (h : xs[i]? = some d) : (xs.take (i + 1)).filterMap f = (xs.take i).filterMap f ++ (f d).toList := by
  rw [List.take_add_one, h, List.filterMap_append]
  cases e : f d <;> simp [e]
/-- [e for target in list if tests], the result plain -/
theorem we_lcL {vs : List Nat} (hG : GW g vs) (h : WE K T tl ss st fun x st1 => ∃ xs, x = .pd (.list xs) ∧ xs.length < sizeLine ∧ ∃ f : PyData → Option PyData,
      (∀ (i : Nat) (d : PyData) (acc : List PyData), xs[i]? = some d → WG K T g (.pd d) (wipeS ss vs) (st1 ++ [.mu acc]) fun ss2 st2 => WT K T tt ss2 st2 fun b st3 =>
        (b = true → WE K T te ss2 st3 fun y st4 => ∃ dy st5, pur y st4 = some (dy, st5) ∧ st5.take (st1.length + 1) = st1 ++ [.mu acc] ∧ f d = some dy) ∧ (b = false → st3.take (st1.length + 1) = st1 ++ [.mu acc] ∧ f d = none)) ∧
      Φ (.pd (.list (xs.filterMap f))) st1) :
    WE K T (tLc (iList K tl) g tt te vs) ss st Φ := fun α F H σ r s Q k => h α F H σ r s _ fun α1 F1 H1 v x st1 n1 r1 v1 ⟨xs, e, hsz, f, hs, hq⟩ => by
  subst e
  obtain ⟨a, ws, rfl, h1, h2⟩ := dp_lst v1
  refine ⟨a, rfl, ⟨ws, r1.sub.seq h1⟩, fun D hD => ?_⟩
  have len1 : ∀ acc : List PyData, (st1 ++ [Cell.mu acc]).length = st1.length + 1 := fun acc => by simp
  refine lc_list (xs := ws) (fun i H' => ∃ α' F', Nx α1 F1 st1.length α' F' st1.length ∧ Rel K T α' F' H' (st1 ++ [.mu ((xs.take i).filterMap f)]) ∧ α' st1.length = D)
    ⟨ext α1 st1.length D, F1, ⟨Same.refl _, Nat.le_refl _, fun n hn => ext_ne (Nat.ne_of_lt hn)⟩, r1.cell hD .nil, ext_same⟩ (fun i H' _ ⟨α', F', n', r', _⟩ => r'.sub.seq (n'.sub.seq h1)) (fun i y H' hy ⟨α', F', n', r', eD⟩ => ?_) (fun H' ⟨α', F', n', r', eD⟩ => ?_)
  · obtain ⟨d, hd1, dd⟩ := dps_getV h2 hy
    have hi : i < xs.length := (List.getElem?_eq_some_iff.mp hd1).1
    have nn : Nx α1 F1 st1.length α' F' (st1.length + 1) := ⟨n'.sub, Nat.le_succ _, n'.ag⟩
    have s1 : SR K α' F' (st1 ++ [Cell.mu ((xs.take i).filterMap f)]).length (wipeS ss vs) (L2.wipe σ vs) := by
      rw [len1]
      exact ((s.mono n1).mono nn).wipe vs
    have ez : L2.wipe (L2.wipe σ vs) vs = L2.wipe σ vs := wipe_wipe
    have base := hs i d ((xs.take i).filterMap f) hd1 α' F' H' (L2.wipe σ vs) y r' s1 (dpm n'.sub dd) (fun σ2 H2 => tt σ2 H2 fun b H3 => if b = true then te σ2 H3 fun y H4 => ∃ acc, H4 D = some (.lst acc) ∧ acc.length < sizeLine ∧
        (∃ α' F', Nx α1 F1 st1.length α' F' st1.length ∧ Rel K T α' F' (upd H4 D (.lst (acc ++ [y]))) (st1 ++ [.mu ((xs.take (i + 1)).filterMap f)]) ∧ α' st1.length = D) else
        ∃ α' F', Nx α1 F1 st1.length α' F' st1.length ∧ Rel K T α' F' H3 (st1 ++ [.mu ((xs.take (i + 1)).filterMap f)]) ∧ α' st1.length = D) fun α2 F2 H2 σ2 ss2 st2 n2 r2 s2 q => q α2 F2 H2 σ2 r2 s2 _ fun α3 F3 H3 b st3 n3 r3 ⟨ht, hf⟩ => ?_
    · have := hG _ _ _ _ base
      rw [ez] at this
      exact this
    · have cut : ∀ {α4 : Nat → Addr} {F4 : Hp} {st4 : Sto}, Nx α' F' (st1 ++ [Cell.mu ((xs.take i).filterMap f)]).length α4 F4 st4.length → Nx α1 F1 st1.length α4 F4 st1.length ∧ α4 st1.length = D := fun {α4 F4 st4} n4 => by
        rw [len1] at n4
        exact ⟨⟨n'.sub.trans n4.sub, Nat.le_refl _, fun n hn => (n4.ag n (Nat.lt_succ_of_lt hn)).trans (n'.ag n hn)⟩, (n4.ag _ (Nat.lt_succ_self _)).trans eD⟩
      cases b with
      | true =>
        rw [if_pos rfl]
        refine ht rfl α3 F3 H3 σ2 r3 (s2.mono n3) _ fun α4 F4 H4 vy z st4 n4 r4 v4 ⟨dy, st5, ep, et, ef⟩ => ?_
        obtain ⟨F5, r5, n5, d5⟩ := pur_ok r4 v4 ep
        have nA := n2.trans (n3.trans (n4.trans n5))
        obtain ⟨c1, c2⟩ := cut nA
        have h5 : st5[st1.length]? = some (.mu ((xs.take i).filterMap f)) := by
          have : (st5.take (st1.length + 1))[st1.length]? = some (.mu ((xs.take i).filterMap f)) := by rw [et]; simp
          rw [List.getElem?_take] at this
          simpa using this
        obtain ⟨_, us, e1, d1⟩ := r5.mu _ _ h5
        rw [c2] at e1
        have h6 : (st1 ++ [Cell.mu ((xs.take i).filterMap f)])[st1.length]? = some (.mu ((xs.take i).filterMap f)) := by simp
        have rw5 := (r5.back r' (by rw [len1]; exact et)).write h6 (dps_app d1 (.cons d5 .nil))
        rw [c2] at rw5
        have es : (st1 ++ [Cell.mu ((xs.take i).filterMap f)]).set st1.length (.mu ((xs.take i).filterMap f ++ [dy])) = st1 ++ [.mu ((xs.take (i + 1)).filterMap f)] := by
          rw [fm_take hd1, ef]
          simp
        rw [es] at rw5
        refine ⟨us, e1, ?_, α4, F5, c1, rw5, c2⟩
        rw [dps_len d1]
        have := List.length_filterMap_le f (xs.take i)
        rw [List.length_take] at this
        omega
      | false =>
        rw [if_neg Bool.false_ne_true]
        obtain ⟨et, ef⟩ := hf rfl
        obtain ⟨c1, c2⟩ := cut (n2.trans n3)
        have r3' := r3.back r' (by rw [len1]; exact et)
        refine ⟨α3, F3, c1, ?_, c2⟩
        rw [fm_take hd1, ef]
        simpa using r3'
  · have ea : (xs.take ws.length).filterMap f = xs.filterMap f := by rw [dps_len h2, List.take_length]
    rw [ea] at r'
    have hg : (st1 ++ [Cell.mu (xs.filterMap f)])[st1.length]? = some (.mu (xs.filterMap f)) := by simp
    obtain ⟨F2, r2, n2, d2⟩ := r'.freeze hg
    have et : ((st1 ++ [Cell.mu (xs.filterMap f)]).set st1.length (.fr (xs.filterMap f))).take st1.length = st1 := by simp
    have r3 := r2.back r1 et
    rw [eD] at d2
    exact k α' F2 H' (.ref D) (.pd _) st1 (n1.trans ⟨n'.sub.trans n2.sub, Nat.le_refl _, n'.ag⟩) r3 d2 hq
/-- [e for target in range(lo, n) if tests], the result plain -/
theorem lc_rngX {vs : List Nat} {lo : Int} {n : Nat} {α1 : Nat → Addr} {F1 H1 : Hp} {st1 : Sto} {σ : L2.St} {Q : VK} (hG : GW g vs) (s1 : SR K α1 F1 st1.length ss σ) (r1 : Rel K T α1 F1 H1 st1) (hsz : n < sizeLine) (f : Nat → Option PyData)
    (hs : ∀ (i : Nat) (acc : List PyData), i < n → WG K T g (.pd (.int (lo + (i : Int)))) (wipeS ss vs) (st1 ++ [.mu acc]) fun ss2 st2 => WT K T tt ss2 st2 fun b st3 =>
        (b = true → WE K T te ss2 st3 fun y st4 => ∃ dy st5, pur y st4 = some (dy, st5) ∧ st5.take (st1.length + 1) = st1 ++ [.mu acc] ∧ f i = some dy) ∧ (b = false → st3.take (st1.length + 1) = st1 ++ [.mu acc] ∧ f i = none))
    (k : ∀ α2 F2 H2 D, Nx α1 F1 st1.length α2 F2 st1.length → Rel K T α2 F2 H2 st1 → Dp K F2 (.ref D) (.list ((List.range n).filterMap f)) → Q (.ref D) H2) (D : Addr) (hD : H1 D = none) :
    ∃ W : Nat → Nat → Hp → Prop, (∃ m, W 0 m (upd H1 D (.lst []))) ∧ ∀ i m H, W i m H → ((Itr lo n).stop i H ∧ Q (.ref D) H) ∨ ((Itr lo n).go i H ∧ ∃ Nx : Hp → Prop, (∀ H', Nx H' → ∃ m', m' < m ∧ W (i + 1) m' H') ∧ ∀ x H', (Itr lo n).yld i H x H' → g x (L2.wipe σ vs) H' fun σ2 H2 => L2.wipe σ2 vs = L2.wipe σ vs ∧ tt σ2 H2 fun b H3 =>
        if b = true then te σ2 H3 fun y H4 => ∃ acc, H4 D = some (.lst acc) ∧ acc.length < sizeLine ∧ Nx (upd H4 D (.lst (acc ++ [y]))) else Nx H3) := by
  have len1 : ∀ acc : List PyData, (st1 ++ [Cell.mu acc]).length = st1.length + 1 := fun acc => by simp
  refine lc_range (lo := lo) (n := n) (fun i H' => ∃ α' F', Nx α1 F1 st1.length α' F' st1.length ∧ Rel K T α' F' H' (st1 ++ [.mu ((List.range i).filterMap f)]) ∧ α' st1.length = D)
    ⟨ext α1 st1.length D, F1, ⟨Same.refl _, Nat.le_refl _, fun n hn => ext_ne (Nat.ne_of_lt hn)⟩, r1.cell hD .nil, ext_same⟩ (fun i H' hi ⟨α', F', n', r', eD⟩ => ?_) (fun H' ⟨α', F', n', r', eD⟩ => ?_)
  · have nn : Nx α1 F1 st1.length α' F' (st1.length + 1) := ⟨n'.sub, Nat.le_succ _, n'.ag⟩
    have s1 : SR K α' F' (st1 ++ [Cell.mu ((List.range i).filterMap f)]).length (wipeS ss vs) (L2.wipe σ vs) := by
      rw [len1]
      exact (s1.mono nn).wipe vs
    have ez : L2.wipe (L2.wipe σ vs) vs = L2.wipe σ vs := wipe_wipe
    have es1 : (List.range (i + 1)).filterMap f = (List.range i).filterMap f ++ (f i).toList := by
      rw [List.range_succ, List.filterMap_append]
      cases e : f i <;> simp [e]
    have base := hs i ((List.range i).filterMap f) hi α' F' H' (L2.wipe σ vs) (.int (lo + (i : Int))) r' s1 (Dp.int _) (fun σ2 H2 => tt σ2 H2 fun b H3 => if b = true then te σ2 H3 fun y H4 => ∃ acc, H4 D = some (.lst acc) ∧ acc.length < sizeLine ∧
        (∃ α' F', Nx α1 F1 st1.length α' F' st1.length ∧ Rel K T α' F' (upd H4 D (.lst (acc ++ [y]))) (st1 ++ [.mu ((List.range (i + 1)).filterMap f)]) ∧ α' st1.length = D) else
        ∃ α' F', Nx α1 F1 st1.length α' F' st1.length ∧ Rel K T α' F' H3 (st1 ++ [.mu ((List.range (i + 1)).filterMap f)]) ∧ α' st1.length = D) fun α2 F2 H2 σ2 ss2 st2 n2 r2 s2 q => q α2 F2 H2 σ2 r2 s2 _ fun α3 F3 H3 b st3 n3 r3 ⟨ht, hf⟩ => ?_
    · have := hG _ _ _ _ base
      rw [ez] at this
      exact this
    · have cut : ∀ {α4 : Nat → Addr} {F4 : Hp} {st4 : Sto}, Nx α' F' (st1 ++ [Cell.mu ((List.range i).filterMap f)]).length α4 F4 st4.length → Nx α1 F1 st1.length α4 F4 st1.length ∧ α4 st1.length = D := fun {α4 F4 st4} n4 => by
        rw [len1] at n4
        exact ⟨⟨n'.sub.trans n4.sub, Nat.le_refl _, fun n hn => (n4.ag n (Nat.lt_succ_of_lt hn)).trans (n'.ag n hn)⟩, (n4.ag _ (Nat.lt_succ_self _)).trans eD⟩
      cases b with
      | true =>
        rw [if_pos rfl]
        refine ht rfl α3 F3 H3 σ2 r3 (s2.mono n3) _ fun α4 F4 H4 vy z st4 n4 r4 v4 ⟨dy, st5, ep, et, ef⟩ => ?_
        obtain ⟨F5, r5, n5, d5⟩ := pur_ok r4 v4 ep
        have nA := n2.trans (n3.trans (n4.trans n5))
        obtain ⟨c1, c2⟩ := cut nA
        have h5 : st5[st1.length]? = some (.mu ((List.range i).filterMap f)) := by
          have : (st5.take (st1.length + 1))[st1.length]? = some (.mu ((List.range i).filterMap f)) := by rw [et]; simp
          rw [List.getElem?_take] at this
          simpa using this
        obtain ⟨_, us, e1, d1⟩ := r5.mu _ _ h5
        rw [c2] at e1
        have h6 : (st1 ++ [Cell.mu ((List.range i).filterMap f)])[st1.length]? = some (.mu ((List.range i).filterMap f)) := by simp
        have rw5 := (r5.back r' (by rw [len1]; exact et)).write h6 (dps_app d1 (.cons d5 .nil))
        rw [c2] at rw5
        have es : (st1 ++ [Cell.mu ((List.range i).filterMap f)]).set st1.length (.mu ((List.range i).filterMap f ++ [dy])) = st1 ++ [.mu ((List.range (i + 1)).filterMap f)] := by
          rw [es1, ef]
          simp
        rw [es] at rw5
        refine ⟨us, e1, ?_, α4, F5, c1, rw5, c2⟩
        rw [dps_len d1]
        have := List.length_filterMap_le f (List.range i)
        rw [List.length_range] at this
        omega
      | false =>
        rw [if_neg Bool.false_ne_true]
        obtain ⟨et, ef⟩ := hf rfl
        obtain ⟨c1, c2⟩ := cut (n2.trans n3)
        have r3' := r3.back r' (by rw [len1]; exact et)
        refine ⟨α3, F3, c1, ?_, c2⟩
        rw [es1, ef]
        simpa using r3'
  · have hg : (st1 ++ [Cell.mu ((List.range n).filterMap f)])[st1.length]? = some (.mu ((List.range n).filterMap f)) := by simp
    obtain ⟨F2, r2, n2, d2⟩ := r'.freeze hg
    have et : ((st1 ++ [Cell.mu ((List.range n).filterMap f)]).set st1.length (.fr ((List.range n).filterMap f))).take st1.length = st1 := by simp
    have r3 := r2.back r1 et
    rw [eD] at d2
    exact k α' F2 H' D ⟨n'.sub.trans n2.sub, Nat.le_refl _, n'.ag⟩ r3 d2
theorem we_lcR2 {t : TA} {vs : List Nat} (hG : GW g vs) (h : WA K T t ss st fun xs st1 => ∃ lo n, xs = [.pd (.int lo), .pd (.int n)] ∧ (-(2 ^ 62) ≤ lo ∧ lo < 2 ^ 62 ∧ -(2 ^ 62) ≤ n ∧ n < 2 ^ 62) ∧ (n - lo).toNat < sizeLine ∧ ∃ f : Nat → Option PyData,
      (∀ (i : Nat) (acc : List PyData), i < (n - lo).toNat → WG K T g (.pd (.int (lo + (i : Int)))) (wipeS ss vs) (st1 ++ [.mu acc]) fun ss2 st2 => WT K T tt ss2 st2 fun b st3 =>
        (b = true → WE K T te ss2 st3 fun y st4 => ∃ dy st5, pur y st4 = some (dy, st5) ∧ st5.take (st1.length + 1) = st1 ++ [.mu acc] ∧ f i = some dy) ∧ (b = false → st3.take (st1.length + 1) = st1 ++ [.mu acc] ∧ f i = none)) ∧
      Φ (.pd (.list ((List.range (n - lo).toNat).filterMap f))) st1) :
    WE K T (tLc (iRng2 t) g tt te vs) ss st Φ := fun α F H σ r s Q k => h α F H σ r s _ fun α1 F1 H1 vs1 xs st1 n1 r1 v1 ⟨lo, n, e, b, hsz, f, hs, hq⟩ => by
  subst e
  obtain ⟨v, w, rfl, hv, hw⟩ := vrs2 v1
  obtain rfl := dp_int hv
  obtain rfl := dp_int hw
  exact ⟨lo, n, rfl, b, fun D hD => lc_rngX hG (s.mono n1) r1 hsz f hs (fun α2 F2 H2 D n2 r2 d2 => k α2 F2 H2 (.ref D) (.pd _) st1 (n1.trans n2) r2 d2 hq) D hD⟩
theorem we_lcR1 {t : TA} {vs : List Nat} (hG : GW g vs) (h : WA K T t ss st fun xs st1 => ∃ n, xs = [.pd (.int n)] ∧ -(2 ^ 62) ≤ n ∧ n < 2 ^ 62 ∧ n.toNat < sizeLine ∧ ∃ f : Nat → Option PyData,
      (∀ (i : Nat) (acc : List PyData), i < n.toNat → WG K T g (.pd (.int (0 + (i : Int)))) (wipeS ss vs) (st1 ++ [.mu acc]) fun ss2 st2 => WT K T tt ss2 st2 fun b st3 =>
        (b = true → WE K T te ss2 st3 fun y st4 => ∃ dy st5, pur y st4 = some (dy, st5) ∧ st5.take (st1.length + 1) = st1 ++ [.mu acc] ∧ f i = some dy) ∧ (b = false → st3.take (st1.length + 1) = st1 ++ [.mu acc] ∧ f i = none)) ∧
      Φ (.pd (.list ((List.range n.toNat).filterMap f))) st1) :
    WE K T (tLc (iRng1 t) g tt te vs) ss st Φ := fun α F H σ r s Q k => h α F H σ r s _ fun α1 F1 H1 vs1 xs st1 n1 r1 v1 ⟨n, e, b1, b2, hsz, f, hs, hq⟩ => by
  subst e
  obtain ⟨v, rfl, hv⟩ := vrs1 v1
  obtain rfl := dp_int hv
  exact ⟨n, rfl, b1, b2, fun D hD => lc_rngX hG (s.mono n1) r1 hsz f hs (fun α2 F2 H2 D n2 r2 d2 => k α2 F2 H2 (.ref D) (.pd _) st1 (n1.trans n2) r2 d2 hq) D hD⟩
end

/-! ### defs -/
/-- a def's promise by a transformer of its arguments and the store -/
abbrev Pre := List Val → Sto → (Val → Sto → Prop) → Prop
def spP (K : PySem.W.Frag) (T : TabI) (n : Nat) (p : Pre) : Sp := fun vs H Q _ => ∃ α F st xs Φ, Rel K T α F H st ∧ VRs K α F st.length xs vs ∧ xs.length = n ∧ p xs st Φ ∧
  ∀ (α' : Nat → Addr) (F' H' : Hp) (v : V) (x : Val) (st' : Sto), Nx α F st.length α' F' st'.length → Rel K T α' F' H' st' → VR K α' F' st'.length x v → Φ x st' → Q v H'
section
variable {K : PySem.W.Frag} {T : TabI} {ss : SS} {st : Sto} {Φ : Val → Sto → Prop} {n : Nat} {p : Pre}
theorem we_call {t : TA} {E : XK} (h : WA K T t ss st fun xs st1 => xs.length = n ∧ p xs st1 Φ) : WE K T (tCall (spP K T n p) [] E t) ss st Φ := fun α F H σ r s Q k =>
  h α F H σ r s _ fun α1 F1 H1 vs xs st1 n1 r1 v1 ⟨hl, hp⟩ => ⟨α1, F1, st1, xs, Φ, r1, by rw [List.append_nil]; exact v1, hl, hp, fun α2 F2 H2 v x st2 n2 => k α2 F2 H2 v x st2 (n1.trans n2)⟩
/-- what a body's end must show: the store as it is, or the one of the start -/
def Fin (st0 : Sto) (Φ : Val → Sto → Prop) (x : Val) (st : Sto) : Prop := Φ x st ∨ (st.take st0.length = st0 ∧ (∀ k, x ≠ .cell k) ∧ Φ x st0)
theorem fin_pd {d : PyData} {st st' : Sto} (e : st'.take st.length = st) (h : Φ (.pd d) st) : Fin st Φ (.pd d) st' := .inr ⟨e, fun k z => (nomatch z), h⟩
theorem fin_ob {o : Ob} {st st' : Sto} (e : st'.take st.length = st) (h : Φ (.ob o) st) : Fin st Φ (.ob o) st' := .inr ⟨e, fun k z => (nomatch z), h⟩
theorem fin_all {x : Val} {st st' : Sto} (h : Φ x st') : Fin st Φ x st' := .inl h
def startS (N : List Str) (xs : List Val) : SS := xs.map some ++ List.replicate (N.length - xs.length) none
theorem SR_start {α : Nat → Addr} {F : Hp} {L : Nat} {xs : List Val} {vs : List V} (h : VRs K α F L xs vs) (N : List Str) : SR K α F L (startS N xs) (L2.start N vs) := by
  unfold startS L2.start
  rw [h.len]
  generalize N.length - vs.length = m
  induction h with
  | nil =>
    refine ⟨by simp, fun i x e => ?_⟩
    simp only [List.map_nil, List.nil_append, List.getElem?_replicate] at e
    split at e
    · cases e
    · cases e
  | cons a b ih =>
    refine ⟨by simpa using ih.len, fun i x e => ?_⟩
    cases i with
    | zero =>
      simp at e
      subst e
      exact ⟨_, rfl, a⟩
    | succ i =>
      simp only [List.map_cons, List.cons_append, List.getElem?_cons_succ] at e ⊢
      exact ih.at_ i x e
abbrev PoF (st0 : Sto) (Φ : Val → Sto → Prop) : Po := { nx := fun _ st => Fin st0 Φ (.pd .none) st, rt := Fin st0 Φ, bk := fun _ _ => False, ct := fun _ _ => False }
/-- a body's reading -/
theorem fn_at {N : List Str} {t : TS} {α : Nat → Addr} {F : Hp} {xs : List Val} {vs : List V} {H : Hp} {Q : VK} (r : Rel K T α F H st) (v : VRs K α F st.length xs vs) (hw : WS K T t (startS N xs) st (PoF st Φ))
    (k : ∀ (α' : Nat → Addr) (F' H' : Hp) (v : V) (x : Val) (st' : Sto), Nx α F st.length α' F' st'.length → Rel K T α' F' H' st' → VR K α' F' st'.length x v → Φ x st' → Q v H') : t { nx := fun _ H' => Q .non H', rt := Q } (L2.start N vs) H := by
  have fin : ∀ (α' : Nat → Addr) (F' H' : Hp) (v : V) (x : Val) (st' : Sto), Nx α F st.length α' F' st'.length → Rel K T α' F' H' st' → VR K α' F' st'.length x v → Fin st Φ x st' → Q v H' := by
    intro α' F' H' v x st' n' r' v' q
    rcases q with q | ⟨e, hx, q⟩
    · exact k α' F' H' v x st' n' r' v' q
    · refine k α' F' H' v x st ⟨n'.sub, Nat.le_refl _, n'.ag⟩ (r'.back r e) ?_ q
      cases x with
      | pd d => exact v'
      | ty n => exact v'
      | ob o => exact v'
      | cell j => exact absurd rfl (hx j)
  exact hw α F H (L2.start N vs) r (SR_start v N) _ ⟨fun α' F' H' σ' ss' st' n' r' s' q => fin α' F' H' .non (.pd .none) st' n' r' Dp.non q, fun α' F' H' v x st' n' r' v' q => fin α' F' H' v x st' n' r' v' q, fun _ _ _ _ _ _ _ _ _ q => q.elim, fun _ _ _ _ _ _ _ _ _ q => q.elim⟩
theorem fn_run {N : List Str} {t : TS} {vs : List V} {H : Hp} {Q : VK} {E : XK} (h : spP K T n p vs H Q E) (hw : ∀ (xs : List Val) (st : Sto) (Φ : Val → Sto → Prop), xs.length = n → p xs st Φ → WS K T t (startS N xs) st (PoF st Φ)) :
    t { nx := fun _ H' => Q .non H', rt := Q } (L2.start N vs) H := by
  obtain ⟨α, F, st, xs, Φ, r, v, hl, hp, k⟩ := h
  exact fn_at r v (hw xs st Φ hl hp) k
theorem spP_len {vs : List V} {H : Hp} {Q : VK} {E : XK} (h : spP K T n p vs H Q E) : vs.length = n := by
  obtain ⟨α, F, st, xs, Φ, r, v, hl, hp, k⟩ := h
  rw [← v.len, hl]
end
end Ct

/-! CtL: sorted(rows, key=lambda row: row[0]). -/
namespace Ct
open PySem L2 PyProof.Rows

/-- the lambda's scope has its one parameter alone -/
structure Lam1 (x : Str) (params : Arguments) (scope : Scope) : Prop where
  kind : scope.kind = .function
  co : scope.isCoroutine = false
  gen : scope.isGenerator = false
  names : scope.names = [(x, .local)]
/-- one call of the lambda -/
theorem lam_turn {prog : Program} {w : World} {A : Around} {s : Shared} {x : Str} {f t : Addr} {params : Arguments} {scope : Scope} {pm ctv : Value} {c' : Addr} {qual : Str} {items : Array Value} {i : Int} {tk0 : Tok} {p1 p2 p3 : Pos} {j : Nat}
    (L : Lam1 x params scope) (hf : s.heap.get? f = some (PySem.W.kla_obj "<lambda>" qual params (.Subscript (.Name x p1) (.Constant (.int 0) j p2) p3) scope [] pm c' ctv))
    (hbind : ∀ v : Value, bindArgs (PySem.W.kla_fn "<lambda>" qual params (.Subscript (.Name x p1) (.Constant (.int 0) j p2) p3) scope [] pm (.ref c') ctv) ⟨[v], []⟩ = pure [(x, v)])
    (hcode : s.heap.CodeRec (.ref c') qual) (ht : IsTup s.heap t items) (h0 : items[0]? = some (.int i tk0)) (hroom : A.depth < recursionLimit) (hlim : s.heap.NoLimit) (hd : (x == ("__debug__" : Str)) = false) :
    wpAny (model prog w) A (call (.ref f) [.ref t]) (PySem.W.KeyPure (.int i) s) (fun _ _ => False) s := by
  refine wpAny_call (codeAny_mono (R := fun r s' => match r with | .ok (.ret v) => PySem.W.KeyPure (.int i) s v s' | _ => False) ?_ fun r s' hq => ?_)
  · refine PySem.W.kla_callFunE hroom hf rfl L.co L.gen rfl hcode ?_
    rw [hbind]
    refine wpAny_pure (wpAny_newFunctionEnv (fun y hy => by
      have hy : y ∈ scope.names := hy
      rw [L.names] at hy
      have e : y = (x, .local) := by simpa using hy
      rw [e]
      simp) (fun y hy => by
      have e : y = (x, .ref t) := by simpa using hy
      rw [e]
      show scope.names.lookup x = some .local
      rw [L.names]
      simp) (fun h₁ hns hsb => ⟨hlim.fresh _ hsb, ?_⟩) L.kind)
    have kp : ∀ b o, s.heap.get? b = some o → h₁.get? b = some o := fun b o e => hsb.extBut b o (Nat.ne_of_lt (Heap.lt_size e)) (Heap.get?_push_of_some _ e)
    refine PySem.W.kla_codeExpr ?_
    obtain ⟨o, ho, hcl, n, hdt⟩ := ht
    have hl : 0 < items.size := by
      rcases Nat.lt_or_ge 0 items.size with h | h
      · exact h
      · rw [Array.getElem?_eq_none (by omega)] at h0
        cases h0
    refine Subscript_ (wpAny_Name (wpAny_loadName_local L.kind ?_ hns (v := .ref t) (by simp) (wpAny_Constant_int ?_)) hd)
    · show scope.names.lookup x = some .local
      rw [L.names]
      simp
    · refine subscriptTail_builtinR (x := .int i tk0) (T := "tuple") (id := "tuple.__getitem__") ?_ slot_tuple_getitem.lookup (getItem_tuple (j := 0) (items := items) ⟨o, kp _ _ ho, hcl, n, hdt⟩ (by decide) (by decide) ?_ h0 ⟨rfl, ?_⟩) (by first | rfl | with_unfolding_all rfl)
      · exact (IsTup.typeIs ⟨o, kp _ _ ho, hcl, n, hdt⟩)
      · exact seqIndex_of (by decide) (by omega)
      · exact ⟨h₁, _, rfl, kp, .int i tk0⟩
  · cases r with
    | error e => exact hq.elim
    | ok fl =>
      cases fl with
      | ret u => exact hq
      | next => exact hq.elim
      | brk => exact hq.elim
      | cont => exact hq.elim

def rowKey : PyData → Int
  | .tuple (.int i :: _) => i
  | _ => 0
def rowLe (d e : PyData) : Bool := decide (rowKey d ≤ rowKey e)
def sortRows (vs : List V) (ds : List PyData) : List V := ((vs.zip ds).mergeSort fun x y => rowLe x.2 y.2).map (·.1)
/-- sorted(e, key=lambda row: row[0]) -/
def tSortRow (K : PySem.W.Frag) (T : List (Addr × Str)) (t : TA) : TE := fun σ H Q => t σ H fun us H1 => ∃ a vs ds, us = [.ref a] ∧ SqL K H1 a vs ∧ DpAll K H1 vs ds ∧ (∀ d ∈ ds, ∃ i r, d = .tuple (.int i :: r)) ∧ LamX.Tabs T H1 ∧
  ∀ H2, LamX.ExtN H1 H2 → LamX.Tabs T H2 → ∀ p, H2 p = none → Q (.ref p) (upd H2 p (.lst (sortRows vs ds)))
theorem dp_zip {K : PySem.W.Frag} {H : Hp} : ∀ {vs : List V} {ds : List PyData}, DpAll K H vs ds → ∀ b ∈ vs.zip ds, Dp K H b.1 b.2
  | _, _, .nil, b, hb => by simp at hb
  | _, _, .cons h t, b, hb => by
    rw [List.zip_cons_cons] at hb
    rcases List.mem_cons.mp hb with rfl | hb
    · exact h
    · exact dp_zip t b hb
theorem each_zip {R : Value → V × PyData → Prop} : ∀ {vs : List V} {ds : List PyData} {us : List Value}, Vals vs us → vs.length = ds.length → (∀ b ∈ vs.zip ds, ∀ u, RelV b.1 u → R u b) → PySem.W.EachIs R us (vs.zip ds)
  | _, [], _, .nil, _, _ => .nil
  | _, _ :: _, _, .nil, e, _ => by simp at e
  | _, [], _, .cons _ _, e, _ => by simp at e
  | _, d :: ds, _, .cons h t, e, f => .cons (f _ (List.mem_cons_self ..) _ h) (each_zip t (by simpa using e) fun b hb => f b (List.mem_cons_of_mem _ hb))
theorem vals_each {R : Value → V × PyData → Prop} (f : ∀ u b, R u b → RelV b.1 u) : ∀ {us : List Value} {bs : List (V × PyData)}, PySem.W.EachIs R us bs → Vals (bs.map (·.1)) us
  | _, _, .nil => .nil
  | _, _, .cons h t => .cons (f _ _ h) (vals_each f t)
section
variable {X : Cx}
theorem pe_sortRow {T : List (Addr × Str)} {c P : Addr} {k : Nat} {e : Expr} {t : TA} {x sx : Str} {params : Arguments} {scope : Scope} {p p0 p1 p2 p3 kpos lpos : Pos} {j : Nat} {ky : Option Str}
    (hsx : sx = "sorted") (hky : ky = some (Str.ofString "key")) (hg : Gl X "sorted") (hm : X.mg "sorted" = none) (TB : LamX.TabB X.base X.mg c P) (hcode : X.env.code = .ref c)
    (hmT : (P, X.env.qual ++ "<lambda>") ∈ T) (hu : ∀ p ∈ T, p.1 = P → p.2 = X.env.qual ++ "<lambda>") (hr : Room k X.A) (L : Lam1 x params scope) (hx : (x == ("__debug__" : Str)) = false)
    (hdef : defaultsOf params X.env = ([], []))
    (hbind : ∀ (c' : Addr) (pm ctv v : Value), bindArgs (PySem.W.kla_fn "<lambda>" (X.env.qual ++ "<lambda>") params (.Subscript (.Name x p1) (.Constant (.int 0) j p2) p3) scope [] pm (.ref c') ctv) ⟨[v], []⟩ = pure [(x, v)])
    (ha : PA X [e] t) (he : backTo p (starEach [e] X.env) = (false, eval e X.env) :: backTo p (starEach [] X.env) := by rfl) (hpl : (backTo p (starEach [e] X.env)).any (·.1) = false := by rfl) :
    PE X (.Call (.Name sx p0) [e] [⟨ky, .Lambda params (.Subscript (.Name x p1) (.Constant (.int 0) j p2) p3) scope lpos, kpos⟩] p) (tSortRow X.K T t) := by
  subst hsx hky
  refine ⟨fun pins s σ H Q I h => ?_⟩
  refine wpAny_Call_Name_kw (ld_blt I hg hm boot_sorted ?_)
  refine PyProof.Rows.callWith_kw (thn (ha.run p pins s σ H _ I h) fun us s1 ⟨vs1, H1, I1, r1, q1⟩ => ?_) he hpl (by rfl) (by rfl)
  obtain ⟨a, vs, ds, rfl, hS, hD, hrow, hT, q⟩ := q1
  obtain ⟨u, rfl, ru⟩ : ∃ u, us = [u] ∧ RelV (.ref a) u := by
    cases r1 with
    | cons h t =>
      cases t
      exact ⟨_, rfl, h⟩
  cases ru
  have hclo : cloFrom X.env.cells scope.names [] = [] := by
    rw [L.names]
    rfl
  show wpAny _ _ (evalAll ((do let v ← eval _ X.env; standAt p; pure v) :: [])) _ _ s1
  refine wpAny_evalAll_cons (wpAny_bind (LamX.lam_make2 I1 TB hcode hmT hu hT hdef (fun y hy e => ?_) fun f c' pm ctv H2 s2 I2 eN T2 hf hfn hfr hco => wpAny_bind (wpAny_standAt (wpAny_pure (wpAny_evalAll_nil ?_)))))
  · rw [L.names] at hy
    have ey : y = (x, .local) := by simpa using hy
    rw [ey] at e
    cases e
  · rw [hclo] at hf
    show wpAny _ _ (call (.builtin "sorted") [.ref a] [(Str.ofString "key", .ref f)]) _ _ s2
    have hS2 : SqL X.K H2 a vs := by
      rcases hS with (h | ⟨o, h⟩) | h
      · exact .inl (.inl (eN _ _ h fun ps z => by cases z))
      · exact .inl (.inr ⟨o, eN _ _ h fun ps z => by cases z⟩)
      · exact .inr h
    have up : ∀ {v d}, Dp X.K H1 v d → (∃ i r, d = .tuple (.int i :: r)) → ∃ t ws, v = .ref t ∧ SqT X.K H2 t ws ∧ ws[0]? = some (.int (rowKey d)) := fun {v d} hd ⟨i, r, e⟩ => by
      subst e
      obtain ⟨t, ws, rfl, h1, h2⟩ := dp_tup hd
      refine ⟨t, ws, rfl, ?_, ?_⟩
      · rcases h1 with (h | ⟨o, h⟩) | h
        · exact .inl (.inl (eN _ _ h fun ps z => by cases z))
        · exact .inl (.inr ⟨o, eN _ _ h fun ps z => by cases z⟩)
        · exact .inr h
      · obtain ⟨v, e1, e2⟩ := dps_get h2 (i := 0) rfl
        rw [e1, dp_int e2]
        rfl
    obtain ⟨its, rv, pl, hz⟩ := I2.list hS2
    have hlen := dps_len hD
    have hlz : (vs.zip ds).length = vs.length := by rw [List.length_zip]; omega
    have hA := hr.dp
    have hU := hr.un
    obtain ⟨⟨oc, cvs, tq, hoc, hdc, hvc⟩, _, _⟩ := I2.hok c' _ hco
    refine PySem.W.sorted_key_data (b := false) (R := fun u (b : V × PyData) => RelV b.1 u) (fun b : V × PyData => .int (rowKey b.2)) pl.isList (each_zip rv hlen fun b _ u h => h) (PySem.W.AllAlike.of fun _ _ => rfl) (PySem.W.Sortable.others fun _ => ⟨fun z => (nomatch z), fun xs z => (nomatch z)⟩) (by rw [hlz]; exact hz)
      (fun b _ => ?_) (ksk_s1 _ _) (fun _ => ksk_l1 _ _) (fun _ => ksk_t1 _ _) (fun u b hR hb g tk kp => ?_) fun out cc h' tk kp fr hat hl hE => ?_
    · show X.A.units + 2 + (PyData.int (rowKey b.2)).depth < cLine
      have : (PyData.int (rowKey b.2)).depth = 0 := by simp [PyData.depth]
      omega
    · obtain ⟨t, ws, e1, h1, h2⟩ := up (dp_zip hD b hb) (hrow _ (List.of_mem_zip hb).2)
      rw [e1] at hR
      cases hR
      obtain ⟨its2, rv2, ⟨o, ho, hcl, n, hdt⟩, _⟩ := I2.tuple h1
      obtain ⟨u0, g1, g2⟩ := rv2.get h2
      obtain ⟨tk0, rfl⟩ := g2
      exact lam_turn (s := { s2 with heap := g, toks := tk }) L (kp _ _ hf) (fun v => hbind c' pm ctv v) ⟨c', oc, cvs, tq, rfl, kp _ _ hoc, hdc, hvc⟩ ⟨o, kp _ _ ho, hcl, n, hdt⟩ (by simpa using g1) (by show X.A.depth < _; omega) (I2.nolimit.keeps kp) hx
    · have eo : PySem.W.dataLe false (fun b : V × PyData => .int (rowKey b.2)) = fun x y => rowLe x.2 y.2 := PySem.W.dataLe_int (β := V × PyData) fun b => rowKey b.2
      rw [eo] at hE
      have hv : Vals (sortRows vs ds) out := vals_each (fun _ _ h => h) hE
      have hls : (sortRows vs ds).length ≤ sizeLine := by
        unfold sortRows
        rw [List.length_map, List.length_mergeSort, hlz]
        exact hz
      have hp : s2.heap.objs.size ≤ s2.heap.objs.size + 1 := Nat.le_succ _
      exact ⟨.ref _, upd H2 (s2.heap.objs.size + 1) (.lst (sortRows vs ds)), I2.laid (t' := tk) kp hp ⟨hls, out, cc, hv, hat⟩, rfl, q H2 eN T2 _ (I2.hok.fresh hp)⟩
end

section
variable {K : PySem.W.Frag} {T : TabI} {ss : SS} {st : Sto} {Φ : Val → Sto → Prop}
theorem dps_pairs {F : Hp} : ∀ {ps : List (V × PyData)}, (∀ b ∈ ps, Dp K F b.1 b.2) → DpAll K F (ps.map (·.1)) (ps.map (·.2))
  | [], _ => .nil
  | b :: ps, h => .cons (h b (List.mem_cons_self ..)) (dps_pairs fun c hc => h c (List.mem_cons_of_mem _ hc))
theorem dps_sort {F : Hp} {vs : List V} {ds : List PyData} (h : DpAll K F vs ds) : DpAll K F (sortRows vs ds) (ds.mergeSort rowLe) := by
  have e : ds.mergeSort rowLe = ((vs.zip ds).mergeSort fun x y => rowLe x.2 y.2).map (·.2) := by
    rw [List.map_mergeSort (s := rowLe) (f := fun b : V × PyData => b.2) (fun a _ b _ => rfl)]
    congr 1
    show ds = (vs.zip ds).map Prod.snd
    rw [List.map_snd_zip]
    rw [dps_len h]
    exact Nat.le_refl _
  rw [e]
  exact dps_pairs fun b hb => dp_zip h b (List.mem_mergeSort.mp hb)
theorem Rel.growN {α : Nat → Addr} {F H H' : Hp} (r : Rel K T α F H st) (s : LamX.ExtN H H') (t : T.P H') : Rel K T α F H' st :=
  ⟨fun a o e => s a o (r.sub a o e) fun ps z => r.nt a ps (by rw [e, z]), r.nt, t, fun n c e => (r.at_ n c e).move Nx.refl (fun _ h => h) fun _ o no h => s _ _ h (fun ps z => no ps z), r.inj⟩
theorem we_sortRow {t : TA} {P1 : Addr} {q : Str} (hT : T.Has P1 q) (h : WA K T t ss st fun xs st1 => ∃ x ds, xs = [x] ∧ look x st1 = some (.list ds) ∧ (∀ d ∈ ds, ∃ i r, d = .tuple (.int i :: r)) ∧ Φ (.pd (.list (ds.mergeSort rowLe))) st1) :
    WE K T (tSortRow K [(P1, q)] t) ss st Φ := fun α F H σ r s Q k => h α F H σ r s _ fun α1 F1 H1 us xs st1 n1 r1 v1 ⟨x, ds, e, hl, hrow, hq⟩ => by
  subst e
  obtain ⟨v, rfl, hv⟩ := vrs1 v1
  obtain ⟨a, vs, rfl, hS, hD⟩ := look_lst r1 hv hl
  refine ⟨a, vs, ds, rfl, hS, dpsm r1.sub hD, hrow, hT.to _ r1.tab, fun H2 eN T2 p hp => ?_⟩
  have r2 := r1.growN eN (hT.of _ _ r1.tab eN T2)
  have hF := none_of r2 hp
  exact k α1 (upd F1 p (.lst (sortRows vs ds))) _ (.ref p) (.pd _) st1 (n1.trans (Nx.new hF)) (r2.new hp fun ps z => by cases z) (Dp.lst (.inl (.inl upd_same)) (dpsm (same_upd hF) (dps_sort hD))) hq
end
end Ct

/-! CtD: rules that join forms (int + int or list + list; an item of a list or a tuple; a tuple or a list unpacked), calls of defs by one fact, isinstance. -/
namespace Ct
open PySem L2 PyProof.Rows

def rOr (r r' : R2) : R2 := fun x y H Q => r x y H Q ∨ r' x y H Q
theorem OpR.or {X : Cx} {f : Value → Value → Sem Value} {r r' : R2} (h : OpR X f r) (h' : OpR X f r') : OpR X f (rOr r r') := by
  intro pins s σ H x y v u Q I rx ry q
  rcases q with q | q
  · exact h pins s σ H x y v u Q I rx ry q
  · exact h' pins s σ H x y v u Q I rx ry q
theorem op_addU {X : Cx} : OpR X (binaryOp .Add) (rOr (rI0 fun i j => .int (i + j)) (rCatS X.K)) := OpR.or op_add op_catS
def gOr (t t' : TG) : TG := fun v σ H Q => t v σ H Q ∨ t' v σ H Q
theorem pg_or {X : Cx} {e : Expr} {t t' : TG} (h : PG X e t) (h' : PG X e t') : PG X e (gOr t t') := by
  refine ⟨fun pins s σ H v u Q I r q => ?_⟩
  rcases q with q | q
  · exact h.run pins s σ H v u Q I r q
  · exact h'.run pins s σ H v u Q I r q
/-- a def that is called: its promise, its name, how it binds -/
structure Cal (P : Program) (w : World) (K : PySem.W.Frag) (mg : Str → Option Value) (base : Heap) (k : Nat) (x : Str) (ps : List Str) (sp : Sp) : Prop where
  ex : ∃ (f : Addr) (fd : FuncData), FnOk P w K mg base CX0 k f fd ps sp ∧ mg x = some (.ref f) ∧ PySem.W.keepIn K (.ref f) = true ∧ Binds K fd ps []
theorem pe_callC {X : Cx} {k : Nat} {x : Str} {ps : List Str} {sp : Sp} {p pos : Pos} {e : Expr} {es : List Expr} {t : TA} (c : Cal X.prog X.w X.K X.mg X.base k x ps sp) (hr : Room k X.A) (hg : Gl X x) (ha : PA X (e :: es) t) (hdb : (x == ("__debug__" : Str)) = false := by decide)
    (he : starEach (e :: es) X.env = (false, eval e X.env) :: starEach es X.env := by rfl) (hpl : (backTo pos (starEach es X.env)).any (·.1) = false := by rfl) :
    PE X (.Call (.Name x p) (e :: es) [] pos) (tCall sp [] E0 t) := by
  obtain ⟨f, fd, F, hm, kp, b⟩ := c.ex
  exact pe_call F hr hg hm kp b .nil pass0 ha hdb he hpl
/-- a def as it stands behind the top -/
def Df (K : PySem.W.Frag) (mg : Str → Option Value) (x : Str) (st : Stmt) : Prop := ∃ (f : Addr) (fd : FuncData), Fun K x x st f fd ∧ mg x = some (.ref f)
theorem Df.cal {P : Program} {w : World} {K : PySem.W.Frag} {mg : Str → Option Value} {base : Heap} {k : Nat} {x : Str} {st : Stmt} {ps : List Str} {sp : Sp} (d : Df K mg x st) (h : ∀ (f : Addr) (fd : FuncData), Fun K x x st f fd → FnOk P w K mg base CX0 k f fd ps sp)
    (b : ∀ (kV doc pm : Value) (an : Option Addr) (cdv ct : Value) (us : List Value), us.length = ps.length → bindArgs (PySem.W.fnOf x x (defArgs st) (defBody st) (defScope st) .none kV doc pm an cdv ct) ⟨us, []⟩ = pure (ps.zip us)) : Cal P w K mg base k x ps sp := by
  obtain ⟨f, fd, F, m⟩ := d
  exact ⟨f, fd, h f fd F, m, F.kp, F.binds b⟩

section
variable {K : PySem.W.Frag} {T : TabI} {ss : SS} {st : Sto} {Φ : Val → Sto → Prop} {te ta tb tc tl : TE} {tt tu : TT} {P : Po} {Y : SS → Sto → Prop}
theorem wr_addI {i j : Int} {r' : R2} (q : Φ (.pd (.int (i + j))) st) : WR K T (rOr (rI0 fun i j => .int (i + j)) r') (.pd (.int i)) (.pd (.int j)) st Φ := fun α F H vx vy r hx hy Q k => .inl (wr_I0 rfl q α F H vx vy r hx hy Q k)
theorem wr_addL {x y : Val} {xs ys : List PyData} {r0 : R2} (hn : look x st = some (.list xs)) (hm : look y st = some (.list ys)) (hl : xs.length + ys.length ≤ sizeLine) (q : Φ (.pd (.list (xs ++ ys))) st) : WR K T (rOr r0 (rCatS K)) x y st Φ :=
  fun α F H vx vy r hx hy Q k => .inr (wr_catS hn hm hl q α F H vx vy r hx hy Q k)
theorem wr_ixuL {x : Val} {ds : List PyData} {i : Int} {d : PyData} (h : look x st = some (.list ds)) (e : atI ds i = some d) (q : Φ (.pd d) st) : WR K T (rIx K) x (.pd (.int i)) st Φ := fun α F H vx vy r hx hy Q k => .inl (wr_ixL h e q α F H vx vy r hx hy Q k)
theorem wr_ixuT {ds : List PyData} {i : Int} {d : PyData} (e : atI ds i = some d) (q : Φ (.pd d) st) : WR K T (rIx K) (.pd (.tuple ds)) (.pd (.int i)) st Φ := fun α F H vx vy r hx hy Q k => .inr (.inl (wr_ixT e q α F H vx vy r hx hy Q k))
theorem wg_orT {n : Nat} {gs : TGs} {g' : TG} {ds : List PyData} (hn : ds.length = n) (h : WGs K T gs (ds.map Val.pd) ss st Y) : WG K T (gOr (gTup K n gs) g') (.pd (.tuple ds)) ss st Y := fun α F H σ v r s hv Q k => .inl (wg_tup hn h α F H σ v r s hv Q k)
theorem wg_orL {n : Nat} {gs : TGs} {g' : TG} {ds : List PyData} (hn : ds.length = n) (h : WGs K T gs (ds.map Val.pd) ss st Y) : WG K T (gOr g' (gUnl K n gs)) (.pd (.list ds)) ss st Y := fun α F H σ v r s hv Q k => .inr (wg_unl hn h α F H σ v r s hv Q k)
/-- x in a list of flat data, by eqv -/
def pyTy : PyData → String
  | .none => "NoneType"
  | .bool _ => "bool"
  | .int _ => "int"
  | .str _ => "str"
  | .list _ => "list"
  | .tuple _ => "tuple"
  | .dict _ => "dict"
theorem ty_of {F : Hp} {v : V} {d : PyData} (h : Dp K F v d) : TyX K F v (.type (pyTy d)) := by
  cases h with
  | non => exact .base .non
  | bl b => exact .base (.bl b)
  | int i => exact .base (.int i)
  | str x => exact .base (.str x)
  | lst h t =>
    rcases h with (h | ⟨o, h⟩) | ⟨o, its, n, h1, h2, _⟩
    · exact .base (.lst h)
    · exact .base (.frz h)
    · exact .kList h1 h2
  | tup h t =>
    rcases h with (h | ⟨o, h⟩) | ⟨o, its, n, h1, h2, _⟩
    · exact .base (.tup h)
    · exact .fTuple h
    · exact .kTuple h1 h2
theorem wc_isi {x : Val} {d : PyData} {c : String} {b : Bool} (hl : look x st = some d) (hk : PySem.W.kitOne K (.type (pyTy d)) (.type c) = some b) (q : Φ (.pd (.bool b)) st) : WC K T (rIsi K) [x, .ty c] st Φ := fun α F H vs r hv Q k => by
  obtain ⟨v, w, rfl, h1, h2⟩ := vrs2 hv
  have h2 : w = .ty c := h2
  subst h2
  exact ⟨v, .ty c, _, .type c, b, rfl, .ty c, ty_of (look_ok r h1 hl), hk, k α F H _ (.pd _) st Nx.refl r (Dp.bl _) q⟩
def inD (d : PyData) (ds : List PyData) : Bool := ds.any fun e => PyData.eqv e d
def flatD : PyData → Bool
  | .none => true
  | .bool _ => true
  | .int _ => true
  | .str _ => true
  | _ => false
theorem flat_ok {F : Hp} {v : V} {d : PyData} (h : Dp K F v d) (f : flatD d = true) : flatV v = true := by
  cases h with
  | non => rfl
  | bl b => rfl
  | int i => rfl
  | str x => rfl
  | lst h t => cases f
  | tup h t => cases f
theorem flats_ok {F : Hp} : ∀ {vs : List V} {ds : List PyData}, DpAll K F vs ds → ds.all flatD = true → vs.all flatV = true
  | _, _, .nil, _ => rfl
  | _, _, .cons h t, f => by
    rw [List.all_cons, Bool.and_eq_true] at f
    rw [List.all_cons, flat_ok h f.1, flats_ok t f.2]
    rfl
theorem eqV_ok {F : Hp} {v w : V} {d e : PyData} (h : Dp K F v d) (g : Dp K F w e) (f : flatD d = true) (f2 : flatD e = true) : eqV v w = PyData.eqv d e := by
  cases h <;> cases g <;> first | cases f; done | cases f2; done | (simp [eqV, PyData.eqv]; done) | skip
theorem inV_ok {F : Hp} {v : V} {d : PyData} (h : Dp K F v d) (f : flatD d = true) : ∀ {vs : List V} {ds : List PyData}, DpAll K F vs ds → ds.all flatD = true → inV v vs = inD d ds
  | _, _, .nil, _ => rfl
  | _, _, .cons g t, f2 => by
    rw [List.all_cons, Bool.and_eq_true] at f2
    have := inV_ok h f t f2.2
    unfold inV inD at this ⊢
    rw [List.any_cons, List.any_cons, this, eqV_ok g h f2.1 f]
theorem wr_in {y : Val} {d : PyData} {ds : List PyData} (hl : look y st = some (.list ds)) (f : flatD d = true) (f2 : ds.all flatD = true) (q : Φ (.pd (.bool (inD d ds))) st) : WR K T (rIn K false) (.pd d) y st Φ := fun α F H vx vy r hx hy Q k => by
  obtain ⟨a, vs, rfl, h1, h2⟩ := look_lst r hy hl
  refine ⟨a, vs, rfl, .inl h1, flat_ok hx f, flats_ok h2 f2, k α F H _ (.pd (.bool (inD d ds))) st Nx.refl r ?_ q⟩
  rw [inV_ok hx f h2 f2]
  exact Dp.bl _
theorem eqv_int (i j : Int) : PyData.eqv (.int i) (.int j) = (i == j) := by simp [PyData.eqv]
theorem eqv_str (i j : Str) : PyData.eqv (.str i) (.str j) = (i == j) := by simp [PyData.eqv]
theorem shaped_int (i : Int) : SeqAt.shaped (.int i) = true := by simp [SeqAt.shaped, PyData.canLay0, PyData.depth]
theorem shaped_none : SeqAt.shaped .none = true := by simp [SeqAt.shaped, PyData.canLay0, PyData.depth]
end
end Ct
namespace Ct
open PySem L2
theorem room_u {k : Nat} {A : Around} (hr : Room k A) : A.units + 64 < cLine := by
  have := hr.un
  omega
end Ct
namespace Ct
open PySem L2
theorem pe_tyN {X : Cx} {x : Str} {n : String} {pos : Pos} (hg : Gl X x) (hm : X.mg x = none) (hv : bootBuiltins x = some (.type n)) (hn : x ≠ "__name__" := by decide) (hd : (x == ("__debug__" : Str)) = false := by decide) : PE X (.Name x pos) (tC (.ty n)) := pe_bltn hg hm hv rfl hn hd
end Ct
namespace Ct
open PySem L2
section
variable {K : PySem.W.Frag} {T : TabI} {ss : SS} {st : Sto} {Φ : Val → Sto → Prop}
theorem wr_mul {i j : Int} (h : CMul i j) (q : Φ (.pd (.int (i * j))) st) : WR K T (rI CMul fun i j => .int (i * j)) (.pd (.int i)) (.pd (.int j)) st Φ := wr_I h rfl q
theorem wr_mod {i j : Int} (h : 0 < j) (q : Φ (.pd (.int (i % j))) st) : WR K T (rI (fun _ j => 0 < j) fun i j => .int (i % j)) (.pd (.int i)) (.pd (.int j)) st Φ := wr_I h rfl q
theorem wr_div {i j : Int} (h : 0 < j ∧ j < 1073741824) (q : Φ (.pd (.int (i / j))) st) : WR K T (rI CDiv fun i j => .int (i / j)) (.pd (.int i)) (.pd (.int j)) st Φ := wr_I h rfl q
theorem wr_pow {i j : Int} (h : CPow i j) (q : Φ (.pd (.int (i ^ j.toNat))) st) : WR K T (rI CPow fun i j => .int (i ^ j.toNat)) (.pd (.int i)) (.pd (.int j)) st Φ := wr_I h rfl q
theorem wr_sub {i j : Int} (q : Φ (.pd (.int (i - j))) st) : WR K T (rI0 fun i j => .int (i - j)) (.pd (.int i)) (.pd (.int j)) st Φ := wr_I0 rfl q
theorem wr_lt {i j : Int} (q : Φ (.pd (.bool (decide (i < j)))) st) : WR K T (rI0 fun i j => .bl (decide (i < j))) (.pd (.int i)) (.pd (.int j)) st Φ := wr_I0 rfl q
theorem wr_le {i j : Int} (q : Φ (.pd (.bool (decide (i ≤ j)))) st) : WR K T (rI0 fun i j => .bl (decide (i ≤ j))) (.pd (.int i)) (.pd (.int j)) st Φ := wr_I0 rfl q
theorem wr_eqInt {i j : Int} (q : Φ (.pd (.bool (decide (i = j)))) st) : WR K T (rEqD K) (.pd (.int i)) (.pd (.int j)) st Φ := wr_eqD rfl rfl (shaped_int i) (shaped_int j) (by
  rw [eqv_int, show (i == j) = decide (i = j) from rfl]
  exact q)
theorem wr_neInt {i j : Int} (q : Φ (.pd (.bool (!decide (i = j)))) st) : WR K T (rNeD K) (.pd (.int i)) (.pd (.int j)) st Φ := wr_neD rfl rfl (shaped_int i) (shaped_int j) (by
  rw [eqv_int, show (i == j) = decide (i = j) from rfl]
  exact q)
theorem wr_eqStr {i j : Str} (hi : SeqAt.shaped (.str i) = true) (hj : SeqAt.shaped (.str j) = true) (q : Φ (.pd (.bool (decide (i = j)))) st) : WR K T (rEqD K) (.pd (.str i)) (.pd (.str j)) st Φ := wr_eqD rfl rfl hi hj (by
  have e : PyData.eqv (.str i) (.str j) = decide (i = j) := by
    rw [eqv_str]
    by_cases h : i = j
    · subst h
      simp
    · simp [h]
  rw [e]
  exact q)
theorem wr_neStr {i j : Str} (hi : SeqAt.shaped (.str i) = true) (hj : SeqAt.shaped (.str j) = true) (q : Φ (.pd (.bool (!decide (i = j)))) st) : WR K T (rNeD K) (.pd (.str i)) (.pd (.str j)) st Φ := wr_neD rfl rfl hi hj (by
  have e : PyData.eqv (.str i) (.str j) = decide (i = j) := by
    rw [eqv_str]
    by_cases h : i = j
    · subst h
      simp
    · simp [h]
  rw [e]
  exact q)
end
end Ct
namespace Ct
open PySem L2
theorem big_lt {n : Nat} (h : n < 1000000) : n < sizeLine := Nat.lt_of_lt_of_le h (by decide)
theorem big_le {n : Nat} (h : n ≤ 1000000) : n ≤ sizeLine := Nat.le_trans h (by decide)
theorem look_end {st0 jk : Sto} {xs : List PyData} : look (.cell st0.length) (st0 ++ (.mu xs :: jk)) = some (.list xs) := by
  unfold look
  simp
theorem get_end {st0 jk : Sto} {c : Cell} : (st0 ++ (c :: jk))[st0.length]? = some c := by simp
theorem set_end {st0 jk : Sto} {c c' : Cell} : (st0 ++ (c :: jk)).set st0.length c' = st0 ++ (c' :: jk) := by simp
theorem pur_end {st0 jk : Sto} {xs : List PyData} : pur (.cell st0.length) (st0 ++ (.mu xs :: jk)) = some (.list xs, st0 ++ (.fr xs :: jk)) := by
  unfold pur
  simp
theorem pur_endF {st0 jk : Sto} {xs : List PyData} : pur (.cell st0.length) (st0 ++ (.fr xs :: jk)) = some (.list xs, st0 ++ (.fr xs :: jk)) := by
  unfold pur
  simp
section
variable {K : PySem.W.Frag} {T : TabI} {ss : SS} {st : Sto} {Φ : Val → Sto → Prop} {te : TE} {P : Po}
theorem ws_appEnd {i : Nat} {st0 jk : Sto} {xs : List PyData} (hi : ss[i]? = some (some (.cell st0.length))) (hl : xs.length < 1000000)
    (h : WE K T te ss (st0 ++ (.mu xs :: jk)) fun x st2 => ∃ d jk2, x = .pd d ∧ st2 = st0 ++ (.mu xs :: jk2) ∧ P.nx ss (st0 ++ (.mu (xs ++ [d]) :: jk2))) : WS K T (tDrop (tBM K "list" rAppend (tVar i) (tCons te tNil))) ss (st0 ++ (.mu xs :: jk)) P := by
  refine ws_app (we_var hi ⟨_, _, rfl, get_end, we_mono h ?_⟩)
  rintro x st' ⟨d, jk2, rfl, rfl, q⟩
  refine ⟨d, _, xs, rfl, get_end, big_lt hl, ?_⟩
  rw [set_end]
  exact q
/-- return of a cell of the body's own: plain -/
theorem ws_retEnd {i : Nat} {st0 jk : Sto} {xs : List PyData} (hi : ss[i]? = some (some (.cell st0.length))) (q : P.rt (.pd (.list xs)) (st0 ++ (.fr xs :: jk))) : WS K T (tRet (tVar i)) ss (st0 ++ (.mu xs :: jk)) P :=
  ws_ret (we_pur (we_var hi ⟨_, _, pur_end, q⟩))
theorem fin_end {d : PyData} {st jk : Sto} (h : Φ (.pd d) st) : Fin st Φ (.pd d) (st ++ jk) := fin_pd (by simp) h
end
open PyData
theorem canLayAll_iff : ∀ {ds : List PyData}, (∀ d ∈ ds, d.canLay0 = true) → PyData.canLayAll0 ds = true
  | [], _ => by simp [PyData.canLayAll0]
  | d :: ds, h => by
    rw [PyData.canLayAll0, h d (List.mem_cons_self ..), canLayAll_iff fun e he => h e (List.mem_cons_of_mem _ he)]
    rfl
theorem depthAll_le {k : Nat} : ∀ {ds : List PyData}, (∀ d ∈ ds, d.depth ≤ k) → PyData.depthAll ds ≤ k
  | [], _ => by simp [PyData.depthAll]
  | d :: ds, h => by
    rw [PyData.depthAll]
    exact Nat.max_le.mpr ⟨h d (List.mem_cons_self ..), depthAll_le fun e he => h e (List.mem_cons_of_mem _ he)⟩
/-- may be compared, k deep -/
def Sh (k : Nat) (d : PyData) : Prop := d.canLay0 = true ∧ d.depth ≤ k
theorem Sh.shaped {k : Nat} {d : PyData} (h : Sh k d) (hk : k ≤ 64 := by decide) : SeqAt.shaped d = true := by
  unfold SeqAt.shaped
  rw [h.1]
  exact decide_eq_true (Nat.le_trans h.2 hk)
theorem sh_int {k : Nat} (i : Int) : Sh k (.int i) := ⟨by simp [PyData.canLay0], by simp [PyData.depth]⟩
theorem sh_none {k : Nat} : Sh k .none := ⟨by simp [PyData.canLay0], by simp [PyData.depth]⟩
theorem sh_bool {k : Nat} (b : Bool) : Sh k (.bool b) := ⟨by simp [PyData.canLay0], by simp [PyData.depth]⟩
theorem sh_list {k : Nat} {ds : List PyData} (h : ∀ d ∈ ds, Sh k d) : Sh (k + 1) (.list ds) := ⟨by rw [PyData.canLay0]; exact canLayAll_iff fun d hd => (h d hd).1, by rw [PyData.depth]; exact Nat.succ_le_succ (depthAll_le fun d hd => (h d hd).2)⟩
theorem sh_tuple {k : Nat} {ds : List PyData} (h : ∀ d ∈ ds, Sh k d) : Sh (k + 1) (.tuple ds) := ⟨by rw [PyData.canLay0]; exact canLayAll_iff fun d hd => (h d hd).1, by rw [PyData.depth]; exact Nat.succ_le_succ (depthAll_le fun d hd => (h d hd).2)⟩
theorem eqv_list (xs ys : List PyData) : PyData.eqv (.list xs) (.list ys) = PyData.eqvAll xs ys := by simp [PyData.eqv]
theorem eqv_tuple (xs ys : List PyData) : PyData.eqv (.tuple xs) (.tuple ys) = PyData.eqvAll xs ys := by simp [PyData.eqv]
theorem eqvAll_cons (x y : PyData) (xs ys : List PyData) : PyData.eqvAll (x :: xs) (y :: ys) = (PyData.eqv x y && PyData.eqvAll xs ys) := by simp [PyData.eqvAll]
theorem eqvAll_nil : PyData.eqvAll [] [] = true := by simp [PyData.eqvAll]
theorem eqvAll_nil_cons (y : PyData) (ys : List PyData) : PyData.eqvAll [] (y :: ys) = false := by simp [PyData.eqvAll]
theorem eqvAll_cons_nil (y : PyData) (ys : List PyData) : PyData.eqvAll (y :: ys) [] = false := by simp [PyData.eqvAll]
/-- lists of like things -/
theorem eqvAll_map {α : Type} [DecidableEq α] {f : α → PyData} (h : ∀ x y, PyData.eqv (f x) (f y) = decide (x = y)) : ∀ xs ys : List α, PyData.eqvAll (xs.map f) (ys.map f) = decide (xs = ys)
  | [], [] => by simp [PyData.eqvAll]
  | [], y :: ys => by simp [PyData.eqvAll]
  | x :: xs, [] => by simp [PyData.eqvAll]
  | x :: xs, y :: ys => by
    rw [List.map_cons, List.map_cons, eqvAll_cons, h, eqvAll_map h xs ys]
    by_cases e : x = y <;> by_cases e2 : xs = ys <;> simp [e, e2]
end Ct
namespace Ct
open PySem L2
theorem purs_nil {st : Sto} : purs [] st = some ([], st) := rfl
theorem purs_cons {d : PyData} {xs : List Val} {ds : List PyData} {st st' : Sto} (h : purs xs st = some (ds, st')) : purs (.pd d :: xs) st = some (d :: ds, st') := by
  unfold purs
  rw [show pur (.pd d) st = some (d, st) from rfl]
  simp [h]
end Ct
namespace Ct
open PySem L2
section
variable {K : PySem.W.Frag} {T : TabI} {ss : SS} {st : Sto} {Φ : Val → Sto → Prop} {te : TE} {P : Po}
theorem ws_sA {g : TG} {u : TS} (h : WE K T te ss st fun x st1 => WG K T g x ss st1 fun ss2 st2 => WS K T u ss2 st2 P) : WS K T (tSeq (tAsg te g) u) ss st P := ws_seq (ws_asg h)
theorem ws_sD {u : TS} (h : WS K T (tDrop te) ss st { P with nx := fun ss1 st1 => WS K T u ss1 st1 P }) : WS K T (tSeq (tDrop te) u) ss st P := ws_seq h
theorem ws_sG {i : Nat} {u : TS} {f : Int → Int → Int} {a : Int} (hx : ss[i]? = some (some (.pd (.int a)))) (h : WE K T te ss st fun y st1 => ∃ b, y = .pd (.int b) ∧ WS K T u (ss.set i (some (.pd (.int (f a b))))) st1 P) : WS K T (tSeq (tAug i te (ipI f)) u) ss st P := ws_seq (ws_aug hx h)
theorem ws_sS {to ti : TE} {tg : V → V → Hp → VK → Prop} {tip : TIp} {ts : TSet} {u : TS} (h : WS K T (tAugS to ti te tg tip ts) ss st { P with nx := fun ss1 st1 => WS K T u ss1 st1 P }) : WS K T (tSeq (tAugS to ti te tg tip ts) u) ss st P := ws_seq h
/-- a statement, a word, the rest -/
theorem ws_mid {t u : TS} (Mid : SS → Sto → Prop) (h : WS K T t ss st { P with nx := Mid }) (k : ∀ (ss' : SS) (st' : Sto), Mid ss' st' → WS K T u ss' st' P) : WS K T (tSeq t u) ss st P := fun α F H σ r s D o =>
  ws_seq (fun α F H σ r s D o => h α F H σ r s D ⟨fun α1 F1 H1 σ1 ss1 st1 n1 r1 s1 m => o.nx α1 F1 H1 σ1 ss1 st1 n1 r1 s1 (k ss1 st1 m), o.rt, o.bk, o.ct⟩) α F H σ r s D o
end
end Ct
namespace Ct
open PySem L2
section
variable {K : PySem.W.Frag} {T : TabI} {ss : SS} {st : Sto} {Φ : Val → Sto → Prop} {te : TE} {P : Po}
theorem wx_end {st0 jk : Sto} {xs : List PyData} {i : Int} {j : Nat} {d : PyData} {Y : Sto → Prop} (hj : ixN xs.length i = some j) (q : Y (st0 ++ (.mu (xs.set j d) :: jk))) : WX K T rSetL (.cell st0.length) (.pd (.int i)) (.pd d) (st0 ++ (.mu xs :: jk)) Y := by
  refine wx_list get_end hj ?_
  rw [set_end]
  exact q
theorem ixN_last {n : Nat} (h : 0 < n) : ixN n (-1) = some (n - 1) := by
  unfold ixN
  rw [if_neg (by omega), if_pos (by omega)]
  congr 1
  omega
theorem set_last {α : Type} (xs : List α) (x y : α) : (xs ++ [x]).set ((xs ++ [x]).length - 1) y = xs ++ [y] := by simp
end
/-- a def with a lambda in it -/
def lamQ (x : Str) : Str := x ++ ".<locals>." ++ "<lambda>"
structure Gath (K : PySem.W.Frag) (base : Heap) (mg : Str → Option Value) (T : TabI) (x : Str) (st : Stmt) : Prop where
  ex : ∃ (f c P : Addr) (oc : Value) (od : Option Addr) (kV doc pm : Value) (an : Option Addr) (ct : Value) (osl : Array (Option Value)), K.lookup f = some ⟨oc, od, .func (PySem.W.fnOf x x (defArgs st) (defBody st) (defScope st) .none kV doc pm an (.ref c) ct), osl⟩ ∧
    PySem.W.codeIn K (.ref c) x = true ∧ PySem.W.keepIn K (.ref f) = true ∧ mg x = some (.ref f) ∧ LamX.TabB base mg c P ∧ T.Has P (lamQ x)
theorem gath_cal {P : Program} {w : World} {K : PySem.W.Frag} {mg : Str → Option Value} {base : Heap} {T : TabI} {k : Nat} {x : Str} {st : Stmt} {N ps : List Str} {sp : Sp} (g : Gath K base mg T x st) (S : FnScope N ps (defScope st)) (len : ∀ vs H Q E, sp vs H Q E → vs.length = ps.length)
    (b : ∀ (kV doc pm : Value) (an : Option Addr) (cdv ct : Value) (us : List Value), us.length = ps.length → bindArgs (PySem.W.fnOf x x (defArgs st) (defBody st) (defScope st) .none kV doc pm an cdv ct) ⟨us, []⟩ = pure (ps.zip us))
    (hbody : ∀ (f c P1 : Addr), LamX.TabB base mg c P1 → T.Has P1 (lamQ x) → ∀ (A : Around) (outer : List Env) (s : Shared) (H : Hp) (vs : List V) (Q : VK) (E : XK), Room k (A.deeper (PyProof.Rows.envOfC x (defScope st) s.heap.objs.size f (.ref c))) → sp vs H Q E →
      ∃ t, PSs (cxOf CX0 P w K mg base N x (defScope st) f (.ref c) A outer s H E).nox (defBody st) t ∧ t { nx := fun _ H' => Q .non H', rt := Q } (L2.start N vs) H) : Cal P w K mg base (k + 1) x ps sp := by
  obtain ⟨f, c, P1, oc, od, kV, doc, pm, an, ct, osl, lk, hcd, kp, hm, TB, hT⟩ := g.ex
  refine ⟨f, _, fn_of lk hcd S len fun A outer s H vs Q E hr h => ?_, hm, kp, .all (b kV doc pm an (.ref c) ct)⟩
  obtain ⟨t, h1, h2⟩ := hbody f c P1 TB hT A outer s H vs Q E hr h
  exact ⟨t, h1.nox, h2⟩
end Ct
namespace Ct
open PySem L2
section
variable {K : PySem.W.Frag} {T : TabI} {ss : SS} {st : Sto} {X : SS → Sto → Prop}
theorem wgs_consM {g : TG} {gs : TGs} {d : PyData} {ds : List PyData} (h : WG K T g (.pd d) ss st fun ss1 st1 => WGs K T gs (ds.map Val.pd) ss1 st1 X) : WGs K T (gCons g gs) ((d :: ds).map Val.pd) ss st X := wgs_cons h
theorem wgs_nilM (q : X ss st) : WGs K T gNil (([] : List PyData).map Val.pd) ss st X := wgs_nil q
end
end Ct
namespace Ct
theorem take_snoc {st : Sto} {c : Cell} : (st ++ [c]).take (st.length + 1) = st ++ [c] := List.take_of_length_le (by simp)
end Ct
namespace Ct
open PySem L2
section
variable {X : Cx} {K : PySem.W.Frag}
theorem op_addK (h : X.K = K) : OpR X (binaryOp .Add) (rOr (rI0 fun i j => .int (i + j)) (rCatS K)) := by subst h; exact op_addU
theorem op_eqK (h : X.K = K) (hu : X.A.units + 64 < cLine) : OpR X (compareOp .Eq) (rEqD K) := by subst h; exact op_eqD hu
theorem op_neK (h : X.K = K) (hu : X.A.units + 64 < cLine) : OpR X (compareOp .NotEq) (rNeD K) := by subst h; exact op_neD hu
theorem op_inK (h : X.K = K) : OpR X (compareOp .In) (rIn K false) := by subst h; exact op_in_seq
theorem ix_seqK (h : X.K = K) : IxR X (rIx K) := by subst h; exact ix_seq
theorem sl_listK (h : X.K = K) : SlR X (rSlL K) := by subst h; exact sl_list
theorem call_isiK (h : X.K = K) : CallR X (.builtin "isinstance") (rIsi K) := by subst h; exact call_isi
theorem call_lenK (h : X.K = K) : CallR X (.builtin "len") (fun xs H Q => ∃ p ys, xs = [.ref p] ∧ (SqL K H p ys ∨ SqT K H p ys) ∧ Q (.int ys.length) H) := by subst h; exact call_len_seq
theorem call_listK (h : X.K = K) : CallR X (.type "list") (fun xs H Q => ∃ p ys, xs = [.ref p] ∧ (SqL K H p ys ∨ SqT K H p ys) ∧ ∀ l, H l = none → Q (.ref l) (upd H l (.lst ys))) := by subst h; exact call_list_of
theorem cr_sumK (h : X.K = K) (hc : X.calm = true) : CallR X (.builtin "sum") (rSum K) := by subst h; exact cr_sum hc
theorem cr_minK' (h : X.K = K) (hc : X.calm = true) : CallR X (.builtin "min") (rMin K) := by subst h; exact cr_min hc
theorem cr_maxK' (h : X.K = K) (hc : X.calm = true) : CallR X (.builtin "max") (rMax K) := by subst h; exact cr_max hc
end
end Ct
namespace Ct
open PySem L2
theorem look_mu {st : Sto} {n : Nat} {xs : List PyData} (h : st[n]? = some (.mu xs)) : look (.cell n) st = some (.list xs) := by
  simp only [look, h]
theorem fin_same {d : PyData} {st st' : Sto} {Φ : Val → Sto → Prop} (e : st'.length = st.length) (h : Φ (.pd d) st') : Fin st Φ (.pd d) st' := .inl h
/-- three numbers that are drawn from -/
def Pur (st : Sto) (n : Nat) : Prop := ∃ p0 p1 p2 : Int, st[n]? = some (.mu [.int p0, .int p1, .int p2])
structure Only (st st' : Sto) (n : Nat) : Prop where
  len : st'.length = st.length
  at_ : ∀ k, k ≠ n → st'[k]? = st[k]?
theorem Only.refl {st : Sto} {n : Nat} : Only st st n := ⟨rfl, fun _ _ => rfl⟩
theorem Only.trans {a b c : Sto} {n : Nat} (h : Only a b n) (g : Only b c n) : Only a c n := ⟨g.len.trans h.len, fun k hk => (g.at_ k hk).trans (h.at_ k hk)⟩
theorem Only.set {st : Sto} {n : Nat} {c : Cell} : Only st (st.set n c) n := ⟨List.length_set, fun k hk => List.getElem?_set_ne fun e => hk e.symm⟩
theorem get_setSelf {st : Sto} {n : Nat} {c c' : Cell} (h : st[n]? = some c) : (st.set n c')[n]? = some c' := List.getElem?_set_self (List.getElem?_eq_some_iff.mp h).1
theorem Only.pur {a b : Sto} {n k : Nat} (h : Only a b n) (hk : k ≠ n) (p : Pur a k) : Pur b k := by
  obtain ⟨x, y, z, e⟩ := p
  exact ⟨x, y, z, by rw [h.at_ k hk]; exact e⟩
end Ct

/-! CtE: from the head's facts to the law. -/
namespace Ct
open PySem L2 PyProof.Rows
theorem df_mk {K : PySem.W.Frag} {h : Heap} {mg : Str → Option Value} {x : Str} {st : Stmt} {f : Addr} {oc kV doc pm cdv ct : Value} {od an : Option Addr} {osl : Array (Option Value)} (X : K.In h) (G : h.Ns mainGlobals mg)
    (a : PySem.W.nsIn K mainGlobals x = some (some (.ref f))) (l : K.lookup f = some ⟨oc, od, .func (PySem.W.fnOf x x (defArgs st) (defBody st) (defScope st) .none kV doc pm an cdv ct), osl⟩) (c : PySem.W.codeIn K cdv x = true) (k : PySem.W.keepIn K (.ref f) = true) : Df K mg x st :=
  ⟨f, _, fun_mk l c k, PySem.W.mg_of X G a⟩
theorem cst_mk {K : PySem.W.Frag} {h : Heap} {mg : Str → Option Value} {x : Str} {i : Int} {t : Tok} (X : K.In h) (G : h.Ns mainGlobals mg) (a : PySem.W.nsIn K mainGlobals x = some (some (.int i t))) : ∃ t, mg x = some (.int i t) := ⟨t, PySem.W.mg_of X G a⟩
/-- a def with one table -/
structure Gl1 (K : PySem.W.Frag) (h : Heap) (mg : Str → Option Value) (x : Str) (st : Stmt) (c P : Addr) : Prop where
  ex : ∃ (f : Addr) (oc : Value) (od : Option Addr) (kV doc pm : Value) (an : Option Addr) (ct : Value) (osl : Array (Option Value)), K.lookup f = some ⟨oc, od, .func (PySem.W.fnOf x x (defArgs st) (defBody st) (defScope st) .none kV doc pm an (.ref c) ct), osl⟩ ∧
    PySem.W.codeIn K (.ref c) x = true ∧ PySem.W.keepIn K (.ref f) = true ∧ mg x = some (.ref f)
  hd : PySem.W.CodeHd h c P
  tb : h.get? P = some { cls := .none, data := .fields #[] }
  no : K.lookup P = none
theorem gl1_mk {K : PySem.W.Frag} {h : Heap} {mg : Str → Option Value} {x : Str} {st : Stmt} {f c P : Addr} {oc kV doc pm ct : Value} {od an : Option Addr} {osl : Array (Option Value)}
    (X : K.In h) (G : h.Ns mainGlobals mg) (a : PySem.W.nsIn K mainGlobals x = some (some (.ref f))) (l : K.lookup f = some ⟨oc, od, .func (PySem.W.fnOf x x (defArgs st) (defBody st) (defScope st) .none kV doc pm an (.ref c) ct), osl⟩) (cc : PySem.W.codeIn K (.ref c) x = true) (k : PySem.W.keepIn K (.ref f) = true)
    (hd : PySem.W.codeHdIn K c P = true) (tb : h.get? P = some { cls := .none, data := .fields #[] }) (no : K.lookup P = none) : Gl1 K h mg x st c P :=
  ⟨⟨f, oc, od, kV, doc, pm, an, ct, osl, l, cc, k, PySem.W.mg_of X G a⟩, PySem.W.codeHd_of_K X hd, tb, no⟩
theorem Gl1.gath {K : PySem.W.Frag} {h base : Heap} {mg : Str → Option Value} {x : Str} {st : Stmt} {c P : Addr} (g : Gl1 K h mg x st c P) (TB : LamX.TabB base mg c P) : Gath K base mg (tabL [(P, lamQ x)]) x st := by
  obtain ⟨f, oc, od, kV, doc, pm, an, ct, osl, l, cc, k, m⟩ := g.ex
  exact ⟨f, c, P, oc, od, kV, doc, pm, an, ct, osl, l, cc, k, m, TB, tabL_has⟩
/-- the heap at the start, without tables -/
def noTbl (H : Hp) : Hp := fun b => match H b with
  | some (.tbl _) => none
  | x => x
theorem noTbl_of {H : Hp} {b : Addr} {o : HO} (h : H b = some o) (no : ∀ ps, o ≠ .tbl ps) : noTbl H b = some o := by
  unfold noTbl
  rw [h]
  cases o <;> first | rfl | exact absurd rfl (no _)
theorem noTbl_to {H : Hp} {b : Addr} {o : HO} (h : noTbl H b = some o) : H b = some o ∧ ∀ ps, o ≠ .tbl ps := by
  unfold noTbl at h
  cases e : H b with
  | none =>
    rw [e] at h
    cases h
  | some o' =>
    rw [e] at h
    cases o' <;> first | (cases h; exact ⟨rfl, fun ps z => by cases z⟩) | cases h
theorem start_rel {K : PySem.W.Frag} {H : Hp} {P : Addr} {q : Str} (h : H P = some (.tbl #[])) : Rel K (tabL [(P, q)]) (fun _ => 0) (noTbl H) H [] where
  sub := fun b o e => (noTbl_to e).1
  nt := fun b ps e => (noTbl_to e).2 ps rfl
  tab := fun p hp => by
    rw [List.mem_singleton.mp hp]
    exact ⟨#[], h, trivial, fun pos cv e => by cases e⟩
  at_ := fun n c e => by cases n <;> cases e
  inj := fun n m c d e _ _ _ _ => by cases n <;> cases e
theorem start_seq {K : PySem.W.Frag} {H : Hp} {a : Addr} {xs : List V} (h : SqL K H a xs) : SqL K (noTbl H) a xs := by
  rcases h with (h | ⟨o, h⟩) | h
  · exact .inl (.inl (noTbl_of h fun ps z => by cases z))
  · exact .inl (.inr ⟨o, noTbl_of h fun ps z => by cases z⟩)
  · exact .inr h
/-- the script as the law gets it -/
theorem start_sp {K : PySem.W.Frag} {H : Hp} {P a : Addr} {q : Str} {ns : List Int} {p : Pre} (h : H P = some (.tbl #[])) (hs : SqL K H a (ns.map V.int)) (hp : p [.pd (.list (ns.map PyData.int))] [] fun x _ => x = .pd (.bool true)) :
    spP K (tabL [(P, q)]) 1 p [.ref a] H (fun v _ => v = .bl true) fun _ _ _ => False :=
  ⟨fun _ => 0, noTbl H, [], [.pd (.list (ns.map PyData.int))], _, start_rel h, .cons (x := .pd (.list (ns.map PyData.int))) (Dp.lst (start_seq hs) (dps_ints' ns)) .nil, rfl, hp, fun α' F' H' v x st' _ _ hv e => by
    subst e
    exact dp_bl hv⟩
end Ct

/-! CtF: instances of own classes: as cells while they are written, as things that never change behind that. -/
namespace Ct
open PySem L2 PyProof.Rows
def putG {β : Type} (f : Str) (v : β) : List (Str × β) → List (Str × β)
  | [] => [(f, v)]
  | (g, x) :: r => if g = f then (g, v) :: r else (g, x) :: putG f v r
theorem putG_V (f : Str) (v : V) : ∀ fs : List (Str × V), putF f v fs = putG f v fs
  | [] => rfl
  | (g, x) :: r => by
    show (if g = f then _ else (g, x) :: putF f v r) = (if g = f then _ else (g, x) :: putG f v r)
    rw [putG_V f v r]
section
variable {K : PySem.W.Frag} {T : TabI} {α α' : Nat → Addr} {F F' H : Hp} {L L' : Nat} {ss : SS} {st : Sto} {Φ : Val → Sto → Prop} {te ta tv : TE} {P : Po}
theorem FRs.get {f : Str} {x : Val} : ∀ {fs : List (Str × Val)} {vs : List (Str × V)}, FRs K α F L fs vs → fs.lookup f = some x → ∃ v, vs.lookup f = some v ∧ VR K α F L x v
  | _, _, .nil, e => by cases e
  | _, _, .cons (f := g) h t, e => by
    rw [List.lookup_cons] at e ⊢
    cases hb : f == g with
    | true =>
      rw [hb] at e
      cases e
      exact ⟨_, rfl, h⟩
    | false =>
      rw [hb] at e
      exact t.get e
theorem FRs.no {f : Str} : ∀ {fs : List (Str × Val)} {vs : List (Str × V)}, FRs K α F L fs vs → fs.lookup f = none → vs.lookup f = none
  | _, _, .nil, e => rfl
  | _, _, .cons (f := g) h t, e => by
    rw [List.lookup_cons] at e ⊢
    cases hb : f == g with
    | true =>
      rw [hb] at e
      cases e
    | false =>
      rw [hb] at e
      exact t.no e
theorem FRs.put {f : Str} {x : Val} {v : V} (r : VR K α F L x v) : ∀ {fs : List (Str × Val)} {vs : List (Str × V)}, FRs K α F L fs vs → FRs K α F L (putG f x fs) (putG f v vs)
  | _, _, .nil => .cons r .nil
  | _, _, .cons (f := g) (x := y) (v := w) (xs := xs) (vs := ws) h t => by
    show FRs K α F L (if g = f then (g, x) :: xs else (g, y) :: putG f x xs) (if g = f then (g, v) :: ws else (g, w) :: putG f v ws)
    by_cases hg : g = f
    · rw [if_pos hg, if_pos hg]
      exact .cons r t
    · rw [if_neg hg, if_neg hg]
      exact .cons h (t.put r)
theorem FRs.len : ∀ {fs : List (Str × Val)} {vs : List (Str × V)}, FRs K α F L fs vs → fs.length = vs.length
  | _, _, .nil => rfl
  | _, _, .cons _ t => congrArg (· + 1) t.len
theorem nx0 (s : Same F F') : Nx (fun _ => 0) F 0 α F' L := ⟨s, Nat.zero_le _, fun n h => absurd h (Nat.not_lt_zero n)⟩
/-- an instance that never changes -/
def insO (K : PySem.W.Frag) (C : Addr) (fs : List (Str × Val)) : Ob := ⟨fun F v => ∃ a dx vs, v = .ref a ∧ F a = some (.ins C dx vs) ∧ FRs K (fun _ => 0) F 0 fs vs,
  fun s ⟨a, dx, vs, e, h, r⟩ => ⟨a, dx, vs, e, s _ _ h, r.mono (nx0 s)⟩⟩
inductive IsIns (K : PySem.W.Frag) (st : Sto) (C : Addr) (fs : List (Str × Val)) : Val → Prop
  | cell {n : Nat} (h : st[n]? = some (.ins C fs)) : IsIns K st C fs (.cell n)
  | ob : IsIns K st C fs (.ob (insO K C fs))
theorem IsIns.ok {x : Val} {v : V} {C : Addr} {fs : List (Str × Val)} (r : Rel K T α F H st) (hv : VR K α F st.length x v) (h : IsIns K st C fs x) : ∃ a dx vs, v = .ref a ∧ H a = some (.ins C dx vs) ∧ FRs K α F st.length fs vs := by
  cases h with
  | cell h =>
    obtain ⟨_, dx, vs, h2, h3⟩ := r.ins _ _ _ h
    exact ⟨_, dx, vs, hv.2, h2, h3⟩
  | ob =>
    obtain ⟨a, dx, vs, e, h2, h3⟩ := hv
    exact ⟨a, dx, vs, e, r.sub _ _ h2, h3.mono (nx0 (Same.refl F))⟩
theorem we_fld {f : Str} (h : WE K T ta ss st fun x st1 => ∃ C fs y, IsIns K st1 C fs x ∧ Cls K C ∧ NoAttr K C f ∧ fs.lookup f = some y ∧ Φ y st1) : WE K T (tFld K ta f) ss st Φ := fun α F H σ r s Q k =>
  h α F H σ r s _ fun α1 F1 H1 v x st1 n1 r1 v1 ⟨C, fs, y, hi, c, n, l, q⟩ => by
    obtain ⟨a, dx, vs, rfl, h2, h3⟩ := hi.ok r1 v1
    obtain ⟨w, e, hw⟩ := h3.get l
    exact ⟨a, C, dx, vs, w, rfl, h2, c, n, e, k α1 F1 H1 w y st1 n1 r1 hw q⟩
theorem ws_fld {f : Str} (h : WE K T tv ss st fun y st1 => WE K T ta ss st1 fun x st2 => ∃ n C fs, x = .cell n ∧ st2[n]? = some (.ins C fs) ∧ Cls K C ∧ NoAttr K C f ∧ fs.length < 1000 ∧ P.nx ss (st2.set n (.ins C (putG f y fs)))) : WS K T (sFld K ta tv f) ss st P := fun α F H σ r s D o =>
  h α F H σ r s _ fun α1 F1 H1 w y st1 n1 r1 v1 q => q α1 F1 H1 σ r1 (s.mono n1) _ fun α2 F2 H2 v x st2 n2 r2 v2 ⟨n, C, fs, e, hn, c, na, hl, q⟩ => by
    subst e
    obtain ⟨h1, dx, vs, h2, h3⟩ := r2.ins _ _ _ hn
    refine ⟨α2 n, C, dx, vs, v2.2, h2, c, na, by rw [← h3.len]; exact hl, ?_⟩
    have nn := n1.trans n2
    refine o.nx α2 F2 _ σ ss (st2.set n (.ins C (putG f y fs))) (by rw [List.length_set]; exact nn) (r2.writeG hn trivial h2 (fun ps z => by cases z) (fun φ z => by cases z) ⟨h1, dx, _, upd_same, ?_⟩) (by rw [List.length_set]; exact s.mono nn) q
    rw [putG_V]
    exact h3.put (v1.mono n2)
theorem ws_sF {f : Str} {u : TS} (h : WS K T (sFld K ta tv f) ss st { P with nx := fun ss1 st1 => WS K T u ss1 st1 P }) : WS K T (tSeq (sFld K ta tv f) u) ss st P := ws_seq h
theorem we_make {t : TA} {C : Addr} {n : Nat} {p : Pre} {E : XK} (h : WA K T t ss st fun xs st1 => (Val.cell st1.length :: xs).length = n ∧ p (.cell st1.length :: xs) (st1 ++ [.ins C []]) fun v st2 => v = .pd .none ∧ Φ (.cell st1.length) st2) :
    WE K T (tMake C (spP K T n p) [] E t) ss st Φ := fun α F H σ r s Q k => h α F H σ r s _ fun α1 F1 H1 vs xs st1 n1 r1 v1 ⟨hl, hp⟩ x dx hx hdx ne => by
  have g1 : Same H1 (upd H1 dx (.own x)) := same_upd hdx
  have r2 := r1.grow g1 (T.ext g1 r1.tab)
  have hx2 : upd H1 dx (.own x) x = none := by rw [upd_ne ne.symm]; exact hx
  have len : (st1 ++ [Cell.ins C []]).length = st1.length + 1 := by simp
  have r3 := r2.cellG (c := .ins C []) (o := .ins C dx []) hx2 ⟨none_of r2 hx2, dx, [], upd_same, .nil⟩ fun ps z => by cases z
  have nx3 : Nx α1 F1 st1.length (ext α1 st1.length x) F1 (st1 ++ [Cell.ins C []]).length := by rw [len]; exact Nx.ext
  refine ⟨ext α1 st1.length x, F1, _, .cell st1.length :: xs, _, r3, .cons (x := .cell st1.length) ⟨by rw [len]; omega, by rw [ext_same]⟩ (by rw [List.append_nil]; exact v1.mono nx3), hl, hp, fun α2 F2 H2 v y st2 n2 r4 v2 ⟨e, q⟩ => ?_⟩
  subst e
  have n3 := nx3.trans n2
  refine ⟨dp_non v2, k α2 F2 H2 (.ref x) (.cell st1.length) st2 (n1.trans n3) r4 ⟨Nat.lt_of_lt_of_le (by rw [len]; omega) n2.le, ?_⟩ q⟩
  rw [n2.ag _ (by rw [len]; omega), ext_same]
theorem we_meth {t : TA} {C : Addr} {m : Str} {n : Nat} {p : Pre} {E : XK} (h : WE K T ta ss st fun x st1 => ∃ fs, IsIns K st1 C fs x ∧ fs.lookup m = none ∧ WA K T t ss st1 fun xs st2 => (x :: xs).length = n ∧ p (x :: xs) st2 Φ) :
    WE K T (tMeth C m (spP K T n p) [] E ta t) ss st Φ := fun α F H σ r s Q k => h α F H σ r s _ fun α1 F1 H1 v x st1 n1 r1 v1 ⟨fs, hi, l, q⟩ => by
  obtain ⟨a, dx, vs, rfl, h2, h3⟩ := hi.ok r1 v1
  exact ⟨a, dx, vs, rfl, h2, h3.no l, q α1 F1 H1 σ r1 (s.mono n1) _ fun α2 F2 H2 ws xs st2 n2 r2 w2 ⟨hl, hp⟩ => ⟨α2, F2, st2, x :: xs, Φ, r2, .cons (v1.mono n2) (by rw [List.append_nil]; exact w2), hl, hp, fun α3 F3 H3 z y st3 n3 => k α3 F3 H3 z y st3 ((n1.trans n2).trans n3)⟩⟩
/-- what a written instance's attribute becomes -/
def frzV : Val → Sto → Option (Val × Sto)
  | .pd d, st => some (.pd d, st)
  | .ob o, st => some (.ob o, st)
  | .ty n, st => some (.ty n, st)
  | .cell n, st => (pur (.cell n) st).map fun p => (.pd p.1, p.2)
def frzF : List (Str × Val) → Sto → Option (List (Str × Val) × Sto)
  | [], st => some ([], st)
  | (f, x) :: r, st => (frzV x st).bind fun p => (frzF r p.2).bind fun q => some ((f, p.1) :: q.1, q.2)
theorem frzV_ok {x y : Val} {v : V} {st' : Sto} (r : Rel K T α F H st) (hv : VR K α F st.length x v) (e : frzV x st = some (y, st')) : ∃ F', Rel K T α F' H st' ∧ Nx α F st.length α F' st'.length ∧ VR K (fun _ => 0) F' 0 y v := by
  cases x with
  | pd d =>
    cases e
    exact ⟨F, r, Nx.refl, hv⟩
  | ob o =>
    cases e
    exact ⟨F, r, Nx.refl, hv⟩
  | ty n =>
    cases e
    exact ⟨F, r, Nx.refl, hv⟩
  | cell n =>
    unfold frzV at e
    rw [Option.map_eq_some_iff] at e
    obtain ⟨⟨d, st2⟩, e1, e2⟩ := e
    cases e2
    obtain ⟨F', r', n', d'⟩ := pur_ok r hv e1
    exact ⟨F', r', n', d'⟩
theorem frzF_ok : ∀ {fs gs : List (Str × Val)} {vs : List (Str × V)} {F : Hp} {st st' : Sto}, Rel K T α F H st → FRs K α F st.length fs vs → frzF fs st = some (gs, st') → ∃ F', Rel K T α F' H st' ∧ Nx α F st.length α F' st'.length ∧ FRs K (fun _ => 0) F' 0 gs vs
  | [], _, _, F, st, _, r, .nil, e => by
    cases e
    exact ⟨F, r, Nx.refl, .nil⟩
  | (f, x) :: fs, gs, _, F, st, st', r, .cons h t, e => by
    unfold frzF at e
    rw [Option.bind_eq_some_iff] at e
    obtain ⟨⟨y, st1⟩, e1, e⟩ := e
    rw [Option.bind_eq_some_iff] at e
    obtain ⟨⟨hs, st2⟩, e2, e⟩ := e
    cases e
    obtain ⟨F1, r1, n1, d1⟩ := frzV_ok r h e1
    obtain ⟨F2, r2, n2, d2⟩ := frzF_ok r1 (t.mono n1) e2
    exact ⟨F2, r2, n1.trans n2, .cons (d1.mono (nx0 n2.sub)) d2⟩
/-- a written instance becomes one that never changes -/
theorem we_frz (h : WE K T te ss st fun x st1 => ∃ n C fs gs st2, x = .cell n ∧ st1[n]? = some (.ins C fs) ∧ frzF fs st1 = some (gs, st2) ∧ st2[n]? = some (.ins C fs) ∧ Φ (.ob (insO K C gs)) (st2.set n .gone)) : WE K T te ss st Φ := fun α F H σ r s Q k =>
  h α F H σ r s _ fun α1 F1 H1 v x st1 n1 r1 v1 ⟨n, C, fs, gs, st2, e, hn, hf, hn2, q⟩ => by
    subst e
    obtain ⟨_, dx, vs, h2, h3⟩ := r1.ins _ _ _ hn
    obtain ⟨F2, r2, n2, d2⟩ := frzF_ok r1 h3 hf
    have h1 := (r2.ins n _ _ hn2).1
    have sF : Same F2 (upd F2 (α1 n) (.ins C dx vs)) := same_upd h1
    have r3 := r2.freezeG (c := .gone) hn2 trivial h2 (fun ps z => by cases z) (fun z => z) fun F' _ e => ⟨_, e⟩
    refine k α1 _ H1 v (.ob (insO K C gs)) (st2.set n .gone) (n1.trans (n2.trans ⟨sF, by rw [List.length_set]; exact Nat.le_refl _, fun _ _ => rfl⟩)) r3 ⟨α1 n, dx, vs, v1.2, upd_same, d2.mono (nx0 sF)⟩ q
end
end Ct

/-! CtG: functions that capture, outlive their maker and are called as values. -/
namespace Ct
open PySem PySem.Spec PyProof.Rows L2 NdefX
open LamX (CodeO)
/-- a captured cell that is no more written -/
def CellO (o : HO) (w : V) : Prop := ∃ (ob : Obj) (u : Value), o = .frz ob (.own 0) ∧ ob.data = .cell (some u) ∧ L2.RelV w u
/-! ### to lay things aside -/
open Classical in
noncomputable def hide (R : Addr → Prop) (H : Hp) : Hp := fun b => if R b then none else H b
open Classical in
noncomputable def back (R : Addr → Prop) (H H' : Hp) : Hp := fun b => if R b then H b else H' b
theorem hide_no {R : Addr → Prop} {H : Hp} {b : Addr} (h : R b) : hide R H b = none := if_pos h
theorem hide_eq {R : Addr → Prop} {H : Hp} {b : Addr} (h : ¬ R b) : hide R H b = H b := if_neg h
theorem hide_some {R : Addr → Prop} {H : Hp} {b : Addr} {o : HO} (e : hide R H b = some o) : ¬ R b ∧ H b = some o := by
  by_cases h : R b
  · rw [hide_no h] at e
    cases e
  · rw [hide_eq h] at e
    exact ⟨h, e⟩
theorem back_in {R : Addr → Prop} {H H' : Hp} {b : Addr} (h : R b) : back R H H' b = H b := if_pos h
theorem back_out {R : Addr → Prop} {H H' : Hp} {b : Addr} (h : ¬ R b) : back R H H' b = H' b := if_neg h
/-- what may be laid aside -/
structure Aside (R : Addr → Prop) (H : Hp) : Prop where
  on : ∀ b, R b → (∃ xs, H b = some (.lst xs)) ∨ (∃ C dx fs, H b = some (.ins C dx fs) ∧ R dx) ∨ (∃ x, H b = some (.own x) ∧ ∃ C fs, H x = some (.ins C b fs) ∧ R x) ∨ (∃ ob, H b = some (.frz ob (.own 0))) ∨ ∃ ws, H b = some (.dT ws)
theorem Aside.ne {R : Addr → Prop} {H : Hp} (a : Aside R H) {b : Addr} (h : R b) : H b ≠ none := fun z => by
  rcases a.on b h with ⟨_, e⟩ | ⟨_, _, _, e, _⟩ | ⟨_, e, _⟩ | ⟨_, e⟩ | ⟨_, e⟩ <;> rw [z] at e <;> cases e
section
variable {P : Program} {w : World} {R : Addr → Prop} {H H' : Hp} {h h' : Heap}
theorem paired_imp {β γ : Type} {S S' : β → γ → Prop} (h : ∀ a b, S a b → S' a b) : ∀ {xs : List β} {ys : List γ}, Paired S xs ys → Paired S' xs ys
  | _, _, .nil => .nil
  | _, _, .cons a t => .cons (h _ _ a) (paired_imp h t)
/-- an object's truth asks of the rest only where dicts of instances and tuples of keys are -/
theorem objOk_of {b : Addr} (hown : ∀ dx x, H dx = some (.own x) → x = b → H' dx = some (.own x)) (htup : ∀ p xs, H p = some (.tup xs) → H' p = some (.tup xs)) : ∀ {o : HO}, ObjOk P w H h b o → ObjOk P w H' h b o := by
  intro o
  induction o with
  | ins C dx fs => exact fun ⟨e1, r⟩ => ⟨hown dx b e1 rfl, r⟩
  | dT kvs =>
    rintro ⟨h1, h2, xs, hp, r⟩
    refine ⟨h1, h2, xs, ?_, r⟩
    exact paired_imp (fun p q ⟨a1, a2, a3⟩ => ⟨a1, htup _ _ a2, a3⟩) hp
  | frz ob u ih => exact fun ⟨e1, r⟩ => ⟨e1, ih r⟩
  | lst xs => exact id
  | tup xs => exact id
  | dK kvs => exact id
  | set S n => exact id
  | own x => exact id
  | xd fs => exact id
  | met f x => exact id
  | rng lo hi => exact id
  | tbl ps => exact id
  | ext φ => exact id
theorem hide_hok (a : Aside R H) (ok : HOk P w H h) : HOk P w (hide R H) h := fun b o e => by
  obtain ⟨nb, e⟩ := hide_some e
  refine objOk_of (fun dx x e1 ex => ?_) (fun p xs e1 => ?_) (ok b o e)
  · subst ex
    rw [hide_eq]
    · exact e1
    · intro hR
      rcases a.on dx hR with ⟨_, q⟩ | ⟨_, _, _, q, _⟩ | ⟨y, q, _, _, _, hy⟩ | ⟨_, q⟩ | ⟨_, q⟩
      · rw [e1] at q; cases q
      · rw [e1] at q; cases q
      · rw [e1] at q
        cases q
        exact nb hy
      · rw [e1] at q; cases q
      · rw [e1] at q; cases q
  · rw [hide_eq]
    · exact e1
    · intro hR
      rcases a.on p hR with ⟨_, q⟩ | ⟨_, _, _, q, _⟩ | ⟨y, q, _⟩ | ⟨_, q⟩ | ⟨_, q⟩ <;> rw [e1] at q <;> cases q
variable {K : PySem.W.Frag} {mg : Str → Option Value} {base : Heap} {A : Around} {outer : List Env} {s s' : Shared} {Q : VK} {u : Value}
theorem Aside.old (a : Aside R H) (ok : HOk P w H h) {b : Addr} (hR : R b) : ∃ o, h.get? b = some o := by
  rcases a.on b hR with ⟨xs, e⟩ | ⟨C, dx, fs, e, _⟩ | ⟨x, e, _⟩ | ⟨φ, e⟩ | ⟨ws, e⟩
  · obtain ⟨_, its, n, _, g⟩ := ok b _ e
    exact ⟨_, g⟩
  · obtain ⟨_, _, _, g, _⟩ := ok b _ e
    exact ⟨_, g⟩
  · exact ok b _ e
  · exact ⟨_, (ok b _ e).1⟩
  · obtain ⟨_, _, _, _, _, _, _, g, _⟩ := ok b _ e
    exact ⟨_, g⟩
theorem hide_env (e0 : Env0 P w K mg base A outer s H) (a : Aside R H) : Env0 P w K mg base A outer s (hide R H) := by
  have nn : ∀ b, H b = none → hide R H b = none := fun b e => by
    by_cases h : R b
    · exact hide_no h
    · rw [hide_eq h]
      exact e
  exact ⟨e0.frames, e0.mod, fun b o e => ⟨(e0.bs b o e).1, nn b (e0.bs b o e).2⟩, e0.bsz, e0.funs, fun b hb => nn b (e0.frf b hb), hide_hok a e0.hok, e0.bare⟩
theorem back_CE (e0 : Env0 P w K mg base A outer s H) (a : Aside R H) (hc : CE outer P w (hide R H) s (fun v H' => (∀ b, R b → H' b = none) → Q v (back R H H')) u s') : CE outer P w H s Q u s' := by
  obtain ⟨v, H', os, bare, un, hok, rv, q⟩ := hc
  have gone : ∀ b, R b → H' b = none := fun b hR => by
    obtain ⟨o, g⟩ := a.old e0.hok hR
    exact un.free b o g (hide_no hR) (by simp)
  have kept : ∀ b o, R b → s.heap.get? b = some o → s'.heap.get? b = some o := fun b o hR g => un.keep b o g (hide_no hR) (fun hb => a.ne hR (e0.frf b hb)) (by simp)
  have nR : ∀ b, H b = none → ¬ R b := fun b e hR => a.ne hR e
  have hid : ∀ b, H b = none → hide R H b = none := fun b e => by rw [hide_eq (nR b e)]; exact e
  refine ⟨v, back R H H', os, bare, ⟨fun b o g n => un.keep b o g (hid b n), fun b o g n => un.slot b o g (hid b n), fun b o g n nx => ?_, fun b o g nx => un.there b o g nx, fun b xs e => ?_, fun b o x e => ?_, fun b ps e => ?_⟩, fun b o e => ?_, rv, q gone⟩
  · rw [back_out (nR b n)]
    exact un.free b o g (hid b n) nx
  · have nb : ¬ R b := fun hR => by
      rcases a.on b hR with ⟨_, q⟩ | ⟨_, _, _, q, _⟩ | ⟨_, q, _⟩ | ⟨_, q⟩ | ⟨_, q⟩ <;> rw [e] at q <;> cases q
    rw [back_out nb]
    exact un.tups b xs (by rw [hide_eq nb]; exact e)
  · by_cases hR : R b
    · rw [back_in hR]
      exact e
    · rw [back_out hR]
      exact un.frzs b o x (by rw [hide_eq hR]; exact e)
  · have nb : ¬ R b := fun hR => by
      rcases a.on b hR with ⟨_, q⟩ | ⟨_, _, _, q, _⟩ | ⟨_, q, _⟩ | ⟨_, q⟩ | ⟨_, q⟩ <;> rw [e] at q <;> cases q
    rw [back_out nb]
    exact un.tbls b ps (by rw [hide_eq nb]; exact e)
  · by_cases hR : R b
    · rw [back_in hR] at e
      have ob := e0.hok b o e
      rcases a.on b hR with ⟨xs, q⟩ | ⟨C, dx, fs, q, hdx⟩ | ⟨x, q, _⟩ | ⟨φ, q⟩ | ⟨ws, q⟩
      · rw [e] at q
        cases q
        obtain ⟨hl, its, n, vv, g⟩ := ob
        exact ⟨hl, its, n, vv, kept b _ hR g⟩
      · rw [e] at q
        cases q
        obtain ⟨ow, hl, ne, g, mA, hns, r, wi⟩ := ob
        refine ⟨by rw [back_in hdx]; exact ow, hl, ne, kept b _ hR g, mA, ?_, r, wi⟩
        exact hns.at fun o ho => kept dx o hdx ho
      · rw [e] at q
        cases q
        obtain ⟨o2, g⟩ := ob
        exact ⟨o2, kept b _ hR g⟩
      · rw [e] at q
        cases q
        obtain ⟨g, _⟩ := ob
        exact ⟨kept b _ hR g, _, kept b _ hR g⟩
      · rw [e] at q
        cases q
        obtain ⟨z, y, xs, r, o, es, ep, g, c⟩ := ob
        refine ⟨z, y, xs, Paired.mapP r fun p q z => ⟨z.1, ?_, z.2.2⟩, o, es, ep, kept b _ hR g, c⟩
        have nt : ¬ R q.2.1 := fun hq => by
          have z2 := z.2.1
          rcases a.on _ hq with ⟨_, q⟩ | ⟨_, _, _, q, _⟩ | ⟨_, q, _⟩ | ⟨_, q⟩ | ⟨_, q⟩ <;> rw [z2] at q <;> cases q
        rw [back_out nt]
        exact un.tups _ _ (by rw [hide_eq nt]; exact z.2.1)
    · rw [back_out hR] at e
      have up : ∀ p x, H' p = some x → back R H H' p = some x := fun p x e1 => by
        rw [back_out]
        · exact e1
        · intro hp
          rw [gone p hp] at e1
          cases e1
      exact objOk_of (fun dx x e1 _ => up dx _ e1) (fun p xs e1 => up p _ e1) (hok b o e)
/-- with the dicts of the instances -/
def plus (R : Addr → Prop) (H : Hp) : Addr → Prop := fun b => R b ∨ ∃ a C fs, R a ∧ H a = some (.ins C b fs)
def AsideL (R : Addr → Prop) (H : Hp) : Prop := ∀ b, R b → (∃ xs, H b = some (.lst xs)) ∨ (∃ C dx fs, H b = some (.ins C dx fs)) ∨ (∃ ob, H b = some (.frz ob (.own 0))) ∨ ∃ ws, H b = some (.dT ws)
theorem AsideL.own (_a : AsideL R H) (ok : HOk P w H h) : ∀ b, plus R H b → R b ∨ ∃ x, H b = some (.own x) := fun b hb => by
  rcases hb with hb | ⟨x, C, fs, hx, e⟩
  · exact .inl hb
  · exact .inr ⟨x, (ok x _ e).1⟩
theorem AsideL.aside (a : AsideL R H) (ok : HOk P w H h) : Aside (plus R H) H := ⟨fun b hb => by
  rcases hb with hb | ⟨x, C, fs, hx, e⟩
  · rcases a b hb with q | ⟨C, dx, fs, q⟩ | q
    · exact .inl q
    · exact .inr (.inl ⟨C, dx, fs, q, .inr ⟨b, C, fs, hb, q⟩⟩)
    · exact .inr (.inr (.inr q))
  · exact .inr (.inr (.inl ⟨x, (ok x _ e).1, C, fs, e, .inl hx⟩))⟩
theorem AsideL.off (a : AsideL R H) (ok : HOk P w H h) {b : Addr} {φ : Heap → Prop} (hb : ¬ R b) (e : H b = some (.ext φ)) : ¬ plus R H b := fun z => by
  rcases a.own ok b z with z | ⟨x, q⟩
  · exact hb z
  · rw [e] at q
    cases q
/-! ### the call of a value -/
structure CellsOf (R : Addr → Prop) (H : Hp) (cl : List (Str × Addr)) (fr : List Str) (ws : List (Option V)) : Prop where
  len : ws.length = fr.length
  all : ∀ y c, cl.lookup y = some c → R c ∧ ∃ o w, H c = some o ∧ CellO o w
  inj : ∀ x y c, cl.lookup x = some c → cl.lookup y = some c → x = y
  has : ∀ (i : Nat) (y : Str), fr[i]? = some y → ∃ c, cl.lookup y = some c ∧ ∀ v, ws[i]? = some (some v) → ∃ o, H c = some o ∧ CellO o v
theorem CellsOf.at {cl : List (Str × Addr)} {fr : List Str} {ws : List (Option V)} (c : CellsOf R H cl fr ws) (ok : HOk P w H h) : CellsAt cl fr ws h (hide (plus R H) H) := by
  refine ⟨c.len, fun y a e => ?_, c.inj, fun i y e => ?_⟩
  · obtain ⟨hR, o, w, hw, ob, u, rfl, hd, _⟩ := c.all y a e
    exact ⟨hide_no (.inl hR), _, ob, (ok a _ hw).1, hd⟩
  · obtain ⟨a, ha, hv⟩ := c.has i y e
    refine ⟨a, ha, fun v ev => ?_⟩
    obtain ⟨o, hw, ob, u, rfl, hd, r⟩ := hv v ev
    exact ⟨u, r, ob, (ok a _ hw).1, hd⟩
end
/-- tf(..): what tf reads is a function that was made by a def -/
def tCallV (P : Program) (w : World) (K : PySem.W.Frag) (mg : Str → Option Value) (base : Heap) (k : Nat) (tf : TE) (t : TA) : TE := fun σ H Q => tf σ H fun v H1 => ∃ f F, v = .ref f ∧ H1 f = some (FnO f F) ∧
  t σ H1 fun vs H2 => H2 f = some (FnO f F) ∧ H2 F.c = some (CodeO F.c F.qual) ∧ ∃ ps fr sp ws R, NOk P w K mg base CX0 k f F ps fr sp ∧ AsideL R H2 ∧ ¬ R f ∧ ¬ R F.c ∧ CellsOf R H2 F.cl fr ws ∧
    ((∀ b, plus R H2 b → R b ∨ ∃ x, H2 b = some (.own x)) → sp ws vs (hide (plus R H2) H2) (fun v H' => (∀ b, plus R H2 b → H' b = none) → Q v (back (plus R H2) H2 H')) E0)
theorem pe_callV {X : Cx} {k : Nat} {fe e : Expr} {es : List Expr} {pos : Pos} {tf : TE} {t : TA} (hr : Room k X.A) (hf : PE X fe tf) (ha : PA X (e :: es) t)
    (hcall : eval (.Call fe (e :: es) [] pos) X.env = (do callWith pos (← eval fe X.env) [] (backTo pos (starEach (e :: es) X.env)) (backToKw pos (keywordEach [] X.env))) := by rfl)
    (he : starEach (e :: es) X.env = (false, eval e X.env) :: starEach es X.env := by rfl) (hpl : (backTo pos (starEach es X.env)).any (·.1) = false := by rfl) :
    PE X (.Call fe (e :: es) [] pos) (tCallV X.prog X.w X.K X.mg X.base k tf t) := by
  refine ⟨fun pins s σ H Q I h => ?_⟩
  rw [hcall]
  refine wpAny_bind (thn (hf.run pins s σ H _ I h) fun u s1 ⟨v, H1, I1, r1, f, F, ev, hF, q1⟩ => ?_)
  subst ev
  obtain rfl : u = Value.ref f := r1
  refine PySem.W.callWith_F (first := []) (fnAt_of I1 hF) (thn (ha.run pos pins s1 σ H1 _ I1 q1) fun us s2 ⟨vs, H2, I2, r, h1, h2, ps, fr, sp, ws, R, Fn, a, nf, nc, C, q⟩ => ⟨fnAt_of I2 h1, ?_⟩) he hpl
  show wpAny _ _ (call (.ref f) us) _ _ _
  have a' := a.aside I2.hok
  refine wpAny_call (codeAny_mono (Fn.run X.A X.stack s2 (hide (plus R H2) H2) us vs ws _ E0 hr (hide_env I2.env0 a') (by rw [hide_eq (a.off I2.hok nf h1)]; exact h1) (by rw [hide_eq (a.off I2.hok nc h2)]; exact h2) (C.at I2.hok) r (q (a.own I2.hok))) fun r s' hq => ?_)
  cases r with
  | error e => exact False.elim hq
  | ok fl =>
    cases fl with
    | ret u => exact I2.after (back_CE I2.env0 a' hq)
    | next => exact False.elim hq
    | brk => exact False.elim hq
    | cont => exact False.elim hq
end Ct

/-! CtH: functions as values, at the level of values. -/
namespace Ct
open PySem PySem.Spec PyProof.Rows L2 NdefX
open LamX (CodeO)
/-- F' has F but for functions, code objects, captured cells, dicts of instances -/
def SameX (F F' : Hp) : Prop := ∀ b o, F b = some o → (∀ ob, o ≠ .frz ob (.own 0)) → (∀ x, o ≠ .own x) → F' b = some o
section
variable {K : PySem.W.Frag} {F F' : Hp}
theorem SameX.seqL (s : SameX F F') {a : Addr} {xs : List V} (h : SqL K F a xs) : SqL K F' a xs := by
  rcases h with (h | ⟨o, h⟩) | h
  · exact .inl (.inl (s _ _ h (fun φ z => by cases z) fun x z => by cases z))
  · exact .inl (.inr ⟨o, s _ _ h (fun φ z => by cases z) fun x z => by cases z⟩)
  · exact .inr h
theorem SameX.seqT (s : SameX F F') {a : Addr} {xs : List V} (h : SqT K F a xs) : SqT K F' a xs := by
  rcases h with (h | ⟨o, h⟩) | h
  · exact .inl (.inl (s _ _ h (fun φ z => by cases z) fun x z => by cases z))
  · exact .inl (.inr ⟨o, s _ _ h (fun φ z => by cases z) fun x z => by cases z⟩)
  · exact .inr h
mutual
theorem dpx (s : SameX F F') : ∀ {v : V} {d : PyData}, Dp K F v d → Dp K F' v d
  | _, _, .non => .non
  | _, _, .bl b => .bl b
  | _, _, .int i => .int i
  | _, _, .str x => .str x
  | _, _, .lst h t => .lst (s.seqL h) (dpsx s t)
  | _, _, .tup h t => .tup (s.seqT h) (dpsx s t)
theorem dpsx (s : SameX F F') : ∀ {vs : List V} {ds : List PyData}, DpAll K F vs ds → DpAll K F' vs ds
  | _, _, .nil => .nil
  | _, _, .cons h t => .cons (dpx s h) (dpsx s t)
end
end
/-- does not lean on functions -/
def Ob.Plain (o : Ob) : Prop := ∀ (F F' : Hp) (v : V), SameX F F' → o.φ F v → o.φ F' v
def Val.Plain : Val → Prop
  | .pd _ => True
  | .ty _ => True
  | .cell _ => False
  | .ob o => o.Plain
section
variable {K : PySem.W.Frag} {T : TabI} {α α' : Nat → Addr} {F F' H H' : Hp} {L L' : Nat} {ss : SS} {sto : Sto} {Φ : Val → Sto → Prop} {te ta tf : TE} {P : Po}
theorem VR.plain {x : Val} {v : V} (p : x.Plain) (s : SameX F F') (h : VR K α F L x v) : VR K α' F' L' x v := by
  cases x with
  | pd d => exact dpx s h
  | ty n => exact h
  | cell n => exact p.elim
  | ob o => exact p F F' v s h
theorem VRs.plain (s : SameX F F') : ∀ {xs : List Val} {vs : List V}, (∀ x ∈ xs, x.Plain) → VRs K α F L xs vs → VRs K α' F' L' xs vs
  | _, _, _, .nil => .nil
  | _, _, p, .cons h t => .cons (h.plain (p _ (List.mem_cons_self ..)) s) (t.plain s fun x hx => p x (List.mem_cons_of_mem _ hx))
theorem FRs.plain (s : SameX F F') : ∀ {xs : List (Str × Val)} {vs : List (Str × V)}, (∀ x ∈ xs, x.2.Plain) → FRs K α F L xs vs → FRs K α' F' L' xs vs
  | _, _, _, .nil => .nil
  | _, _, p, .cons h t => .cons (h.plain (p _ (List.mem_cons_self ..)) s) (t.plain s fun x hx => p x (List.mem_cons_of_mem _ hx))
theorem insO_plain {C : Addr} {fs : List (Str × Val)} (p : ∀ x ∈ fs, x.2.Plain) : (insO K C fs).Plain := fun F F' v s ⟨a, dx, vs, e, h, r⟩ => ⟨a, dx, vs, e, s _ _ h (fun φ z => by cases z) (fun x z => by cases z), r.plain s p⟩
/-! ### a function that captured -/
def capsR (K : PySem.W.Frag) (F : Hp) (fr : List Str) (cl : List (Str × Addr)) (ws : List Val) : Prop := ∀ (i : Nat) (y : Str), fr[i]? = some y → ∃ a o w x, cl.lookup y = some a ∧ ws[i]? = some x ∧ F a = some o ∧ CellO o w ∧ VR K (fun _ => 0) F 0 x w
/-- a function made by the def st, what it captured told -/
def cloO (K : PySem.W.Frag) (st : Stmt) (name qual : Str) (fr : List Str) (ws : List Val) : Ob := ⟨fun F v => ∃ (f : Addr) (cl : List (Str × Addr)) (c : Addr), v = .ref f ∧ F f = some (FnO f (NF.of st name qual cl c)) ∧ F c = some (CodeO c qual) ∧ ws.length = fr.length ∧
    (∀ y a, cl.lookup y = some a → y ∈ fr) ∧ (∀ x y a, cl.lookup x = some a → cl.lookup y = some a → x = y) ∧ ((∀ y, cl.lookup y ≠ some f) ∧ ∀ y, cl.lookup y ≠ some c) ∧ capsR K F fr cl ws,
  fun s ⟨f, cl, c, e, h1, h2, hl, h3, h4, h5, h6⟩ => ⟨f, cl, c, e, s _ _ h1, s _ _ h2, hl, h3, h4, h5, fun i y hi => let ⟨a, o, w, x, e1, e2, e3, e5, e4⟩ := h6 i y hi; ⟨a, o, w, x, e1, e2, s _ _ e3, e5, e4.mono (nx0 s)⟩⟩⟩
/-- a nested def's promise: of its arguments and of what it captured -/
def spN (K : PySem.W.Frag) (T : TabI) (n m : Nat) (p : Pre) : List (Option V) → Sp := fun ws vs H Q _ => ∃ α F xs ys wvs Φ, Rel K T α F H [] ∧ VRs K α F 0 xs vs ∧ VRs K α F 0 ys wvs ∧ ws = wvs.map some ∧ xs.length = n ∧ ys.length = m ∧ p (xs ++ ys) [] Φ ∧
  ∀ (α' : Nat → Addr) (F' H' : Hp) (v : V) (x : Val) (st' : Sto), Nx α F 0 α' F' st'.length → Rel K T α' F' H' st' → VR K α' F' st'.length x v → Φ x st' → Q v H'
theorem spN_len {n m : Nat} {p : Pre} {ws : List (Option V)} {vs : List V} {Q : VK} {E : XK} (h : spN K T n m p ws vs H Q E) : vs.length = n := by
  obtain ⟨α, F, xs, ys, wvs, Φ, r, v, w, e, h1, h2, hp, k⟩ := h
  rw [← v.len, h1]
theorem fn_runN {N : List Str} {n m : Nat} {p : Pre} {t : TS} {ws : List (Option V)} {vs : List V} {Q : VK} {E : XK} (h : spN K T n m p ws vs H Q E) (hw : ∀ (xs : List Val) (Φ : Val → Sto → Prop), xs.length = n + m → p xs [] Φ → WS K T t (startS N xs) [] (PoF [] Φ)) :
    t { nx := fun _ H' => Q .non H', rt := Q } (startF N vs ws) H := by
  obtain ⟨α, F, xs, ys, wvs, Φ, r, v, w, rfl, h1, h2, hp, k⟩ := h
  have e : startF N vs (wvs.map some) = L2.start N (vs ++ wvs) := by
    unfold startF L2.start
    rw [List.map_append, List.append_assoc, List.length_append, List.length_map, Nat.sub_sub]
  rw [e]
  exact fn_at (st := []) r (v.app w) (hw (xs ++ ys) Φ (by rw [List.length_append, h1, h2]) hp) k
/-- all that a call of a function lays aside: the cells that it captured, the caller's own cells -/
def asideC (cl : List (Str × Addr)) (α : Nat → Addr) (sto : Sto) : Addr → Prop := fun b => (∃ y, cl.lookup y = some b) ∨ ∃ n c, sto[n]? = some c ∧ c.live ∧ b = α n
theorem we_callX {P : Program} {w : World} {mg : Str → Option Value} {base : Heap} {k : Nat} {t : TA}
    (h : WE K T tf ss sto fun x st1 => ∃ (n m : Nat) (st : Stmt) (name qual : Str) (fr ps : List Str) (p : Pre) (ws : List Val), (∀ (f : Addr) (cl : List (Str × Addr)) (c : Addr), NOk P w K mg base CX0 k f (NF.of st name qual cl c) ps fr (spN K T n m p)) ∧ fr.length = m ∧
      x = .ob (cloO K st name qual fr ws) ∧ (∀ x ∈ ws, x.Plain) ∧ WA K T t ss st1 fun xs st2 => (∀ x ∈ xs, x.Plain) ∧ xs.length = n ∧ p (xs ++ ws) [] fun y _ => y.Plain ∧ Φ y st2) :
    WE K T (tCallV P w K mg base k tf t) ss sto Φ := fun α F H σ r s Q kk => h α F H σ r s _ fun α1 F1 H1 v x st1 n1 r1 v1 ⟨n, m, st, name, qual, fr, ps, p, ws, nok, hm, ex, hws, q⟩ => by
  subst ex
  obtain ⟨f, cl, c, rfl, f1, c1, hl, hin, hinj, ⟨nf, nc⟩, hcap⟩ := v1
  refine ⟨f, _, rfl, r1.sub _ _ f1, q α1 F1 H1 σ r1 (s.mono n1) _ fun α2 F2 H2 vs xs st2 n2 r2 w2 ⟨hxs, hn, hp⟩ => ?_⟩
  have f2 := n2.sub _ _ f1
  have c2 := n2.sub _ _ c1
  have live : ∀ j x, st2[j]? = some x → x.live → F2 (α2 j) = none := fun j x e l => (r2.at_ j x e).off l
  have hcap2 : capsR K F2 fr cl ws := fun i y hi => let ⟨a, o, w, x, e1, e2, e3, e5, e4⟩ := hcap i y hi; ⟨a, o, w, x, e1, e2, n2.sub _ _ e3, e5, e4.mono (nx0 n2.sub)⟩
  have cellF : ∀ y a, cl.lookup y = some a → ∃ o w, F2 a = some o ∧ CellO o w := fun y a e => by
    obtain ⟨i, hi⟩ := List.mem_iff_getElem?.mp (hin y a e)
    obtain ⟨a', o, w, x, e1, _, e3, e5, _⟩ := hcap2 i y hi
    rw [e] at e1
    cases e1
    exact ⟨o, w, e3, e5⟩
  have notL : ∀ b o, F2 b = some o → ¬ ∃ j x, st2[j]? = some x ∧ x.live ∧ b = α2 j := fun b o e ⟨j, x, e1, l, eb⟩ => by
    rw [eb, live j x e1 l] at e
    cases e
  -- what the captured cells hold
  obtain ⟨wvs, hwv⟩ : ∃ wvs : List V, VRs K (fun _ => 0) F2 0 ws wvs ∧ ∀ (i : Nat) (y : Str), fr[i]? = some y → ∃ a o v, cl.lookup y = some a ∧ wvs[i]? = some v ∧ F2 a = some o ∧ CellO o v := by
    clear hws hp q h nok hin hinj nf nc cellF
    have key : ∀ (fr : List Str) (ws : List Val), ws.length = fr.length → capsR K F2 fr cl ws → ∃ wvs : List V, VRs K (fun _ => 0) F2 0 ws wvs ∧ ∀ (i : Nat) (y : Str), fr[i]? = some y → ∃ a o v, cl.lookup y = some a ∧ wvs[i]? = some v ∧ F2 a = some o ∧ CellO o v := by
      intro fr
      induction fr with
      | nil =>
        intro ws hl _
        have : ws = [] := List.eq_nil_of_length_eq_zero hl
        subst this
        exact ⟨[], .nil, fun i y e => by simp at e⟩
      | cons y0 fr ih =>
        intro ws hl hc
        cases ws with
        | nil => simp at hl
        | cons x0 ws =>
          obtain ⟨a, o, w, x, e1, e2, e3, e5, e4⟩ := hc 0 y0 rfl
          cases e2
          obtain ⟨wvs, h1, h2⟩ := ih ws (by simpa using hl) fun i y hi => hc (i + 1) y hi
          refine ⟨w :: wvs, .cons e4 h1, fun i y hi => ?_⟩
          cases i with
          | zero =>
            cases hi
            exact ⟨a, o, w, e1, rfl, e3, e5⟩
          | succ i => exact h2 i y hi
    exact key fr ws hl hcap2
  obtain ⟨wv1, wv2⟩ := hwv
  let R := asideC cl α2 st2
  have hAs : AsideL R H2 := by
    rintro b (⟨y, e⟩ | ⟨j, x, e, l, rfl⟩)
    · obtain ⟨o, w, hw, ob, u, rfl, _⟩ := cellF y b e
      exact .inr (.inr (.inl ⟨ob, r2.sub _ _ hw⟩))
    · have := r2.at_ j x e
      cases x with
      | mu xs => exact .inl ⟨_, this.2.choose_spec.1⟩
      | fr xs => cases l
      | ml xs => exact .inl ⟨_, this.2.choose_spec.1⟩
      | ins C fs => exact .inr (.inl ⟨_, _, _, this.2.choose_spec.choose_spec.1⟩)
      | gone => cases l
      | pin vs xs => exact .inl ⟨_, this.2.1⟩
      | dt kvs => exact .inr (.inr (.inr ⟨_, this.2.choose_spec.1⟩))
  refine ⟨r2.sub _ _ f2, r2.sub _ _ c2, ps, fr, spN K T n m p, wvs.map some, R, nok f cl c, ?_, ?_, ?_, ?_, fun own => ?_⟩
  · exact hAs
  · rintro (⟨y, e⟩ | z)
    · exact nf y e
    · exact notL _ _ f2 z
  · rintro (⟨y, e⟩ | z)
    · exact nc y e
    · exact notL _ _ c2 z
  · refine ⟨by rw [List.length_map, ← wv1.len]; exact hl, fun y a e => ⟨.inl ⟨y, e⟩, let ⟨o, w, hw, hc⟩ := cellF y a e; ⟨o, w, r2.sub _ _ hw, hc⟩⟩, hinj, fun i y hi => ?_⟩
    obtain ⟨a, o, v, e1, e2, e3, e5⟩ := wv2 i y hi
    refine ⟨a, e1, fun v' ev => ?_⟩
    rw [List.getElem?_map, e2] at ev
    cases ev
    exact ⟨o, r2.sub _ _ e3, e5⟩
  · -- the call, all else laid aside
    let R' := plus R H2
    have inR : ∀ b o, R' b → F2 b = some o → (∃ ob, o = .frz ob (.own 0)) ∨ ∃ x, o = .own x := fun b o hb e => by
      rcases own b hb with hb | ⟨x, q⟩
      · rcases hb with ⟨y, e1⟩ | z
        · obtain ⟨o', w, hw, ob, u, eo, _⟩ := cellF y b e1
          rw [e] at hw
          cases hw
          exact .inl ⟨ob, eo⟩
        · exact absurd z (notL _ _ e)
      · rw [r2.sub _ _ e] at q
        cases q
        exact .inr ⟨x, rfl⟩
    have sx : SameX F2 (hide R' F2) := fun b o e ne no => by
      rw [hide_eq]
      · exact e
      · intro hb
        rcases inR b o hb e with ⟨φ, z⟩ | ⟨x, z⟩
        · exact ne φ z
        · exact no x z
    have r0 : Rel K T α2 (hide R' F2) (hide R' H2) [] := by
      refine ⟨fun b o e => ?_, fun b ps e => ?_, ?_, fun n c e => by simp at e, fun n m c d e => by simp at e⟩
      · obtain ⟨nb, e⟩ := hide_some e
        rw [hide_eq nb]
        exact r2.sub _ _ e
      · exact r2.nt b ps (hide_some e).2
      · refine T.less (fun b o e hx => ?_) r2.tab
        rw [hide_eq]
        · exact e
        · intro hb
          have k : (∃ xs, o = .lst xs) ∨ (∃ C dx fs, o = .ins C dx fs) ∨ (∃ ob, o = .frz ob (.own 0)) ∨ (∃ x, o = .own x) ∨ ∃ ws, o = .dT ws := by
            rcases own b hb with hb | ⟨x, q⟩
            · rcases hAs b hb with ⟨xs, q⟩ | ⟨C, dx, fs, q⟩ | ⟨ob, q⟩ | ⟨ws, q⟩ <;> rw [e] at q <;> cases q
              · exact .inl ⟨_, rfl⟩
              · exact .inr (.inl ⟨_, _, _, rfl⟩)
              · exact .inr (.inr (.inl ⟨_, rfl⟩))
              · exact .inr (.inr (.inr (.inr ⟨_, rfl⟩)))
            · rw [e] at q
              cases q
              exact .inr (.inr (.inr (.inl ⟨_, rfl⟩)))
          rcases hx with ⟨ps, rfl⟩ | ⟨φ, rfl⟩ <;> rcases k with ⟨_, z⟩ | ⟨_, _, _, z⟩ | ⟨_, z⟩ | ⟨_, z⟩ | ⟨_, z⟩ <;> cases z
    refine ⟨α2, hide R' F2, xs, ws, wvs, _, r0, w2.plain sx hxs, wv1.plain sx hws, rfl, hn, by rw [hl, hm], hp, fun α3 F3 H3 v3 y st3 n3 r3 v3' ⟨hy, hq⟩ gone => ?_⟩
    have fgone : ∀ b o, F3 b = some o → ¬ R' b := fun b o e hb => by
      have := r3.sub _ _ e
      rw [gone b hb] at this
      cases this
    have up : Same F3 (back R' F2 F3) := fun b o e => by
      rw [back_out (fgone b o e)]
      exact e
    have dn : Same F2 (back R' F2 F3) := fun b o e => by
      by_cases hb : R' b
      · rw [back_in hb]
        exact e
      · rw [back_out hb]
        exact n3.sub _ _ (by rw [hide_eq hb]; exact e)
    have inL : ∀ j x, st2[j]? = some x → x.live → R' (α2 j) := fun j x e l => .inl (.inr ⟨j, x, e, l, rfl⟩)
    have nn : Nx α2 F2 st2.length α2 (back R' F2 F3) st2.length := ⟨dn, Nat.le_refl _, fun _ _ => rfl⟩
    have r4 : Rel K T α2 (back R' F2 F3) (back R' H2 H3) st2 := by
      refine ⟨fun b o e => ?_, fun b ps e => ?_, T.ext (fun b o e => ?_) r3.tab, fun j x e => (r2.at_ j x e).move nn (fun l z => ?_) fun l o _ z => ?_, r2.inj⟩
      · by_cases hb : R' b
        · rw [back_in hb] at e ⊢
          exact r2.sub _ _ e
        · rw [back_out hb] at e ⊢
          exact r3.sub _ _ e
      · by_cases hb : R' b
        · rw [back_in hb] at e
          exact r2.nt b ps e
        · rw [back_out hb] at e
          exact r3.nt b ps e
      · have hb : ¬ R' b := fun hb => by
          rw [gone b hb] at e
          cases e
        rw [back_out hb]
        exact e
      · rw [back_in (inL j x e l)]
        exact z
      · rw [back_in (inL j x e l)]
        exact z
    exact kk α2 (back R' F2 F3) (back R' H2 H3) v3 y st2 ((n1.trans n2).trans nn) r4 (v3'.plain hy fun b o e _ _ => up b o e) hq
theorem we_callV {P : Program} {w : World} {mg : Str → Option Value} {base : Heap} {k n m : Nat} {t : TA} {st : Stmt} {name qual : Str} {fr ps : List Str} {p : Pre}
    (nok : ∀ (f : Addr) (cl : List (Str × Addr)) (c : Addr), NOk P w K mg base CX0 k f (NF.of st name qual cl c) ps fr (spN K T n m p)) (hm : fr.length = m)
    (h : WE K T tf ss sto fun x st1 => ∃ ws, x = .ob (cloO K st name qual fr ws) ∧ (∀ x ∈ ws, x.Plain) ∧ WA K T t ss st1 fun xs st2 => (∀ x ∈ xs, x.Plain) ∧ xs.length = n ∧ p (xs ++ ws) [] fun y _ => y.Plain ∧ Φ y st2) :
    WE K T (tCallV P w K mg base k tf t) ss sto Φ := we_callX (we_mono h fun x st1 ⟨ws, q⟩ => ⟨n, m, st, name, qual, fr, ps, p, ws, nok, hm, q⟩)
end
end Ct

/-! CtI: a def that makes functions and gives them back: its end, at which what they captured is told. -/
namespace Ct
open PySem PySem.Spec PyProof.Rows L2 NdefX
open LamX (CodeO)
/-- a body that ends with a return: what is returned, with the slots of that moment -/
structure PSC (X : Cx) (body : List Stmt) (t : (V → L2.St → Hp → Prop) → L2.St → Hp → Prop) : Prop where
  run : ∀ (pins : List (Addr × Obj)) (s : Shared) (σ : L2.St) (H : Hp) (R : V → L2.St → Hp → Prop), Inv X pins σ H s → t R σ H → wpAny (model X.prog X.w) X.A (execs body X.env) (fun fl s' => ∃ v σ' H' u, fl = .ret u ∧ Inv X pins σ' H' s' ∧ L2.RelV v u ∧ R v σ' H') X.xe s
section
variable {X : Cx}
theorem psc_ret {e : Expr} {te : TE} {pos : Pos} (he : PE X e te) : PSC X [.Return (some e) pos] fun R σ H => te σ H fun v H1 => R v σ H1 := by
  refine ⟨fun pins s σ H R I h => ?_⟩
  refine wpAny_execs_cons (wpAny_Return_some (thn (he.run pins s σ H _ I h) fun u s1 ⟨v, H1, I1, r1, q1⟩ => ?_))
  exact ⟨v, σ, H1, u, rfl, I1, r1, q1⟩
theorem psc_cons {st : Stmt} {rest : List Stmt} {t : TS} {u : (V → L2.St → Hp → Prop) → L2.St → Hp → Prop} (h1 : PS X st t) (h2 : PSC X rest u) :
    PSC X (st :: rest) fun R σ H => t { nx := fun σ1 H1 => u R σ1 H1, rt := fun _ _ => False, bk := fun _ _ => False, ct := fun _ _ => False } σ H := by
  refine ⟨fun pins s σ H R I h => ?_⟩
  refine wpAny_execs_cons (thn (h1.run pins s σ H _ I h) fun f s1 q => ?_)
  cases f with
  | next =>
    obtain ⟨σ', H', I', q⟩ := q
    exact h2.run pins s1 σ' H' R I' q
  | ret v =>
    obtain ⟨_, _, _, _, _, q⟩ := q
    exact q.elim
  | brk =>
    obtain ⟨_, _, _, q⟩ := q
    exact q.elim
  | cont =>
    obtain ⟨_, _, _, q⟩ := q
    exact q.elim
end
/-- what the captured cells of the frame hold is told from now on -/
structure Told (cells : List (Str × Addr)) (N : List Str) (sc : Scope) (σ : L2.St) (H1 H2 : Hp) : Prop where
  inj : ∀ x y c, cells.lookup x = some c → cells.lookup y = some c → x = y
  has : ∀ x, sc.names.lookup x = some .cell → ∃ c, cells.lookup x = some c
  free : ∀ x c, cells.lookup x = some c → H1 c = none
  same : Same H1 H2
  at_ : ∀ (i : Nat) (x : Str) (c : Addr) (w : V), N[i]? = some x → sc.names.lookup x = some .cell → cells.lookup x = some c → σ[i]? = some (some w) → ∃ o, H2 c = some o ∧ CellO o w
  new : ∀ b o, H2 b = some o → H1 b = some o ∨ (H1 b = none ∧ (∃ x, cells.lookup x = some b) ∧ ∃ ob, o = .frz ob (.own 0))
theorem PSC.nox {X : Cx} {body : List Stmt} {t : (V → L2.St → Hp → Prop) → L2.St → Hp → Prop} (h : PSC X.nox body t) : PSC X body t := ⟨fun pins s σ H R I hw =>
  wpAny_mono (h.run pins s σ H R (I.wish _) hw) (fun _ _ ⟨v, σ', H', u, e, I', r, q⟩ => ⟨v, σ', H', u, e, I'.unwish, r, q⟩) fun _ _ z => False.elim z⟩
open Classical in
/-- the rule for a def that gives back functions -/
theorem fn_ofC {CX : CXT} {P : Program} {w : World} {K : PySem.W.Frag} {mg : Str → Option Value} {base : Heap} {k : Nat} {f : Addr} {name qual : Str} {params : Arguments} {body : List Stmt} {scope : Scope} {dV kV doc pm cdv ct oc : Value} {an od : Option Addr}
    {osl : Array (Option Value)} {N ps : List Str} {sp : Sp} (lk : K.lookup f = some ⟨oc, od, .func (PySem.W.fnOf name qual params body scope dV kV doc pm an cdv ct), osl⟩) (hcd : PySem.W.codeIn K cdv qual = true) (S : FnScope N ps scope)
    (len : ∀ vs H Q E, sp vs H Q E → vs.length = ps.length)
    (hbody : ∀ (A : Around) (outer : List Env) (s : Shared) (H : Hp) (vs : List V) (Q : VK) (E : XK), Room k (A.deeper (envOfC qual scope s.heap.objs.size f cdv)) → sp vs H Q E →
      ∃ t, PSC (cxOf CX P w K mg base N qual scope f cdv A outer s H E).nox body t ∧ t (fun v σ H1 => ∀ H2, Told (envOfC qual scope s.heap.objs.size f cdv).cells N scope σ H1 H2 → Q v H2) (L2.start N vs) H) :
    FnOk P w K mg base CX (k + 1) f (PySem.W.fnOf name qual params body scope dV kV doc pm an cdv ct) ps sp := by
  refine ⟨len, fun A outer s H args us vs Q E hr e0 hb r hsp => ?_⟩
  have hl := len _ _ _ _ hsp
  have KX : K.In s.heap := e0.mod.kin.keeps fun b o e => (e0.bs b o e).1
  have lim : s.heap.NoLimit := e0.mod.nolimit.keeps fun b o e => (e0.bs b o e).1
  have hkind : ∀ y ∈ ps.zip us, scope.names.lookup y.1 = some .local ∨ (scope.names.lookup y.1 = some .cell ∧ ((cellsFrom (s.heap.objs.size + 1) scope.names []).lookup y.1).isSome = true) := fun ⟨n, v⟩ hy => by
    rcases S.par n (List.of_mem_zip hy).1 with q | q
    · exact .inl q
    · exact .inr ⟨q, PySem.W.cellsFrom_some _ _ _ (.inl q)⟩
  refine codeAny_call_function hr.depth (KX _ _ lk) rfl S.co S.gen rfl (PySem.W.codeRec_of KX hcd) (hb _ _ _ _ ?_)
  refine wpAny_newFunctionEnv_cells S.kind hkind fun env he s1 x => ?_
  subst he
  refine ⟨lim.keeps x.toInCall.keep, codeAny_func ?_⟩
  obtain ⟨t, ht, hq⟩ := hbody A outer s H vs Q E (hr.deeper _) hsp
  have I : Inv (cxOf CX P w K mg base N qual scope f cdv A outer s H E) [] (L2.start N vs) H s1 := inv_start S hr.hd e0 hl r x
  refine wpAny_mono (ht.nox.run [] s1 (L2.start N vs) H _ I hq) (fun fl s' hs => ?_) fun e s' hs => hs
  obtain ⟨v, σ', H', u, rfl, J, rv, q⟩ := hs
  -- what is told at the end
  let cells := (envOfC qual scope s.heap.objs.size f cdv).cells
  let val : Addr → Prop := fun b => ∃ (i : Nat) (x : Str) (w : V), N[i]? = some x ∧ scope.names.lookup x = some .cell ∧ cells.lookup x = some b ∧ σ'[i]? = some (some w)
  let H2 : Hp := fun b => if val b then (s'.heap.get? b).map fun ob => HO.frz ob (.own 0) else H' b
  have off : ∀ b, val b → H' b = none := fun b ⟨i, x, w, e1, e2, e3, e4⟩ => J.freeC x b e3
  have in_ : ∀ b, val b → H2 b = (s'.heap.get? b).map fun ob => HO.frz ob (.own 0) := fun b h => if_pos h
  have out : ∀ b, ¬ val b → H2 b = H' b := fun b h => if_neg h
  have same : Same H' H2 := fun b o e => by
    rw [out b fun h => by rw [off b h] at e; cases e]
    exact e
  have told : Told cells N scope σ' H' H2 := by
    refine ⟨J.ok.inj, fun x h => J.ok.has x (.inl h), J.freeC, same, fun i x c w e1 e2 e3 e4 => ?_, fun b o e => ?_⟩
    · have hv : val c := ⟨i, x, w, e1, e2, e3, e4⟩
      obtain ⟨m, hn, hl⟩ := J.loc
      obtain ⟨u2, r2, l⟩ := hl i x w e1 e4 (.inr (.inl e2))
      rcases l with ⟨z, _⟩ | ⟨_, c', hc', ob, ho, hd⟩
      · have z' : scope.names.lookup x = some .local := z
        rw [e2] at z'
        cases z'
      · have e3' : cells.lookup x = some c' := hc'
        rw [e3] at e3'
        cases e3'
        exact ⟨.frz ob (.own 0), by rw [in_ c hv, ho]; rfl, ob, u2, rfl, hd, r2⟩
    · by_cases h : val b
      · rw [in_ b h, Option.map_eq_some_iff] at e
        obtain ⟨ob, _, rfl⟩ := e
        obtain ⟨i, x, w, e1, e2, e3, e4⟩ := h
        exact .inr ⟨J.freeC x b e3, ⟨x, e3⟩, ob, rfl⟩
      · rw [out b h] at e
        exact .inl e
  have young : ∀ b, val b → s.heap.objs.size ≤ b := fun b ⟨i, x, w, e1, e2, e3, e4⟩ => J.ok.cab x b rfl e3
  have nv : ∀ b o, s.heap.get? b = some o → ¬ val b := fun b o e h => absurd (Heap.lt_size e) (Nat.not_lt.mpr (young b h))
  have nvH : ∀ b o, H b = some o → ¬ val b := fun b o e h => absurd ((e0.hok b o e).lt) (Nat.not_lt.mpr (young b h))
  refine ⟨v, H2, J.os, J.bare, ?_, fun b o e => ?_, rv, q H2 told⟩
  · have un := J.base
    refine ⟨un.keep, un.slot, fun b o g n nx => ?_, un.there, fun b xs e => ?_, fun b o x e => ?_, fun b ps e => ?_⟩
    · rw [out b (nv b o g)]
      exact un.free b o g n nx
    · exact same _ _ (un.tups b xs e)
    · exact same _ _ (un.frzs b o x e)
    · obtain ⟨more, z⟩ := un.tbls b ps e
      exact ⟨more, same _ _ z⟩
  · by_cases h : val b
    · rw [in_ b h, Option.map_eq_some_iff] at e
      obtain ⟨ob, ho, rfl⟩ := e
      exact ⟨ho, ob, ho⟩
    · rw [out b h] at e
      exact objOk_of (fun dx x e1 _ => same _ _ e1) (fun p xs e1 => same _ _ e1) (J.hok b o e)
end Ct

/-! CtJ: nested defs and the end of their maker, at the level of values. -/
namespace Ct
open PySem PySem.Spec PyProof.Rows L2 NdefX
open LamX (CodeO)
def tabN (T : List NTab) : TabI := ⟨TabsN T, fun s t p hp => (t p hp).ext s, fun {H p u o} h nt nx t q hq => by
  obtain ⟨ps, h1, h2, h3⟩ := t q hq
  refine ⟨ps, ?_, h2, fun pos cv hc => ?_⟩
  · rw [upd_ne (ne_of h1 h (fun z => nt ps z.symm))]
    exact h1
  · obtain ⟨c, e1, e2⟩ := h3 pos cv hc
    refine ⟨c, e1, ?_⟩
    rw [upd_ne (ne_of e2 h (fun z => by unfold LamX.CodeO at z; exact nx _ z.symm))]
    exact e2, fun k t q hq => by
  obtain ⟨ps, h1, h2, h3⟩ := t q hq
  exact ⟨ps, k _ _ h1 (.inl ⟨_, rfl⟩), h2, fun pos cv hc => let ⟨c, e1, e2⟩ := h3 pos cv hc; ⟨c, e1, k _ _ e2 (.inr ⟨_, rfl⟩)⟩⟩⟩
/-- a function whose captured cells are not yet told -/
def preO (mk : Addr → NF) : Ob := ⟨fun F v => ∃ (f c' : Addr), v = .ref f ∧ F f = some (FnO f (mk c')) ∧ F c' = some (CodeO c' (mk c').qual), fun s ⟨f, c', e, h1, h2⟩ => ⟨f, c', e, s _ _ h1, s _ _ h2⟩⟩
theorem cloFrom_in (cells : List (Str × Addr)) {y : Str} {a : Addr} : ∀ (names : List (Str × NameKind)) (acc : List (Str × Addr)), (cloFrom cells names acc).lookup y = some a → acc.lookup y = some a ∨ (y, NameKind.free) ∈ names
  | [], acc, h => .inl h
  | (n, k) :: r, acc, h => by
    unfold cloFrom at h
    by_cases hk : (k == .free) = true
    · rw [if_pos hk] at h
      rcases cloFrom_in cells r _ h with h | h
      · rw [List.lookup_cons] at h
        cases hb : y == n with
        | true =>
          have : y = n := beq_iff_eq.mp hb
          have hk : k = .free := beq_iff_eq.mp hk
          subst this
          subst hk
          exact .inr (List.mem_cons_self ..)
        | false =>
          rw [hb] at h
          exact .inl h
      · exact .inr (List.mem_cons_of_mem _ h)
    · rw [if_neg hk] at h
      exact (cloFrom_in cells r acc h).imp id (List.mem_cons_of_mem _)
section
variable {K : PySem.W.Frag} {T : TabI} {TN : List NTab} {α α' : Nat → Addr} {F F' H H' : Hp} {L L' : Nat} {ss : SS} {sto : Sto} {Φ : Val → Sto → Prop} {te ta tf : TE} {P : Po}
theorem ws_ndef {i : Nat} {mk : Addr → NF} (h : P.nx (ss.set i (some (.ob (preO mk)))) sto) : WS K (tabN TN) (tNdefM TN i mk) ss sto P := fun α F H σ r s D o => by
  refine ⟨r.tab, fun f c' H1 eN nn T1 hf h1 h2 => ?_⟩
  have Ff : F f = none := r.sub.free hf
  let F1 : Hp := fun b => if b = f then some (FnO f (mk c')) else if b = c' then some (CodeO c' (mk c').qual) else F b
  have at_f : F1 f = some (FnO f (mk c')) := if_pos rfl
  have keepH : ∀ b x, H b = some x → (∀ ps, x ≠ .tbl ps) → H1 b = some x := fun b x e no => eN b x e no
  have up : Same F F1 := fun b x e => by
    have hb : b ≠ f := fun z => by rw [z, Ff] at e; cases e
    show (if b = f then _ else _) = _
    rw [if_neg hb]
    by_cases hc : b = c'
    · rw [if_pos hc]
      have := keepH b x (r.sub _ _ e) fun ps z => r.nt b ps (by rw [e, z])
      rw [hc, h2] at this
      exact this
    · rw [if_neg hc]
      exact e
  have at_c : F1 c' = some (CodeO c' (mk c').qual) := by
    show (if c' = f then _ else if c' = c' then _ else _) = _
    by_cases hc : c' = f
    · rw [if_pos hc]
      rw [hc] at h2 ⊢
      rw [h1] at h2
      rw [← hc] at h2 ⊢
      exact h2
    · rw [if_neg hc, if_pos rfl]
  have sub1 : Same F1 H1 := fun b x e => by
    have e : (if b = f then some (FnO f (mk c')) else if b = c' then some (CodeO c' (mk c').qual) else F b) = some x := e
    by_cases hb : b = f
    · rw [if_pos hb] at e
      rw [hb, h1]
      exact e
    · rw [if_neg hb] at e
      by_cases hc : b = c'
      · rw [if_pos hc] at e
        rw [hc, h2]
        exact e
      · rw [if_neg hc] at e
        exact keepH b x (r.sub _ _ e) fun ps z => r.nt b ps (by rw [e, z])
  have nn1 : ∀ L, Nx α F L α F1 L := fun L => ⟨up, Nat.le_refl _, fun _ _ => rfl⟩
  have r1 : Rel K (tabN TN) α F1 H1 sto := by
    refine ⟨sub1, fun b ps e => ?_, T1, fun n c e => (r.at_ n c e).move (nn1 _) (fun l z => ?_) fun l x no z => keepH _ _ z no, r.inj⟩
    · have e : (if b = f then some (FnO f (mk c')) else if b = c' then some (CodeO c' (mk c').qual) else F b) = some (.tbl ps) := e
      by_cases hb : b = f
      · rw [if_pos hb] at e
        exact fnO_ne ps (Option.some.inj e)
      · rw [if_neg hb] at e
        by_cases hc : b = c'
        · rw [if_pos hc] at e
          unfold LamX.CodeO at e
          cases e
        · rw [if_neg hc] at e
          exact r.nt b ps e
    · have hc := r.at_ n c e
      obtain ⟨x, hx⟩ := hc.on r.sub
      have hb : α n ≠ f := fun q => by rw [q, hf] at hx; cases hx
      have hnc : α n ≠ c' := fun q => by
        have k : (∃ xs, H (α n) = some (.lst xs)) ∨ (∃ C dx fs, H (α n) = some (.ins C dx fs)) ∨ ∃ ws, H (α n) = some (.dT ws) := by
          cases c with
          | mu xs => exact .inl ⟨_, hc.2.choose_spec.1⟩
          | fr xs => cases l
          | ml xs => exact .inl ⟨_, hc.2.choose_spec.1⟩
          | ins C fs => exact .inr (.inl ⟨_, _, _, hc.2.choose_spec.choose_spec.1⟩)
          | gone => cases l
          | pin vs xs => exact .inl ⟨_, hc.2.1⟩
          | dt kvs => exact .inr (.inr ⟨_, hc.2.choose_spec.1⟩)
        rcases k with ⟨xs, k⟩ | ⟨C, dx, fs, k⟩ | ⟨ws, k⟩
        rotate_left 2
        · have := keepH _ _ k fun ps z => by cases z
          rw [q, h2] at this
          unfold LamX.CodeO at this
          cases this
        · have := keepH _ _ k fun ps z => by cases z
          rw [q, h2] at this
          unfold LamX.CodeO at this
          cases this
        · have := keepH _ _ k fun ps z => by cases z
          rw [q, h2] at this
          unfold LamX.CodeO at this
          cases this
      show (if α n = f then _ else if α n = c' then _ else F (α n)) = none
      rw [if_neg hb, if_neg hnc]
      exact z
  exact o.nx α F1 H1 _ _ sto (nn1 _) r1 ((s.mono (nn1 _)).set i (x := .ob (preO mk)) ⟨f, c', rfl, at_f, at_c⟩) h
/-! ### the maker's body -/
def WK (K : PySem.W.Frag) (T : TabI) (tt : (V → L2.St → Hp → Prop) → L2.St → Hp → Prop) (ss : SS) (sto : Sto) (Ψ : Val → SS → Sto → Prop) : Prop :=
  ∀ (α : Nat → Addr) (F H : Hp) (σ : L2.St), Rel K T α F H sto → SR K α F sto.length ss σ → ∀ R : V → L2.St → Hp → Prop,
    (∀ (α' : Nat → Addr) (F' H' : Hp) (v : V) (x : Val) (ss' : SS) (σ' : L2.St) (st' : Sto), Nx α F sto.length α' F' st'.length → Rel K T α' F' H' st' → SR K α' F' st'.length ss' σ' → VR K α' F' st'.length x v → Ψ x ss' st' → R v σ' H') → tt R σ H
theorem wk_ret {Ψ : Val → SS → Sto → Prop} (h : WE K T te ss sto fun x st1 => Ψ x ss st1) : WK K T (fun R σ H => te σ H fun v H1 => R v σ H1) ss sto Ψ := fun α F H σ r s R k =>
  h α F H σ r s _ fun α1 F1 H1 v x st1 n1 r1 v1 q => k α1 F1 H1 v x ss σ st1 n1 r1 (s.mono n1) v1 q
theorem wk_cons {t : TS} {u : (V → L2.St → Hp → Prop) → L2.St → Hp → Prop} {Ψ : Val → SS → Sto → Prop} (h : WS K T t ss sto { nx := fun ss1 st1 => WK K T u ss1 st1 Ψ, rt := fun _ _ => False, bk := fun _ _ => False, ct := fun _ _ => False }) :
    WK K T (fun R σ H => t { nx := fun σ1 H1 => u R σ1 H1, rt := fun _ _ => False, bk := fun _ _ => False, ct := fun _ _ => False } σ H) ss sto Ψ := fun α F H σ r s R k =>
  h α F H σ r s _ ⟨fun α1 F1 H1 σ1 ss1 st1 n1 r1 s1 q => q α1 F1 H1 σ1 r1 s1 R fun α2 F2 H2 v x ss2 σ2 st2 n2 => k α2 F2 H2 v x ss2 σ2 st2 (n1.trans n2), fun _ _ _ _ _ _ _ _ _ q => q.elim, fun _ _ _ _ _ _ _ _ _ q => q.elim, fun _ _ _ _ _ _ _ _ _ q => q.elim⟩
/-! ### its end -/
/-- how a value is told at the end: a function's captured cells by the slots -/
inductive Upg (K : PySem.W.Frag) (cells : List (Str × Addr)) (N : List Str) (sc : Scope) (ss' : SS) : Val → Val → Prop
  | same {x : Val} (h : ∀ n, x ≠ .cell n) : Upg K cells N sc ss' x x
  | clo {st : Stmt} {name qual : Str} {fr : List Str} {ws : List Val} (hin : ∀ y, (y, NameKind.free) ∈ (C8.fnScope st).names ↔ y ∈ fr) (hcell : ∀ y ∈ fr, sc.names.lookup y = some .cell) (hl : ws.length = fr.length)
      (hat : ∀ (i : Nat) (y : Str), fr[i]? = some y → ∃ (j : Nat) (x : Val), N[j]? = some y ∧ ss'[j]? = some (some x) ∧ (∀ n, x ≠ .cell n) ∧ ws[i]? = some x) :
      Upg K cells N sc ss' (.ob (preO (NF.of st name qual (cloFrom cells (C8.fnScope st).names [])))) (.ob (cloO K st name qual fr ws))
inductive Upgs (K : PySem.W.Frag) (cells : List (Str × Addr)) (N : List Str) (sc : Scope) (ss' : SS) : List Val → List Val → Prop
  | nil : Upgs K cells N sc ss' [] []
  | cons {x y : Val} {xs ys : List Val} : Upg K cells N sc ss' x y → Upgs K cells N sc ss' xs ys → Upgs K cells N sc ss' (x :: xs) (y :: ys)
theorem VR.flat {x : Val} {v : V} (h : ∀ n, x ≠ .cell n) (s : Same F F') (hv : VR K α F L x v) : VR K α' F' L' x v := by
  cases x with
  | pd d => exact dpm s hv
  | ty n => exact hv
  | cell n => exact absurd rfl (h n)
  | ob o => exact o.mono s hv
open Classical in
noncomputable def addT (cells : List (Str × Addr)) (F H2 : Hp) : Hp := fun b => if ∃ x, cells.lookup x = some b then H2 b else F b
section
variable {cells : List (Str × Addr)} {N : List Str} {sc : Scope} {σ : L2.St} {H2 : Hp} {ss' : SS}
theorem addT_in {x : Str} {b : Addr} (h : cells.lookup x = some b) : addT cells F H2 b = H2 b := if_pos ⟨x, h⟩
theorem addT_out {b : Addr} (h : ¬ ∃ x, cells.lookup x = some b) : addT cells F H2 b = F b := if_neg h
theorem upg_ok {x y : Val} {v : V} (t : Told cells N sc σ H H2) (r : Rel K T α F H sto) (hs : SR K α F sto.length ss' σ) (u : Upg K cells N sc ss' x y) (hv : VR K α F sto.length x v) (s : Same F (addT cells F H2)) : VR K α (addT cells F H2) L y v := by
  cases u with
  | same h => exact hv.flat h s
  | @clo st name qual fr ws hin hcell hl hat =>
    obtain ⟨f, c', e, h1, h2⟩ := hv
    have hfree : ∀ y ∈ (C8.fnScope st).names, y.2 = .free → ∃ c, cells.lookup y.1 = some c := fun y hy e => t.has _ (hcell _ ((hin y.1).mp (by rw [← e]; exact hy)))
    have offc : ∀ a o, F a = some o → ∀ y, (cloFrom cells (C8.fnScope st).names []).lookup y ≠ some a := fun a o e y z => by
      have := t.free y a (clo_cm hfree z)
      rw [r.sub _ _ e] at this
      cases this
    refine ⟨f, cloFrom cells (C8.fnScope st).names [], c', e, s _ _ h1, s _ _ h2, hl, fun y a z => ?_, fun x y a z1 z2 => t.inj x y a (clo_cm hfree z1) (clo_cm hfree z2), ⟨offc _ _ h1, offc _ _ h2⟩, fun i y hi => ?_⟩
    · rcases cloFrom_in cells _ _ z with z | z
      · cases z
      · exact (hin y).mp z
    · have hy : y ∈ fr := List.mem_of_getElem? hi
      obtain ⟨a, ha⟩ := t.has y (hcell y hy)
      obtain ⟨j, x, e1, e2, e3, e4⟩ := hat i y hi
      obtain ⟨w, ew, hw⟩ := hs.at_ j x e2
      obtain ⟨o, ho, hc⟩ := t.at_ j y a w e1 (hcell y hy) ha ew
      exact ⟨a, o, w, x, clo_has hfree ((hin y).mpr hy) ha, e4, by rw [addT_in ha]; exact ho, hc, hw.flat e3 s⟩
theorem upgs_ok (t : Told cells N sc σ H H2) (r : Rel K T α F H sto) (hs : SR K α F sto.length ss' σ) (s : Same F (addT cells F H2)) : ∀ {xs ys : List Val} {vs : List V}, Upgs K cells N sc ss' xs ys → VRs K α F sto.length xs vs → VRs K α (addT cells F H2) L ys vs
  | _, _, _, .nil, .nil => .nil
  | _, _, _, .cons u us, .cons h hs' => .cons (upg_ok t r hs u h s) (upgs_ok t r hs s us hs')
theorem told_same (t : Told cells N sc σ H H2) (r : Rel K T α F H sto) : Same F (addT cells F H2) := fun b o e => by
  by_cases h : ∃ x, cells.lookup x = some b
  · obtain ⟨x, hx⟩ := h
    have := t.free x b hx
    rw [r.sub _ _ e] at this
    cases this
  · rw [addT_out h]
    exact e
theorem told_rel (t : Told cells N sc σ H H2) (r : Rel K T α F H sto) : Rel K T α (addT cells F H2) H2 sto := by
  have s := told_same t r
  refine ⟨fun b o e => ?_, fun b ps e => ?_, T.ext t.same r.tab, fun n c e => (r.at_ n c e).move ⟨s, Nat.le_refl _, fun _ _ => rfl⟩ (fun l z => ?_) fun l o no z => t.same _ _ z, r.inj⟩
  · by_cases h : ∃ x, cells.lookup x = some b
    · obtain ⟨x, hx⟩ := h
      rw [addT_in hx] at e
      exact e
    · rw [addT_out h] at e
      exact t.same _ _ (r.sub _ _ e)
  · by_cases h : ∃ x, cells.lookup x = some b
    · obtain ⟨x, hx⟩ := h
      rw [addT_in hx] at e
      rcases t.new b _ e with z | ⟨_, _, ob, z⟩
      · rw [t.free x b hx] at z
        cases z
      · cases z
    · rw [addT_out h] at e
      exact r.nt b ps e
  · rw [addT_out]
    · exact z
    · rintro ⟨x, hx⟩
      obtain ⟨o, ho⟩ := (r.at_ n c e).on r.sub
      rw [t.free x _ hx] at ho
      cases ho
end
theorem Rel.relabel {n : Nat} {c0 c : Cell} (r : Rel K T α F H sto) (h : sto[n]? = some c0) (l0 : c0.live) (d : CR K α F H sto.length (α n) c) : Rel K T α F H (sto.set n c) := by
  refine ⟨r.sub, r.nt, r.tab, fun m x e => ?_, fun m k x y e1 e2 l1 l2 e => ?_⟩
  · rw [List.length_set]
    rcases get_set e with ⟨rfl, q⟩ | ⟨hn, q⟩
    · rw [q]
      exact d
    · exact r.at_ m x q
  · have f : ∀ {m : Nat} {x : Cell}, (sto.set n c)[m]? = some x → x.live → ∃ y, sto[m]? = some y ∧ y.live := fun {m x} e l => by
      rcases get_set e with ⟨rfl, _⟩ | ⟨_, q⟩
      · exact ⟨c0, h, l0⟩
      · exact ⟨x, q, l⟩
    obtain ⟨a1, b1, d1⟩ := f e1 l1
    obtain ⟨a2, b2, d2⟩ := f e2 l2
    exact r.inj m k _ _ b1 b2 d1 d2 e
/-- what a maker's body must show at its end -/
def EndC (K : PySem.W.Frag) (cells : List (Str × Addr)) (N : List Str) (sc : Scope) (Φ : Val → Sto → Prop) (x : Val) (ss' : SS) (st' : Sto) : Prop :=
  (∃ y, Upg K cells N sc ss' x y ∧ Φ y st') ∨ ∃ n xs ys, x = .cell n ∧ st'[n]? = some (.ml xs) ∧ Upgs K cells N sc ss' xs ys ∧ Φ (.cell n) (st'.set n (.ml ys))
theorem mk_run {cells : List (Str × Addr)} {N : List Str} {sc : Scope} {n : Nat} {p : Pre} {tt : (V → L2.St → Hp → Prop) → L2.St → Hp → Prop} {vs : List V} {Q : VK} {E : XK} (h : spP K T n p vs H Q E)
    (hw : ∀ (xs : List Val) (st : Sto) (Φ : Val → Sto → Prop), xs.length = n → p xs st Φ → WK K T tt (startS N xs) st (EndC K cells N sc Φ)) :
    tt (fun v σ H1 => ∀ H2, Told cells N sc σ H1 H2 → Q v H2) (L2.start N vs) H := by
  obtain ⟨α, F, st, xs, Φ, r, v, hl, hp, k⟩ := h
  refine hw xs st Φ hl hp α F H (L2.start N vs) r (SR_start v N) _ fun α1 F1 H1 v x ss' σ' st' n1 r1 s1 v1 q H2 t => ?_
  have s := told_same t r1
  have nx1 : Nx α F st.length α1 (addT cells F1 H2) st'.length := n1.trans ⟨s, Nat.le_refl _, fun _ _ => rfl⟩
  rcases q with ⟨y, u, q⟩ | ⟨n, xs, ys, rfl, hn, u, q⟩
  · exact k α1 _ H2 v y st' nx1 (told_rel t r1) (upg_ok t r1 s1 u v1 s) q
  · obtain ⟨h1, vs1, h2, h3⟩ := r1.ml n xs hn
    have r2 := told_rel t r1
    have c2 := r2.ml n xs hn
    refine k α1 _ H2 v (.cell n) (st'.set n (.ml ys)) (by rw [List.length_set]; exact nx1) (r2.relabel hn trivial ⟨c2.1, vs1, t.same _ _ h2, upgs_ok t r1 s1 s u h3⟩) (by rw [List.length_set]; exact v1) q
end
end Ct

/-! CtK: lists of values; methods and classes as facts. -/
namespace Ct
open PySem PySem.Spec PyProof.Rows L2
section
variable {K : PySem.W.Frag} {T : TabI} {α α' : Nat → Addr} {F F' H H' : Hp} {L L' : Nat} {ss : SS} {st : Sto} {Φ : Val → Sto → Prop} {te ta tf : TE} {P : Po}
theorem VRs.get : ∀ {xs : List Val} {vs : List V} {i : Nat} {x : Val}, VRs K α F L xs vs → xs[i]? = some x → ∃ v, vs[i]? = some v ∧ VR K α F L x v
  | _, _, _, _, .nil, e => by simp at e
  | _, _, 0, _, .cons h _, e => by
    simp at e
    subst e
    exact ⟨_, rfl, h⟩
  | _, _, i + 1, _, .cons _ t, e => by
    simp at e
    obtain ⟨v, h1, h2⟩ := t.get e
    exact ⟨v, by simpa using h1, h2⟩
theorem VRs.getV : ∀ {xs : List Val} {vs : List V} {i : Nat} {v : V}, VRs K α F L xs vs → vs[i]? = some v → ∃ x, xs[i]? = some x ∧ VR K α F L x v
  | _, _, _, _, .nil, e => by simp at e
  | _, _, 0, _, .cons h _, e => by
    simp at e
    subst e
    exact ⟨_, rfl, h⟩
  | _, _, i + 1, _, .cons _ t, e => by
    simp at e
    obtain ⟨v, h1, h2⟩ := t.getV e
    exact ⟨v, by simpa using h1, h2⟩
theorem atI_vrs {xs : List Val} {vs : List V} {i : Int} {x : Val} (t : VRs K α F L xs vs) (e : atI xs i = some x) : ∃ v, atI vs i = some v ∧ VR K α F L x v := by
  unfold atI at e ⊢
  rw [← t.len]
  rw [Option.bind_eq_some_iff] at e
  obtain ⟨j, e1, e2⟩ := e
  obtain ⟨v, h1, h2⟩ := t.get e2
  exact ⟨v, by rw [e1]; exact h1, h2⟩
/-- xs[i], xs a list of values -/
theorem wr_ixM {n : Nat} {xs : List Val} {i : Int} {y : Val} (h : st[n]? = some (.ml xs)) (e : atI xs i = some y) (q : Φ y st) : WR K T (rIx K) (.cell n) (.pd (.int i)) st Φ := fun α F H vx vy r hx hy Q k => by
  obtain rfl := dp_int hy
  obtain ⟨h1, vs, h2, h3⟩ := r.ml n xs h
  obtain ⟨v, e1, dv⟩ := atI_vrs h3 e
  obtain ⟨_, rfl⟩ := hx
  exact .inl ⟨_, vs, i, v, rfl, rfl, .inl (.inl h2), e1, k α F H v y st Nx.refl r dv q⟩
/-- [..], a list of values -/
theorem we_lstM {t : TA} (h : WA K T t ss st fun xs st1 => xs.length ≤ sizeLine ∧ Φ (.cell st1.length) (st1 ++ [.ml xs])) : WE K T (tLst t) ss st Φ := fun α F H σ r s Q k =>
  h α F H σ r s _ fun α1 F1 H1 vs xs st1 n1 r1 v1 ⟨hl, q⟩ => by
    refine ⟨by rw [← v1.len]; exact hl, fun p hp => ?_⟩
    have hlen : (st1 ++ [Cell.ml xs]).length = st1.length + 1 := by simp
    have nx : Nx α1 F1 st1.length (ext α1 st1.length p) F1 (st1.length + 1) := Nx.ext
    refine k (ext α1 st1.length p) F1 _ (.ref p) (.cell st1.length) (st1 ++ [.ml xs]) (n1.trans (by rw [hlen]; exact nx)) (r1.cellG (c := .ml xs) hp ⟨none_of r1 hp, vs, upd_same, v1.mono nx⟩ fun ps z => by cases z) ?_ q
    exact ⟨by rw [hlen]; exact Nat.lt_succ_self _, by rw [ext_same]⟩
/-- list(x), x a list of values -/
theorem wc_listM {n : Nat} {xs : List Val} (h : st[n]? = some (.ml xs)) (q : Φ (.cell st.length) (st ++ [.ml xs])) : WC K T (fun xs H Q => ∃ p ys, xs = [.ref p] ∧ (SqL K H p ys ∨ SqT K H p ys) ∧ ∀ l, H l = none → Q (.ref l) (upd H l (.lst ys))) [.cell n] st Φ := fun α F H vs r hv Q k => by
  obtain ⟨v, rfl, h1⟩ := vrs1 hv
  obtain ⟨_, rfl⟩ := h1
  obtain ⟨_, ys, h2, h3⟩ := r.ml n xs h
  refine ⟨_, ys, rfl, .inl (.inl (.inl h2)), fun p hp => ?_⟩
  have hlen : (st ++ [Cell.ml xs]).length = st.length + 1 := by simp
  have nx : Nx α F st.length (ext α st.length p) F (st.length + 1) := Nx.ext
  refine k (ext α st.length p) F _ (.ref p) (.cell st.length) (st ++ [.ml xs]) (by rw [hlen]; exact nx) (r.cellG (c := .ml xs) hp ⟨none_of r hp, ys, upd_same, h3.mono nx⟩ fun ps z => by cases z) ?_ q
  exact ⟨by rw [hlen]; exact Nat.lt_succ_self _, by rw [ext_same]⟩
end
/-! ### methods, classes -/
/-- a method that is called: its promise (self ahead of the arguments), how it binds -/
structure CalM (P : Program) (w : World) (K : PySem.W.Frag) (mg : Str → Option Value) (base : Heap) (k : Nat) (C : Addr) (m : Str) (ps : List Str) (sp : Sp) : Prop where
  ex : ∃ (f : Addr) (fd : FuncData), FnOk P w K mg base CX0 k f fd ps sp ∧ Meth K C m f ∧ Binds K fd ps []
theorem pe_methC {X : Cx} {k : Nat} {C : Addr} {m : Str} {ps : List Str} {sp : Sp} {o e : Expr} {es : List Expr} {ta : TE} {t : TA} {apos pos : Pos} {pl : Sem Bool} (c : CalM X.prog X.w X.K X.mg X.base k C m ps sp) (hc : Cls X.K C) (hr : Room k X.A) (he : PE X o ta) (ha : PA X (e :: es) t)
    (hst : starEach (e :: es) X.env = (false, eval e X.env) :: starEach es X.env := by rfl) (hpl : (backTo pos (starEach es X.env)).any (·.1) = false := by rfl)
    (ht : eval (.Call (.Attribute o m apos) (e :: es) [] pos) X.env = (do
      let ov ← eval o X.env
      standAt apos.atName
      let (f, first) ← holding [ov] (getMethod ov m pl)
      callWith pos f first (backTo pos (starEach (e :: es) X.env)) (backToKw pos (keywordEach [] X.env))) := by rfl) : PE X (.Call (.Attribute o m apos) (e :: es) [] pos) (tMeth C m sp [] E0 ta t) := by
  obtain ⟨f, fd, F, hm, b⟩ := c.ex
  exact pe_meth he hc hm F hr b .nil pass0 ha hst hpl ht
theorem pe_methC0 {X : Cx} {k : Nat} {C : Addr} {m : Str} {ps : List Str} {sp : Sp} {o : Expr} {ta : TE} {apos pos : Pos} {pl : Sem Bool} (c : CalM X.prog X.w X.K X.mg X.base k C m ps sp) (hc : Cls X.K C) (hr : Room k X.A) (he : PE X o ta)
    (ht : eval (.Call (.Attribute o m apos) [] [] pos) X.env = (do
      let ov ← eval o X.env
      standAt apos.atName
      let (f, first) ← holding [ov] (getMethod ov m pl)
      callWith pos f first (backTo pos (starEach [] X.env)) (backToKw pos (keywordEach [] X.env))) := by rfl) : PE X (.Call (.Attribute o m apos) [] [] pos) (tMeth C m sp [] E0 ta tNil) := by
  obtain ⟨f, fd, F, hm, b⟩ := c.ex
  exact pe_meth0 he hc hm F hr b .nil pass0 ht
/-- a class that is called -/
structure CalI (P : Program) (w : World) (K : PySem.W.Frag) (mg : Str → Option Value) (base : Heap) (k : Nat) (x : Str) (C : Addr) (ps : List Str) (sp : Sp) : Prop where
  ex : ∃ (f : Addr) (fd : FuncData), FnOk P w K mg base CX0 k f fd ps sp ∧ Mk K C f ∧ mg x = some (.ref C) ∧ Binds K fd ps []
theorem pe_makeC {X : Cx} {k : Nat} {x : Str} {C : Addr} {ps : List Str} {sp : Sp} {p pos : Pos} {e : Expr} {es : List Expr} {t : TA} (c : CalI X.prog X.w X.K X.mg X.base k x C ps sp) (hr : Room (k + 1) X.A) (hg : Gl X x) (ha : PA X (e :: es) t) (hdb : (x == ("__debug__" : Str)) = false := by decide)
    (he : starEach (e :: es) X.env = (false, eval e X.env) :: starEach es X.env := by rfl) (hpl : (backTo pos (starEach es X.env)).any (·.1) = false := by rfl) : PE X (.Call (.Name x p) (e :: es) [] pos) (tMake C sp [] E0 t) := by
  obtain ⟨f, fd, F, M, hm, b⟩ := c.ex
  exact pe_make M F hr hg hm b .nil pass0 ha hdb he hpl
/-- a method as it stands behind the top -/
def Dm (K : PySem.W.Frag) (C : Addr) (m qual : Str) (st : Stmt) : Prop := ∃ (f : Addr) (fd : FuncData), Fun K m qual st f fd ∧ Meth K C m f
theorem Dm.cal {P : Program} {w : World} {K : PySem.W.Frag} {mg : Str → Option Value} {base : Heap} {k : Nat} {C : Addr} {m qual : Str} {st : Stmt} {ps : List Str} {sp : Sp} (d : Dm K C m qual st) (h : ∀ (f : Addr) (fd : FuncData), Fun K m qual st f fd → FnOk P w K mg base CX0 k f fd ps sp)
    (b : ∀ (kV doc pm : Value) (an : Option Addr) (cdv ct : Value) (us : List Value), us.length = ps.length → bindArgs (PySem.W.fnOf m qual (defArgs st) (defBody st) (defScope st) .none kV doc pm an cdv ct) ⟨us, []⟩ = pure (ps.zip us)) : CalM P w K mg base k C m ps sp := by
  obtain ⟨f, fd, F, hm⟩ := d
  exact ⟨f, fd, h f fd F, hm, F.binds b⟩
/-- a class's __init__ as it stands behind the top -/
def Di (K : PySem.W.Frag) (mg : Str → Option Value) (x : Str) (C : Addr) (qual : Str) (st : Stmt) : Prop := ∃ (f : Addr) (fd : FuncData), Fun K "__init__" qual st f fd ∧ Mk K C f ∧ mg x = some (.ref C)
theorem Di.cal {P : Program} {w : World} {K : PySem.W.Frag} {mg : Str → Option Value} {base : Heap} {k : Nat} {x : Str} {C : Addr} {qual : Str} {st : Stmt} {ps : List Str} {sp : Sp} (d : Di K mg x C qual st) (h : ∀ (f : Addr) (fd : FuncData), Fun K "__init__" qual st f fd → FnOk P w K mg base CX0 k f fd ps sp)
    (b : ∀ (kV doc pm : Value) (an : Option Addr) (cdv ct : Value) (us : List Value), us.length = ps.length → bindArgs (PySem.W.fnOf "__init__" qual (defArgs st) (defBody st) (defScope st) .none kV doc pm an cdv ct) ⟨us, []⟩ = pure (ps.zip us)) : CalI P w K mg base k x C ps sp := by
  obtain ⟨f, fd, F, M, hm⟩ := d
  exact ⟨f, fd, h f fd F, M, hm, F.binds b⟩
end Ct

/-! CtM: chains of three, attributes as targets, tuple(x). -/
namespace Ct
open PySem PySem.Spec PyProof.Rows L2
section
variable {X : Cx} {a b c d : Expr} {ta tb tc td : TE} {pos : Pos}
def tChain3 (r r' r'' : R2) (ta tb tc td : TE) : TE := fun σ H Q => ta σ H fun x H1 => tb σ H1 fun y H2 => r x y H2 fun z H3 => ∃ k, z = .bl k ∧
  (if k = true then tc σ H3 fun w H4 => r' y w H4 fun z2 H5 => ∃ k2, z2 = .bl k2 ∧ (if k2 = true then td σ H5 fun u H6 => r'' w u H6 Q else Q (.bl false) H5) else Q (.bl false) H3)
theorem pe_chain3 {op op' op'' : CmpOp} {r r' r'' : R2} (ho : OpR X (compareOp op) r) (ho' : OpR X (compareOp op') r') (ho'' : OpR X (compareOp op'') r'') (ha : PE X a ta) (hb : PE X b tb) (hc : PE X c tc) (hd : PE X d td)
    (hm : lastMarks [op, op', op''] [b, c, d] = false := by with_unfolding_all rfl) : PE X (.Compare a [op, op', op''] [b, c, d] pos) (tChain3 r r' r'' ta tb tc td) := by
  refine ⟨fun pins s σ H Q I h => ?_⟩
  refine Compare_chain (thn (ha.run pins s σ H _ I h) fun v s1 ⟨x, H1, I1, r1, q1⟩ => chain_link (thn (hb.run pins s1 σ H1 _ I1 q1) fun u s2 ⟨y, H2, I2, r2, q2⟩ =>
    thn (ho pins s2 σ H2 x y v u _ I2 r1 r2 q2) fun d1 s3 ⟨z, H3, I3, r3, k, e, q3⟩ => ?_)) hm
  subst e
  cases r3
  refine wpAny_truthy_bool ?_
  cases k with
  | false => exact ite_ff ⟨.bl false, H3, I3, rfl, q3⟩
  | true =>
    refine ite_tt (chain_link (thn (hc.run pins s3 σ H3 _ I3 q3) fun w' s4 ⟨z', H4, I4, r4, q4⟩ => thn (ho' pins s4 σ H4 y z' u w' _ I4 r2 r4 q4) fun d2 s5 ⟨z2, H5, I5, r5, k2, e2, q5⟩ => ?_))
    subst e2
    cases r5
    refine wpAny_truthy_bool ?_
    cases k2 with
    | false => exact ite_ff ⟨.bl false, H5, I5, rfl, q5⟩
    | true => exact ite_tt (chain_last (thn (hd.run pins s5 σ H5 _ I5 q5) fun w3 s6 ⟨z6, H6, I6, r6, q6⟩ => ho'' pins s6 σ H6 z' z6 w' w3 Q I6 r4 r6 q6))
theorem pt_chain3 {op op' op'' : CmpOp} {r r' r'' : R2} (ho : OpR X (compareOp op) r) (ho' : OpR X (compareOp op') r') (ho'' : OpR X (compareOp op'') r'') (ha : PE X a ta) (hb : PE X b tb) (hc : PE X c tc) (hd : PE X d td)
    (hm : lastMarks [op, op', op''] [b, c, d] = false := by with_unfolding_all rfl) : PT X (.Compare a [op, op', op''] [b, c, d] pos) (tTest (tChain3 r r' r'' ta tb tc td)) := by
  refine ⟨fun pins s σ H Q I h => ?_⟩
  refine isTrue_chain (thn (ha.run pins s σ H _ I h) fun v s1 ⟨x, H1, I1, r1, q1⟩ => test_link (thn (hb.run pins s1 σ H1 _ I1 q1) fun u s2 ⟨y, H2, I2, r2, q2⟩ =>
    thn (ho pins s2 σ H2 x y v u _ I2 r1 r2 q2) fun d1 s3 ⟨z, H3, I3, r3, k, e, q3⟩ => ?_)) hm
  subst e
  cases r3
  refine wpAny_truthy_bool ?_
  cases k with
  | false =>
    obtain ⟨k', e', q'⟩ := q3
    cases e'
    exact ite_ff ⟨H3, I3, q'⟩
  | true =>
    refine ite_tt (test_link (thn (hc.run pins s3 σ H3 _ I3 q3) fun w' s4 ⟨z', H4, I4, r4, q4⟩ => thn (ho' pins s4 σ H4 y z' u w' _ I4 r2 r4 q4) fun d2 s5 ⟨z2, H5, I5, r5, k2, e2, q5⟩ => ?_))
    subst e2
    cases r5
    refine wpAny_truthy_bool ?_
    cases k2 with
    | false =>
      obtain ⟨k', e', q'⟩ := q5
      cases e'
      exact ite_ff ⟨H5, I5, q'⟩
    | true =>
      refine ite_tt (test_last (thn (hd.run pins s5 σ H5 _ I5 q5) fun w3 s6 ⟨z6, H6, I6, r6, q6⟩ => thn (ho'' pins s6 σ H6 z' z6 w' w3 _ I6 r4 r6 q6) fun d3 s7 ⟨z7, H7, I7, r7, k7, e7, q7⟩ => ?_))
      subst e7
      cases r7
      exact wpAny_truthy_bool ⟨H7, I7, q7⟩
/-- o.f = .., among several targets -/
def gFld (K : PySem.W.Frag) (to : TE) (f : Str) : TG := fun v σ H Q => to σ H fun x H1 => ∃ p C dx fs, x = .ref p ∧ H1 p = some (.ins C dx fs) ∧ Cls K C ∧ NoAttr K C f ∧ fs.length < 1000 ∧ Q σ (upd H1 p (.ins C dx (putF f v fs)))
theorem pg_fld {o : Expr} {f : Str} {to : TE} (ho : PE X o to)
    (ha : ∀ v, assign (.Attribute o f pos) X.env v = (do
      let ov ← holding [v] (eval o X.env)
      standAt pos.atName
      holding [v, ov] (setAttr ov f v)
      release [v, ov] []) := by intro _; rfl) : PG X (.Attribute o f pos) (gFld X.K to f) := by
  refine ⟨fun pins s σ H v u Q I r h => ?_⟩
  rw [ha]
  refine wpAny_bind (wpAny_holding (thn (ho.run pins s σ H _ I h) fun ov s1 ⟨x, H1, I1, r1, p, C, dx, fs, e, hp, c, n, l, q⟩ => ?_))
  subst e
  obtain rfl : ov = Value.ref p := r1
  refine wpAny_bind (wpAny_standAt (wpAny_bind (wpAny_holding (setattr_ok I1 hp c n l r fun s2 I2 => ?_))))
  exact wpAny_release ⟨σ, _, I2, q⟩
end
section
variable {K : PySem.W.Frag} {T : TabI} {ss : SS} {st : Sto} {Φ : Val → Sto → Prop} {Y : SS → Sto → Prop} {ta tb tc td : TE}
theorem wg_fld {f : Str} {x : Val} (h : WE K T ta ss st fun y st1 => ∃ n C fs, y = .cell n ∧ st1[n]? = some (.ins C fs) ∧ Cls K C ∧ NoAttr K C f ∧ fs.length < 1000 ∧ Y ss (st1.set n (.ins C (putG f x fs)))) : WG K T (gFld K ta f) x ss st Y := fun α F H σ v r s hv Q k =>
  h α F H σ r s _ fun α1 F1 H1 w y st1 n1 r1 v1 ⟨n, C, fs, e, hn, c, na, hl, q⟩ => by
    subst e
    obtain ⟨h1, dx, vs, h2, h3⟩ := r1.ins _ _ _ hn
    refine ⟨α1 n, C, dx, vs, v1.2, h2, c, na, by rw [← h3.len]; exact hl, ?_⟩
    refine k α1 F1 _ σ ss (st1.set n (.ins C (putG f x fs))) (by rw [List.length_set]; exact n1) (r1.writeG hn trivial h2 (fun ps z => by cases z) (fun φ z => by cases z) ⟨h1, dx, _, upd_same, ?_⟩) (by rw [List.length_set]; exact s.mono n1) q
    rw [putG_V]
    exact h3.put (hv.mono n1)
theorem we_chain3 {r r' r'' : R2} (h : WE K T ta ss st fun x st1 => WE K T tb ss st1 fun y st2 => WR K T r x y st2 fun z st3 => ∃ k, z = .pd (.bool k) ∧
      (k = true → WE K T tc ss st3 fun w st4 => WR K T r' y w st4 fun z2 st5 => ∃ k2, z2 = .pd (.bool k2) ∧ (k2 = true → WE K T td ss st5 fun u st6 => WR K T r'' w u st6 Φ) ∧ (k2 = false → Φ (.pd (.bool false)) st5)) ∧ (k = false → Φ (.pd (.bool false)) st3)) :
    WE K T (tChain3 r r' r'' ta tb tc td) ss st Φ := fun α F H σ rl s Q kk =>
  h α F H σ rl s _ fun α1 F1 H1 vx x st1 n1 r1 v1 q1 => q1 α1 F1 H1 σ r1 (s.mono n1) _ fun α2 F2 H2 vy y st2 n2 r2 v2 q2 =>
    q2 α2 F2 H2 vx vy r2 (v1.mono n2) v2 _ fun α3 F3 H3 vz z st3 n3 r3 v3 ⟨k, e, ht, hf⟩ => by
      subst e
      obtain rfl := dp_bl v3
      refine ⟨k, rfl, ?_⟩
      have nn := n1.trans (n2.trans n3)
      cases k with
      | false =>
        rw [if_neg Bool.false_ne_true]
        exact kk α3 F3 H3 (.bl false) (.pd (.bool false)) st3 nn r3 (Dp.bl _) (hf rfl)
      | true =>
        rw [if_pos rfl]
        refine ht rfl α3 F3 H3 σ r3 (s.mono nn) _ fun α4 F4 H4 vw w st4 n4 r4 v4 q4 => q4 α4 F4 H4 vy vw r4 (v2.mono (n3.trans n4)) v4 _ fun α5 F5 H5 vz2 z2 st5 n5 r5 v5 ⟨k2, e2, ht2, hf2⟩ => ?_
        subst e2
        obtain rfl := dp_bl v5
        refine ⟨k2, rfl, ?_⟩
        have nm := nn.trans (n4.trans n5)
        cases k2 with
        | false =>
          rw [if_neg Bool.false_ne_true]
          exact kk α5 F5 H5 (.bl false) (.pd (.bool false)) st5 nm r5 (Dp.bl _) (hf2 rfl)
        | true =>
          rw [if_pos rfl]
          exact ht2 rfl α5 F5 H5 σ r5 (s.mono nm) _ fun α6 F6 H6 vu u st6 n6 r6 v6 q6 => q6 α6 F6 H6 vw vu r6 (v4.mono (n5.trans n6)) v6 _ fun α7 F7 H7 v7 y7 st7 n7 => kk α7 F7 H7 v7 y7 st7 (nm.trans (n6.trans n7))
end
end Ct

/-! CtN: sorted of pairs, tuple(x), xs * n, xs.pop(i). -/
namespace L2
open PySem PySem.Spec PyProof.Rows
/-- rSortedPO, the pairs any tuples -/
def rSortedPK (K : PySem.W.Frag) : List V → Hp → VK → Prop := fun vs H Q => ∃ (a : Addr) (xs : List V) (k : V → Int × Int), vs = [V.ref a] ∧ SqL K H a xs ∧ (∀ x ∈ xs, ∃ t, x = V.ref t ∧ SqT K H t [.int (k x).1, .int (k x).2]) ∧
  ∀ ys p, SrtO.Srtd (ltP k) ys → SrtO.Stb (ltP k) ys xs → H p = none → Q (.ref p) (upd H p (.lst ys))
theorem cr_sortedPK {X : Cx} : CallR X (.builtin "sorted") (rSortedPK X.K) := by
  intro pins s σ H vs us Q I r h
  obtain ⟨a, xs, k, rfl, hs, hx, q⟩ := h
  obtain ⟨its, rv, hl, hz⟩ := I.list hs
  obtain ⟨u, rfl, ru⟩ := vals1 r
  obtain rfl : u = Value.ref a := ru
  obtain ⟨e1, e2⟩ := refs_back rv fun x m => by
    obtain ⟨t, e, _⟩ := hx x m
    exact ⟨t, e⟩
  refine SrtO.sorted_pairsO (k := fun u => k (backV u)) hl.isList (by rw [← rv.length]; exact hz) (fun v hv => ?_) fun h' d out h1 h2 kp hd hn => ?_
  · obtain ⟨t, rfl⟩ := e2 v hv
    have hm : V.ref t ∈ xs := by rw [e1]; exact List.mem_map.mpr ⟨_, hv, rfl⟩
    obtain ⟨t', e, ht⟩ := hx _ hm
    cases e
    obtain ⟨its2, r2, ⟨o, ho, hc, n, hd⟩, _⟩ := I.tuple ht
    obtain ⟨u1, u2, rfl, ri, rj⟩ := vals2 r2
    obtain ⟨t1, rfl⟩ := ri
    obtain ⟨t2, rfl⟩ := rj
    exact ⟨t, o, t1, t2, n, rfl, ho, hc, hd⟩
  · have h3 : ∀ u ∈ out, ∃ a, u = Value.ref a := fun u hu => e2 u (h2.perm.mem_iff.mp hu)
    obtain ⟨n, hn⟩ := hn
    have hb : SrtO.Stb (ltP k) (out.map backV) xs := by
      rw [e1]
      exact SrtO.Stb.map (ltP_swo k) backV h2
    refine ⟨.ref d, upd H d (.lst (out.map backV)), I.laid (t' := s.toks) kp hd ⟨?_, out, n, vals_back h3, hn⟩, rfl, q _ d (SrtO.srtd_map h1) hb (I.hok.fresh hd)⟩
    rw [hb.len]
    exact hz
end L2
namespace Ct
open PySem L2
theorem call_tupleK {X : Cx} {K : PySem.W.Frag} (h : X.K = K) : CallR X (.type "tuple") (fun xs H Q => ∃ p ys, xs = [.ref p] ∧ ((SqL K H p ys ∧ ∀ l, H l = none → Q (.ref l) (upd H l (.tup ys))) ∨ (SqT K H p ys ∧ Q (.ref p) H))) := by subst h; exact call_tuple_of
section
variable {K : PySem.W.Frag} {T : TabI} {ss : SS} {st : Sto} {Φ : Val → Sto → Prop} {Y : SS → Sto → Prop} {ta tb tc td : TE}
/-- tuple(x), x a list -/
theorem wc_tupL {x : Val} {ds : List PyData} (h : look x st = some (.list ds)) (q : Φ (.pd (.tuple ds)) st) : WC K T (fun xs H Q => ∃ p ys, xs = [.ref p] ∧ ((SqL K H p ys ∧ ∀ l, H l = none → Q (.ref l) (upd H l (.tup ys))) ∨ (SqT K H p ys ∧ Q (.ref p) H))) [x] st Φ := fun α F H vs r hv Q k => by
  obtain ⟨v, rfl, h1⟩ := vrs1 hv
  obtain ⟨a, ys, rfl, h2, h3⟩ := look_lst r h1 h
  refine ⟨a, ys, rfl, .inl ⟨h2, fun p hp => ?_⟩⟩
  have hF := none_of r hp
  exact k α (upd F p (.tup ys)) _ (.ref p) (.pd (.tuple ds)) st (Nx.new hF) (r.new hp fun ps z => by cases z) (Dp.tup (.inl (.inl upd_same)) (dpsm (same_upd hF) h3)) q
/-- tuple(x), x a tuple -/
theorem wc_tupT {ds : List PyData} (q : Φ (.pd (.tuple ds)) st) : WC K T (fun xs H Q => ∃ p ys, xs = [.ref p] ∧ ((SqL K H p ys ∧ ∀ l, H l = none → Q (.ref l) (upd H l (.tup ys))) ∨ (SqT K H p ys ∧ Q (.ref p) H))) [.pd (.tuple ds)] st Φ := fun α F H vs r hv Q k => by
  obtain ⟨v, rfl, h1⟩ := vrs1 hv
  obtain ⟨a, ys, e, h2, h3⟩ := dp_tup h1
  subst e
  exact ⟨a, ys, rfl, .inr ⟨seqT r.sub h2, k α F H (.ref a) (.pd (.tuple ds)) st Nx.refl r (Dp.tup h2 h3) q⟩⟩
theorem dps_rep {F : Hp} {vs : List V} {ds : List PyData} (h : DpAll K F vs ds) : ∀ n : Nat, DpAll K F (List.replicate n vs).flatten (List.replicate n ds).flatten
  | 0 => .nil
  | n + 1 => by
    rw [List.replicate_succ, List.replicate_succ, List.flatten_cons, List.flatten_cons]
    exact dps_app h (dps_rep h n)
/-- xs * k -/
theorem wr_rep {n : Nat} {xs : List PyData} {k : Int} (h : st[n]? = some (.mu xs)) (h1 : -(2 ^ 63) ≤ k) (h2 : k < 2 ^ 63) (hz : xs.length * k.toNat ≤ sizeLine) (q : Φ (.pd (.list (List.replicate k.toNat xs).flatten)) st) : WR K T rRep (.cell n) (.pd (.int k)) st Φ := fun α F H vx vy r hx hy Q kk => by
  obtain rfl := dp_int hy
  obtain ⟨_, rfl⟩ := hx
  obtain ⟨_, vs, e, d⟩ := r.mu n xs h
  refine ⟨_, k, vs, rfl, rfl, e, h1, h2, by rw [dps_len d]; exact hz, fun p hp => ?_⟩
  have hF := none_of r hp
  exact kk α (upd F p (.lst (List.replicate k.toNat vs).flatten)) _ (.ref p) (.pd (.list _)) st (Nx.new hF) (r.new hp fun ps z => by cases z) (Dp.lst (.inl (.inl upd_same)) (dpsm (same_upd hF) (dps_rep d _))) q
theorem dps_erase {F : Hp} : ∀ {vs : List V} {ds : List PyData} (k : Nat), DpAll K F vs ds → DpAll K F (vs.eraseIdx k) (ds.eraseIdx k)
  | _, _, _, .nil => .nil
  | _, _, 0, .cons _ t => t
  | _, _, k + 1, .cons h t => .cons h (dps_erase k t)
/-- xs.pop(i) -/
theorem we_pop {te : TE} (h : WE K T ta ss st fun o st1 => ∃ n ys, o = .cell n ∧ st1[n]? = some (.mu ys) ∧ WE K T te ss st1 fun x st2 => ∃ i xs j d, x = .pd (.int i) ∧ st2[n]? = some (.mu xs) ∧ (-(2 ^ 63) ≤ i ∧ i < 2 ^ 63) ∧ seqIndex? i xs.length = some j ∧ xs[j]? = some d ∧ Φ (.pd d) (st2.set n (.mu (xs.eraseIdx j)))) :
    WE K T (tBM K "list" rPopAt ta (tCons te tNil)) ss st Φ := fun α F H σ r s Q kk => h α F H σ r s _ fun α1 F1 H1 vo xo st1 n1 r1 v1 ⟨n, ys, eo, ey, h1⟩ => by
    subst eo
    obtain ⟨hn, rfl⟩ := v1
    obtain ⟨_, us, eu, du⟩ := r1.mu n ys ey
    refine ⟨.inl ⟨rfl, us, .inl (.inl eu)⟩, h1 α1 F1 H1 σ r1 (s.mono n1) _ fun α2 F2 H2 v x st2 n2 r2 v2 ⟨i, xs, j, d, ex, en, ⟨b1, b2⟩, hj, hd, q⟩ => ?_⟩
    subst ex
    obtain rfl := dp_int v2
    obtain ⟨_, vs, e1, d1⟩ := r2.mu n xs en
    obtain ⟨w, hw, dw⟩ := dps_get d1 hd
    have hr := r2.write en (dps_erase j d1)
    rw [n2.ag n hn] at e1 hr
    have nn := n1.trans n2
    exact ⟨_, vs, i, j, w, rfl, rfl, e1, b1, b2, by rw [dps_len d1]; exact hj, hw, kk α2 F2 _ w (.pd d) _ (by rw [List.length_set]; exact nn) hr dw q⟩
end
end Ct

/-! CtO: sorted(pairs) at the level of values. -/
namespace L2
open PySem PySem.Spec PyProof.Rows
def PairAt (K : PySem.W.Frag) (H : Hp) (x : V) (p : Int × Int) : Prop := ∃ t, x = V.ref t ∧ SqT K H t [.int p.1, .int p.2]
def rSortedPP (K : PySem.W.Frag) : List V → Hp → VK → Prop := fun vs H Q => ∃ (a : Addr) (xs : List V) (ps : List (Int × Int)), vs = [V.ref a] ∧ SqL K H a xs ∧ Paired (PairAt K H) xs ps ∧
  ∀ ys (qs : List (Int × Int)) l, ys.length = qs.length → (∀ b ∈ ys.zip qs, b ∈ xs.zip ps) → qs.Perm ps → qs.Pairwise (fun p q => SrtO.lexB q p = false) → H l = none → Q (.ref l) (upd H l (.lst ys))
open Classical in
theorem cr_sortedPP {X : Cx} : CallR X (.builtin "sorted") (rSortedPP X.K) := by
  intro pins s σ H vs us Q I r h
  obtain ⟨a, xs, ps, rfl, hs, hp, q⟩ := h
  have fn : ∀ x p p', PairAt X.K H x p → PairAt X.K H x p' → p = p' := fun x p p' ⟨t, e, h⟩ ⟨t', e', h'⟩ => by
    rw [e] at e'
    cases e'
    have := I.tuple_inj h h'
    simp at this
    exact Prod.ext this.1 this.2
  let k : V → Int × Int := fun x => if h : ∃ p, PairAt X.K H x p then h.choose else (0, 0)
  have hk : ∀ x p, PairAt X.K H x p → k x = p := fun x p h => by
    have ex : ∃ p, PairAt X.K H x p := ⟨p, h⟩
    have e : k x = ex.choose := dif_pos ex
    rw [e]
    exact fn x _ _ ex.choose_spec h
  have hall : ∀ (xs : List V) (ps : List (Int × Int)), Paired (PairAt X.K H) xs ps → ps = xs.map k ∧ ∀ x ∈ xs, PairAt X.K H x (k x) := by
    intro xs ps h
    induction h with
    | nil => exact ⟨rfl, fun x hx => by cases hx⟩
    | cons a b ih =>
      refine ⟨by rw [List.map_cons, ← ih.1, hk _ _ a], fun x hx => ?_⟩
      rcases List.mem_cons.mp hx with rfl | hx
      · rw [hk _ _ a]
        exact a
      · exact ih.2 x hx
  obtain ⟨ep, hx⟩ := hall xs ps hp
  refine cr_sortedPK pins s σ H _ us Q I r ⟨a, xs, k, rfl, hs, fun x m => hx x m, fun ys l h1 h2 hl => q ys (ys.map k) l ?_ ?_ ?_ ?_ hl⟩
  · rw [List.length_map]
  · intro b hb
    have e : ∀ zs : List V, zs.zip (zs.map k) = zs.map fun z => (z, k z) := fun zs => by
      induction zs with
      | nil => rfl
      | cons z zs ih => rw [List.map_cons, List.zip_cons_cons, ih, List.map_cons]
    rw [e] at hb
    rw [ep, e]
    obtain ⟨z, hz, rfl⟩ := List.mem_map.mp hb
    exact List.mem_map.mpr ⟨z, h2.perm.mem_iff.mp hz, rfl⟩
  · rw [ep]
    exact h2.perm.map k
  · rw [List.pairwise_map]
    exact h1
end L2
namespace Ct
open PySem L2
abbrev pairT (p : Int × Int) : PyData := .tuple [.int p.1, .int p.2]
theorem cr_sortedK {X : Cx} {K : PySem.W.Frag} (h : X.K = K) (_hc : X.calm = true) : CallR X (.builtin "sorted") (rSortedPP K) := by subst h; exact cr_sortedPP
section
variable {K : PySem.W.Frag} {T : TabI} {ss : SS} {st : Sto} {Φ : Val → Sto → Prop}
theorem pairs_at {F H : Hp} (s : Same F H) : ∀ {ps : List (Int × Int)} {vs : List V}, DpAll K F vs (ps.map pairT) → Paired (PairAt K H) vs ps
  | [], _, .nil => .nil
  | p :: ps, _, .cons h t => by
    obtain ⟨a, vs, e, h1, h2⟩ := dp_tup h
    refine .cons ⟨a, e, ?_⟩ (pairs_at s t)
    cases h2 with
    | cons x y =>
      cases y with
      | cons z w =>
        cases w
        obtain rfl := dp_int x
        obtain rfl := dp_int z
        exact seqT s h1
theorem wc_sortP {x : Val} {ps : List (Int × Int)} (h : look x st = some (.list (ps.map pairT))) (q : ∀ qs : List (Int × Int), qs.Perm ps → qs.Pairwise (fun p q => SrtO.lexB q p = false) → Φ (.pd (.list (qs.map pairT))) st) : WC K T (rSortedPP K) [x] st Φ := fun α F H vs r hv Q k => by
  obtain ⟨v, rfl, h1⟩ := vrs1 hv
  obtain ⟨a, ys, rfl, h2, h3⟩ := look_lst r h1 h
  refine ⟨a, ys, ps, rfl, h2, pairs_at r.sub h3, fun zs qs l hlen hz hperm hs hl => ?_⟩
  have hF := none_of r hl
  have old : ∀ (ys : List V) (ps : List (Int × Int)), DpAll K F ys (ps.map pairT) → ∀ b ∈ ys.zip ps, Dp K F b.1 (pairT b.2) := by
    intro ys
    induction ys with
    | nil => exact fun ps _ b hb => by simp at hb
    | cons y ys ih =>
      intro ps h b hb
      cases ps with
      | nil => simp at hb
      | cons p ps =>
        cases h with
        | cons h t =>
          rw [List.zip_cons_cons] at hb
          rcases List.mem_cons.mp hb with rfl | hb
          · exact h
          · exact ih ps t b hb
  have hd : DpAll K F zs (qs.map pairT) := by
    have key : ∀ (zs : List V) (qs : List (Int × Int)), zs.length = qs.length → (∀ b ∈ zs.zip qs, Dp K F b.1 (pairT b.2)) → DpAll K F zs (qs.map pairT) := by
      intro zs
      induction zs with
      | nil =>
        intro qs hl _
        cases qs with
        | nil => exact .nil
        | cons q qs => simp at hl
      | cons z zs ih =>
        intro qs hl h
        cases qs with
        | nil => simp at hl
        | cons q qs => exact .cons (h (z, q) (by simp)) (ih qs (by simpa using hl) fun b hb => h b (by rw [List.zip_cons_cons]; exact List.mem_cons_of_mem _ hb))
    exact key zs qs hlen fun b hb => old ys ps h3 b (hz b hb)
  exact k α (upd F l (.lst zs)) _ (.ref l) (.pd (.list (qs.map pairT))) st (Nx.new hF) (r.new hl fun ps z => by cases z) (Dp.lst (.inl (.inl upd_same)) (dpsm (same_upd hF) hd)) (q qs hperm hs)
end
end Ct

/-! CtP: isinstance with a tuple of types, with an own class. -/
namespace Ct
open PySem L2
theorem call_isiTK {X : Cx} {K : PySem.W.Frag} (h : X.K = K) : CallR X (.builtin "isinstance") (rIsiT K) := by subst h; exact call_isiT
/-- a class as a value -/
def clsO (C : Addr) : Ob := ⟨fun _ v => v = .ref C, fun _ h => h⟩
section
variable {K : PySem.W.Frag} {T : TabI} {ss : SS} {st : Sto} {Φ : Val → Sto → Prop} {te : TE}
theorem we_cls {C : Addr} (q : Φ (.ob (clsO C)) st) : WE K T (tC (.ref C)) ss st Φ := fun α F H σ r s Q k => k α F H (.ref C) (.ob (clsO C)) st Nx.refl r rfl q
theorem wc_isiC {x : Val} {d : PyData} {C : Addr} {b : Bool} (hl : look x st = some d) (hk : PySem.W.kitOne K (.type (pyTy d)) (.ref C) = some b) (q : Φ (.pd (.bool b)) st) : WC K T (rIsi K) [x, .ob (clsO C)] st Φ := fun α F H vs r hv Q k => by
  obtain ⟨v, w, rfl, h1, h2⟩ := vrs2 hv
  have h2 : w = .ref C := h2
  subst h2
  exact ⟨v, .ref C, _, .ref C, b, rfl, .own C, ty_of (look_ok r h1 hl), hk, k α F H _ (.pd _) st Nx.refl r (Dp.bl _) q⟩
theorem we_isiT {a b : String} (h : WE K T te ss st fun x st1 => ∃ d c, look x st1 = some d ∧ PySem.W.kitAny K (.type (pyTy d)) [.type a, .type b] = some c ∧ Φ (.pd (.bool c)) st1) :
    WE K T (tCB (rIsiT K) (tCons te (tCons (tTup (tCons (tC (.ty a)) (tCons (tC (.ty b)) tNil))) tNil))) ss st Φ := fun α F H σ r s Q k =>
  h α F H σ r s _ fun α1 F1 H1 v x st1 n1 r1 v1 ⟨d, c, hl, hk, q⟩ => by
    refine ⟨(show 2 ≤ sizeLine by decide), fun p hp => ?_⟩
    have hF := none_of r1 hp
    have r2 : Rel K T α1 (upd F1 p (.tup [.ty a, .ty b])) (upd H1 p (.tup [.ty a, .ty b])) st1 := r1.new hp fun ps z => by cases z
    have nn : Nx α1 F1 st1.length α1 (upd F1 p (.tup [.ty a, .ty b])) st1.length := Nx.new hF
    exact ⟨v, p, [.ty a, .ty b], _, [.type a, .type b], c, rfl, upd_same, .cons (.ty a) (.cons (.ty b) .nil), ty_of (look_ok r2 (v1.mono nn) hl), hk, k α1 _ _ _ (.pd (.bool c)) st1 (n1.trans nn) r2 (Dp.bl _) q⟩
end
end Ct

/-! CtQ: comprehensions over tuples. -/
namespace Ct
open PySem L2
/-- over a list or a tuple -/
def iOr (t u : TI) : TI := fun σ H R => t σ H R ∨ u σ H R
theorem pi_or {X : Cx} {tg l : Expr} {t u : TI} (h : PI X tg l t) (h' : PI X tg l u) : PI X tg l (iOr t u) := ⟨fun pins s σ H R I q => q.elim (h.run pins s σ H R I) (h'.run pins s σ H R I)⟩
section
variable {K : PySem.W.Frag} {T : TabI} {ss : SS} {st : Sto} {Φ : Val → Sto → Prop} {te ta tb tc tl : TE} {tt tu : TT} {P : Po} {g : TG} {bd : TS}
theorem we_lcT {vs : List Nat} (hG : GW g vs) (h : WE K T tl ss st fun x st1 => ∃ xs, x = .pd (.tuple xs) ∧ xs.length < sizeLine ∧ ∃ f : PyData → Option PyData,
      (∀ (i : Nat) (d : PyData) (acc : List PyData), xs[i]? = some d → WG K T g (.pd d) (wipeS ss vs) (st1 ++ [.mu acc]) fun ss2 st2 => WT K T tt ss2 st2 fun b st3 =>
        (b = true → WE K T te ss2 st3 fun y st4 => ∃ dy st5, pur y st4 = some (dy, st5) ∧ st5.take (st1.length + 1) = st1 ++ [.mu acc] ∧ f d = some dy) ∧ (b = false → st3.take (st1.length + 1) = st1 ++ [.mu acc] ∧ f d = none)) ∧
      Φ (.pd (.list (xs.filterMap f))) st1) :
    WE K T (tLc (iTup K tl) g tt te vs) ss st Φ := fun α F H σ r s Q k => h α F H σ r s _ fun α1 F1 H1 v x st1 n1 r1 v1 ⟨xs, e, hsz, f, hs, hq⟩ => by
  subst e
  obtain ⟨a, ws, rfl, h1, h2⟩ := dp_tup v1
  refine ⟨a, rfl, ⟨ws, seqT r1.sub h1⟩, fun D hD => ?_⟩
  have len1 : ∀ acc : List PyData, (st1 ++ [Cell.mu acc]).length = st1.length + 1 := fun acc => by simp
  refine lc_tup (xs := ws) (fun i H' => ∃ α' F', Nx α1 F1 st1.length α' F' st1.length ∧ Rel K T α' F' H' (st1 ++ [.mu ((xs.take i).filterMap f)]) ∧ α' st1.length = D)
    ⟨ext α1 st1.length D, F1, ⟨Same.refl _, Nat.le_refl _, fun n hn => ext_ne (Nat.ne_of_lt hn)⟩, r1.cell hD .nil, ext_same⟩ (fun i H' _ ⟨α', F', n', r', _⟩ => seqT r'.sub (seqT n'.sub h1)) (fun i y H' hy ⟨α', F', n', r', eD⟩ => ?_) (fun H' ⟨α', F', n', r', eD⟩ => ?_)
  · obtain ⟨d, hd1, dd⟩ := dps_getV h2 hy
    have hi : i < xs.length := (List.getElem?_eq_some_iff.mp hd1).1
    have nn : Nx α1 F1 st1.length α' F' (st1.length + 1) := ⟨n'.sub, Nat.le_succ _, n'.ag⟩
    have s1 : SR K α' F' (st1 ++ [Cell.mu ((xs.take i).filterMap f)]).length (wipeS ss vs) (L2.wipe σ vs) := by
      rw [len1]
      exact ((s.mono n1).mono nn).wipe vs
    have ez : L2.wipe (L2.wipe σ vs) vs = L2.wipe σ vs := wipe_wipe
    have base := hs i d ((xs.take i).filterMap f) hd1 α' F' H' (L2.wipe σ vs) y r' s1 (dpm n'.sub dd) (fun σ2 H2 => tt σ2 H2 fun b H3 => if b = true then te σ2 H3 fun y H4 => ∃ acc, H4 D = some (.lst acc) ∧ acc.length < sizeLine ∧
        (∃ α' F', Nx α1 F1 st1.length α' F' st1.length ∧ Rel K T α' F' (upd H4 D (.lst (acc ++ [y]))) (st1 ++ [.mu ((xs.take (i + 1)).filterMap f)]) ∧ α' st1.length = D) else
        ∃ α' F', Nx α1 F1 st1.length α' F' st1.length ∧ Rel K T α' F' H3 (st1 ++ [.mu ((xs.take (i + 1)).filterMap f)]) ∧ α' st1.length = D) fun α2 F2 H2 σ2 ss2 st2 n2 r2 s2 q => q α2 F2 H2 σ2 r2 s2 _ fun α3 F3 H3 b st3 n3 r3 ⟨ht, hf⟩ => ?_
    · have := hG _ _ _ _ base
      rw [ez] at this
      exact this
    · have cut : ∀ {α4 : Nat → Addr} {F4 : Hp} {st4 : Sto}, Nx α' F' (st1 ++ [Cell.mu ((xs.take i).filterMap f)]).length α4 F4 st4.length → Nx α1 F1 st1.length α4 F4 st1.length ∧ α4 st1.length = D := fun {α4 F4 st4} n4 => by
        rw [len1] at n4
        exact ⟨⟨n'.sub.trans n4.sub, Nat.le_refl _, fun n hn => (n4.ag n (Nat.lt_succ_of_lt hn)).trans (n'.ag n hn)⟩, (n4.ag _ (Nat.lt_succ_self _)).trans eD⟩
      cases b with
      | true =>
        rw [if_pos rfl]
        refine ht rfl α3 F3 H3 σ2 r3 (s2.mono n3) _ fun α4 F4 H4 vy z st4 n4 r4 v4 ⟨dy, st5, ep, et, ef⟩ => ?_
        obtain ⟨F5, r5, n5, d5⟩ := pur_ok r4 v4 ep
        have nA := n2.trans (n3.trans (n4.trans n5))
        obtain ⟨c1, c2⟩ := cut nA
        have h5 : st5[st1.length]? = some (.mu ((xs.take i).filterMap f)) := by
          have : (st5.take (st1.length + 1))[st1.length]? = some (.mu ((xs.take i).filterMap f)) := by rw [et]; simp
          rw [List.getElem?_take] at this
          simpa using this
        obtain ⟨_, us, e1, d1⟩ := r5.mu _ _ h5
        rw [c2] at e1
        have h6 : (st1 ++ [Cell.mu ((xs.take i).filterMap f)])[st1.length]? = some (.mu ((xs.take i).filterMap f)) := by simp
        have rw5 := (r5.back r' (by rw [len1]; exact et)).write h6 (dps_app d1 (.cons d5 .nil))
        rw [c2] at rw5
        have es : (st1 ++ [Cell.mu ((xs.take i).filterMap f)]).set st1.length (.mu ((xs.take i).filterMap f ++ [dy])) = st1 ++ [.mu ((xs.take (i + 1)).filterMap f)] := by
          rw [fm_take hd1, ef]
          simp
        rw [es] at rw5
        refine ⟨us, e1, ?_, α4, F5, c1, rw5, c2⟩
        rw [dps_len d1]
        have := List.length_filterMap_le f (xs.take i)
        rw [List.length_take] at this
        omega
      | false =>
        rw [if_neg Bool.false_ne_true]
        obtain ⟨et, ef⟩ := hf rfl
        obtain ⟨c1, c2⟩ := cut (n2.trans n3)
        have r3' := r3.back r' (by rw [len1]; exact et)
        refine ⟨α3, F3, c1, ?_, c2⟩
        rw [fm_take hd1, ef]
        simpa using r3'
  · have ea : (xs.take ws.length).filterMap f = xs.filterMap f := by rw [dps_len h2, List.take_length]
    rw [ea] at r'
    have hg : (st1 ++ [Cell.mu (xs.filterMap f)])[st1.length]? = some (.mu (xs.filterMap f)) := by simp
    obtain ⟨F2, r2, n2, d2⟩ := r'.freeze hg
    have et : ((st1 ++ [Cell.mu (xs.filterMap f)]).set st1.length (.fr (xs.filterMap f))).take st1.length = st1 := by simp
    have r3 := r2.back r1 et
    rw [eD] at d2
    exact k α' F2 H' (.ref D) (.pd _) st1 (n1.trans ⟨n'.sub.trans n2.sub, Nat.le_refl _, n'.ag⟩) r3 d2 hq
theorem ws_forO1 {t u : TI} (h : WS K T (tFor t g bd) ss st P) : WS K T (tFor (iOr t u) g bd) ss st P := fun α F H σ r s D o => .inl (h α F H σ r s D o)
theorem ws_forO2 {t u : TI} (h : WS K T (tFor u g bd) ss st P) : WS K T (tFor (iOr t u) g bd) ss st P := fun α F H σ r s D o => .inr (h α F H σ r s D o)
theorem we_lcO1 {t u : TI} {vs : List Nat} (h : WE K T (tLc t g tt te vs) ss st Φ) : WE K T (tLc (iOr t u) g tt te vs) ss st Φ := fun α F H σ r s Q k => .inl (h α F H σ r s Q k)
theorem we_lcO2 {t u : TI} {vs : List Nat} (h : WE K T (tLc u g tt te vs) ss st Φ) : WE K T (tLc (iOr t u) g tt te vs) ss st Φ := fun α F H σ r s Q k => .inr (h α F H σ r s Q k)
end
section
variable {K : PySem.W.Frag} {T : TabI} {st : Sto} {Φ : Val → Sto → Prop}
theorem op_notInK {X : Cx} (h : X.K = K) : OpR X (compareOp .NotIn) (rIn K true) := by subst h; exact op_notIn_seq
theorem wr_nin {y : Val} {d : PyData} {ds : List PyData} (hl : look y st = some (.list ds)) (f : flatD d = true) (f2 : ds.all flatD = true) (q : Φ (.pd (.bool (!inD d ds))) st) : WR K T (rIn K true) (.pd d) y st Φ := fun α F H vx vy r hx hy Q k => by
  obtain ⟨a, vs, rfl, h1, h2⟩ := look_lst r hy hl
  refine ⟨a, vs, rfl, .inl h1, flat_ok hx f, flats_ok h2 f2, k α F H _ (.pd (.bool (!inD d ds))) st Nx.refl r ?_ q⟩
  rw [inV_ok hx f h2 f2]
  exact Dp.bl _
theorem wc_lenT {ds : List PyData} (q : Φ (.pd (.int (ds.length : Int))) st) : WC K T (fun xs H Q => ∃ p ys, xs = [.ref p] ∧ (SqL K H p ys ∨ SqT K H p ys) ∧ Q (.int ys.length) H) [.pd (.tuple ds)] st Φ := fun α F H vs r hv Q k => by
  obtain ⟨v, rfl, h1⟩ := vrs1 hv
  obtain ⟨a, ys, e, h2, h3⟩ := dp_tup h1
  subst e
  refine ⟨a, ys, rfl, .inr (seqT r.sub h2), ?_⟩
  rw [dps_len h3]
  exact k α F H _ (.pd _) st Nx.refl r (Dp.int _) q
end
end Ct

/-! CtR: comprehensions whose items write the store; lists of lists; short names of slots. -/
namespace Ct
open PySem L2
abbrev vI (i : Int) : Option Val := some (.pd (.int i))
abbrev vD (d : PyData) : Option Val := some (.pd d)
abbrev vC (n : Nat) : Option Val := some (.cell n)
abbrev vL (ds : List PyData) : Option Val := some (.pd (.list ds))
abbrev vT (ds : List PyData) : Option Val := some (.pd (.tuple ds))
abbrev vO (o : Ob) : Option Val := some (.ob o)
def tDead : TE := fun _ _ _ => False
theorem pe_dead {X : Cx} {e : Expr} : PE X e tDead := ⟨fun _ _ _ _ _ _ h => h.elim⟩
section
variable {K : PySem.W.Frag} {T : TabI} {ss : SS} {st : Sto} {Φ : Val → Sto → Prop} {te ta tb tc tl : TE} {tt tu : TT} {P : Po} {g : TG} {bd : TS}
theorem VRs.app1 {α : Nat → Addr} {F : Hp} {L : Nat} {xs : List Val} {vs : List V} {x : Val} {v : V} (h : VRs K α F L xs vs) (r : VR K α F L x v) : VRs K α F L (xs ++ [x]) (vs ++ [v]) := h.app (.cons r .nil)
/-- items that are plain, the store written meanwhile -/
theorem lc_rngS {vs : List Nat} {lo : Int} {n : Nat} {α1 : Nat → Addr} {F1 H1 : Hp} {st1 : Sto} {σ : L2.St} {Q : VK} (hG : GW g vs) (s1 : SR K α1 F1 st1.length ss σ) (r1 : Rel K T α1 F1 H1 st1) (I : Nat → Sto → Prop) (h0 : I 0 (st1 ++ [.mu []]))
    (hs : ∀ (i : Nat) (st' : Sto), i < n → I i st' → WG K T g (.pd (.int (lo + (i : Int)))) (wipeS ss vs) st' fun ss2 st2 => WT K T tt ss2 st2 fun b st3 =>
        (b = true → WE K T te ss2 st3 fun y st4 => ∃ dy st5 acc, pur y st4 = some (dy, st5) ∧ st5[st1.length]? = some (.mu acc) ∧ acc.length < sizeLine ∧ I (i + 1) (st5.set st1.length (.mu (acc ++ [dy])))) ∧ (b = false → I (i + 1) st3))
    (k : ∀ α2 F2 H2 st2, Nx α1 F1 st1.length α2 F2 (List.length st2) → Rel K T α2 F2 H2 st2 → st1.length < st2.length → I n st2 → Q (.ref (α2 st1.length)) H2) (D : Addr) (hD : H1 D = none) :
    ∃ W : Nat → Nat → Hp → Prop, (∃ m, W 0 m (upd H1 D (.lst []))) ∧ ∀ i m H, W i m H → ((Itr lo n).stop i H ∧ Q (.ref D) H) ∨ ((Itr lo n).go i H ∧ ∃ Nx : Hp → Prop, (∀ H', Nx H' → ∃ m', m' < m ∧ W (i + 1) m' H') ∧ ∀ x H', (Itr lo n).yld i H x H' → g x (L2.wipe σ vs) H' fun σ2 H2 => L2.wipe σ2 vs = L2.wipe σ vs ∧ tt σ2 H2 fun b H3 =>
        if b = true then te σ2 H3 fun y H4 => ∃ acc, H4 D = some (.lst acc) ∧ acc.length < sizeLine ∧ Nx (upd H4 D (.lst (acc ++ [y]))) else Nx H3) := by
  have len1 : (st1 ++ [Cell.mu []]).length = st1.length + 1 := by simp
  refine lc_range (lo := lo) (n := n) (fun i H' => ∃ α' F' st', Nx (ext α1 st1.length D) F1 (st1.length + 1) α' F' (List.length st') ∧ Rel K T α' F' H' st' ∧ I i st')
    ⟨ext α1 st1.length D, F1, _, by rw [← len1]; exact Nx.refl, r1.cell hD .nil, h0⟩ (fun i H' hi ⟨α', F', st', n', r', hI⟩ => ?_) (fun H' ⟨α', F', st', n', r', hI⟩ => ?_)
  · have s2 : SR K α' F' st'.length (wipeS ss vs) (L2.wipe σ vs) := ((s1.mono Nx.ext).mono n').wipe vs
    have ez : L2.wipe (L2.wipe σ vs) vs = L2.wipe σ vs := wipe_wipe
    have base := hs i st' hi hI α' F' H' (L2.wipe σ vs) (.int (lo + (i : Int))) r' s2 (Dp.int _) (fun σ2 H2 => tt σ2 H2 fun b H3 => if b = true then te σ2 H3 fun y H4 => ∃ acc, H4 D = some (.lst acc) ∧ acc.length < sizeLine ∧
        (∃ α' F' st', Nx (ext α1 st1.length D) F1 (st1.length + 1) α' F' (List.length st') ∧ Rel K T α' F' (upd H4 D (.lst (acc ++ [y]))) st' ∧ I (i + 1) st') else
        ∃ α' F' st', Nx (ext α1 st1.length D) F1 (st1.length + 1) α' F' (List.length st') ∧ Rel K T α' F' H3 st' ∧ I (i + 1) st') fun α2 F2 H2 σ2 ss2 st2 n2 r2 s2 q => q α2 F2 H2 σ2 r2 s2 _ fun α3 F3 H3 b st3 n3 r3 ⟨ht, hf⟩ => ?_
    · have := hG _ _ _ _ base
      rw [ez] at this
      exact this
    · cases b with
      | true =>
        rw [if_pos rfl]
        refine ht rfl α3 F3 H3 σ2 r3 (s2.mono n3) _ fun α4 F4 H4 vy z st4 n4 r4 v4 ⟨dy, st5, acc, ep, e5, hl, hI5⟩ => ?_
        obtain ⟨F5, r5, n5, d5⟩ := pur_ok r4 v4 ep
        have nA := n'.trans (n2.trans (n3.trans (n4.trans n5)))
        have eD : α4 st1.length = D := (nA.ag _ (Nat.lt_succ_self _)).trans ext_same
        obtain ⟨_, us, e1, d1⟩ := r5.mu _ _ e5
        have rw5 := r5.write e5 (dps_app d1 (.cons d5 .nil))
        rw [eD] at e1 rw5
        exact ⟨us, e1, by rw [dps_len d1]; exact hl, α4, F5, _, by rw [List.length_set]; exact nA, rw5, hI5⟩
      | false =>
        rw [if_neg Bool.false_ne_true]
        exact ⟨α3, F3, st3, n'.trans (n2.trans n3), r3, hf rfl⟩
  · have eD : α' st1.length = D := (n'.ag _ (Nat.lt_succ_self _)).trans ext_same
    have := k α' F' H' st' (Nx.ext.trans n') r' n'.le hI
    rw [eD] at this
    exact this
theorem we_lcR1S {t : TA} {vs : List Nat} (hG : GW g vs) (h : WA K T t ss st fun xs st1 => ∃ n, xs = [.pd (.int n)] ∧ -(2 ^ 62) ≤ n ∧ n < 2 ^ 62 ∧ ∃ I : Nat → Sto → Prop, I 0 (st1 ++ [.mu []]) ∧
      (∀ (i : Nat) (st' : Sto), i < n.toNat → I i st' → WG K T g (.pd (.int (0 + (i : Int)))) (wipeS ss vs) st' fun ss2 st2 => WT K T tt ss2 st2 fun b st3 =>
        (b = true → WE K T te ss2 st3 fun y st4 => ∃ dy st5 acc, pur y st4 = some (dy, st5) ∧ st5[st1.length]? = some (.mu acc) ∧ acc.length < sizeLine ∧ I (i + 1) (st5.set st1.length (.mu (acc ++ [dy])))) ∧ (b = false → I (i + 1) st3)) ∧
      ∀ st', I n.toNat st' → Φ (.cell st1.length) st') :
    WE K T (tLc (iRng1 t) g tt te vs) ss st Φ := fun α F H σ r s Q k => h α F H σ r s _ fun α1 F1 H1 vs1 xs st1 n1 r1 v1 ⟨n, e, b1, b2, I, h0, hs, hq⟩ => by
  subst e
  obtain ⟨v, rfl, hv⟩ := vrs1 v1
  obtain rfl := dp_int hv
  exact ⟨n, rfl, b1, b2, fun D hD => lc_rngS hG (s.mono n1) r1 I h0 hs (fun α2 F2 H2 st2 n2 r2 hl hI => k α2 F2 H2 _ (.cell st1.length) st2 (n1.trans n2) r2 ⟨hl, rfl⟩ (hq st2 hI)) D hD⟩
theorem we_lcR2S {t : TA} {vs : List Nat} (hG : GW g vs) (h : WA K T t ss st fun xs st1 => ∃ lo n, xs = [.pd (.int lo), .pd (.int n)] ∧ (-(2 ^ 62) ≤ lo ∧ lo < 2 ^ 62 ∧ -(2 ^ 62) ≤ n ∧ n < 2 ^ 62) ∧ ∃ I : Nat → Sto → Prop, I 0 (st1 ++ [.mu []]) ∧
      (∀ (i : Nat) (st' : Sto), i < (n - lo).toNat → I i st' → WG K T g (.pd (.int (lo + (i : Int)))) (wipeS ss vs) st' fun ss2 st2 => WT K T tt ss2 st2 fun b st3 =>
        (b = true → WE K T te ss2 st3 fun y st4 => ∃ dy st5 acc, pur y st4 = some (dy, st5) ∧ st5[st1.length]? = some (.mu acc) ∧ acc.length < sizeLine ∧ I (i + 1) (st5.set st1.length (.mu (acc ++ [dy])))) ∧ (b = false → I (i + 1) st3)) ∧
      ∀ st', I (n - lo).toNat st' → Φ (.cell st1.length) st') :
    WE K T (tLc (iRng2 t) g tt te vs) ss st Φ := fun α F H σ r s Q k => h α F H σ r s _ fun α1 F1 H1 vs1 xs st1 n1 r1 v1 ⟨lo, n, e, b, I, h0, hs, hq⟩ => by
  subst e
  obtain ⟨v, w, rfl, hv, hw⟩ := vrs2 v1
  obtain rfl := dp_int hv
  obtain rfl := dp_int hw
  exact ⟨lo, n, rfl, b, fun D hD => lc_rngS hG (s.mono n1) r1 I h0 hs (fun α2 F2 H2 st2 n2 r2 hl hI => k α2 F2 H2 _ (.cell st1.length) st2 (n1.trans n2) r2 ⟨hl, rfl⟩ (hq st2 hI)) D hD⟩
/-- items that are any values -/
theorem lc_rngM {vs : List Nat} {lo : Int} {n : Nat} {α1 : Nat → Addr} {F1 H1 : Hp} {st1 : Sto} {σ : L2.St} {Q : VK} (hG : GW g vs) (s1 : SR K α1 F1 st1.length ss σ) (r1 : Rel K T α1 F1 H1 st1) (I : Nat → Sto → Prop) (h0 : I 0 (st1 ++ [.ml []]))
    (hs : ∀ (i : Nat) (st' : Sto), i < n → I i st' → WG K T g (.pd (.int (lo + (i : Int)))) (wipeS ss vs) st' fun ss2 st2 => WT K T tt ss2 st2 fun b st3 =>
        (b = true → WE K T te ss2 st3 fun y st4 => ∃ acc, st4[st1.length]? = some (.ml acc) ∧ acc.length < sizeLine ∧ I (i + 1) (st4.set st1.length (.ml (acc ++ [y])))) ∧ (b = false → I (i + 1) st3))
    (k : ∀ α2 F2 H2 st2, Nx α1 F1 st1.length α2 F2 (List.length st2) → Rel K T α2 F2 H2 st2 → st1.length < st2.length → I n st2 → Q (.ref (α2 st1.length)) H2) (D : Addr) (hD : H1 D = none) :
    ∃ W : Nat → Nat → Hp → Prop, (∃ m, W 0 m (upd H1 D (.lst []))) ∧ ∀ i m H, W i m H → ((Itr lo n).stop i H ∧ Q (.ref D) H) ∨ ((Itr lo n).go i H ∧ ∃ Nx : Hp → Prop, (∀ H', Nx H' → ∃ m', m' < m ∧ W (i + 1) m' H') ∧ ∀ x H', (Itr lo n).yld i H x H' → g x (L2.wipe σ vs) H' fun σ2 H2 => L2.wipe σ2 vs = L2.wipe σ vs ∧ tt σ2 H2 fun b H3 =>
        if b = true then te σ2 H3 fun y H4 => ∃ acc, H4 D = some (.lst acc) ∧ acc.length < sizeLine ∧ Nx (upd H4 D (.lst (acc ++ [y]))) else Nx H3) := by
  have len1 : (st1 ++ [Cell.ml []]).length = st1.length + 1 := by simp
  refine lc_range (lo := lo) (n := n) (fun i H' => ∃ α' F' st', Nx (ext α1 st1.length D) F1 (st1.length + 1) α' F' (List.length st') ∧ Rel K T α' F' H' st' ∧ I i st')
    ⟨ext α1 st1.length D, F1, _, by rw [← len1]; exact Nx.refl, r1.cellG (c := .ml []) hD ⟨none_of r1 hD, [], upd_same, .nil⟩ (fun ps z => by cases z), h0⟩ (fun i H' hi ⟨α', F', st', n', r', hI⟩ => ?_) (fun H' ⟨α', F', st', n', r', hI⟩ => ?_)
  · have s2 : SR K α' F' st'.length (wipeS ss vs) (L2.wipe σ vs) := ((s1.mono Nx.ext).mono n').wipe vs
    have ez : L2.wipe (L2.wipe σ vs) vs = L2.wipe σ vs := wipe_wipe
    have base := hs i st' hi hI α' F' H' (L2.wipe σ vs) (.int (lo + (i : Int))) r' s2 (Dp.int _) (fun σ2 H2 => tt σ2 H2 fun b H3 => if b = true then te σ2 H3 fun y H4 => ∃ acc, H4 D = some (.lst acc) ∧ acc.length < sizeLine ∧
        (∃ α' F' st', Nx (ext α1 st1.length D) F1 (st1.length + 1) α' F' (List.length st') ∧ Rel K T α' F' (upd H4 D (.lst (acc ++ [y]))) st' ∧ I (i + 1) st') else
        ∃ α' F' st', Nx (ext α1 st1.length D) F1 (st1.length + 1) α' F' (List.length st') ∧ Rel K T α' F' H3 st' ∧ I (i + 1) st') fun α2 F2 H2 σ2 ss2 st2 n2 r2 s2 q => q α2 F2 H2 σ2 r2 s2 _ fun α3 F3 H3 b st3 n3 r3 ⟨ht, hf⟩ => ?_
    · have := hG _ _ _ _ base
      rw [ez] at this
      exact this
    · cases b with
      | true =>
        rw [if_pos rfl]
        refine ht rfl α3 F3 H3 σ2 r3 (s2.mono n3) _ fun α4 F4 H4 vy z st4 n4 r4 v4 ⟨acc, e5, hl, hI5⟩ => ?_
        have nA := n'.trans (n2.trans (n3.trans n4))
        have eD : α4 st1.length = D := (nA.ag _ (Nat.lt_succ_self _)).trans ext_same
        obtain ⟨h1, us, e1, d1⟩ := r4.ml _ _ e5
        have rw5 := r4.writeG (c := .ml (acc ++ [z])) (o := .lst (us ++ [vy])) e5 trivial e1 (fun ps z => by cases z) (fun ps z => by cases z) ⟨h1, _, upd_same, d1.app1 v4⟩
        rw [eD] at e1 rw5
        exact ⟨us, e1, by rw [← d1.len]; exact hl, α4, F4, _, by rw [List.length_set]; exact nA, rw5, hI5⟩
      | false =>
        rw [if_neg Bool.false_ne_true]
        exact ⟨α3, F3, st3, n'.trans (n2.trans n3), r3, hf rfl⟩
  · have eD : α' st1.length = D := (n'.ag _ (Nat.lt_succ_self _)).trans ext_same
    have := k α' F' H' st' (Nx.ext.trans n') r' n'.le hI
    rw [eD] at this
    exact this
theorem we_lcR1M {t : TA} {vs : List Nat} (hG : GW g vs) (h : WA K T t ss st fun xs st1 => ∃ n, xs = [.pd (.int n)] ∧ -(2 ^ 62) ≤ n ∧ n < 2 ^ 62 ∧ ∃ I : Nat → Sto → Prop, I 0 (st1 ++ [.ml []]) ∧
      (∀ (i : Nat) (st' : Sto), i < n.toNat → I i st' → WG K T g (.pd (.int (0 + (i : Int)))) (wipeS ss vs) st' fun ss2 st2 => WT K T tt ss2 st2 fun b st3 =>
        (b = true → WE K T te ss2 st3 fun y st4 => ∃ acc, st4[st1.length]? = some (.ml acc) ∧ acc.length < sizeLine ∧ I (i + 1) (st4.set st1.length (.ml (acc ++ [y])))) ∧ (b = false → I (i + 1) st3)) ∧
      ∀ st', I n.toNat st' → Φ (.cell st1.length) st') :
    WE K T (tLc (iRng1 t) g tt te vs) ss st Φ := fun α F H σ r s Q k => h α F H σ r s _ fun α1 F1 H1 vs1 xs st1 n1 r1 v1 ⟨n, e, b1, b2, I, h0, hs, hq⟩ => by
  subst e
  obtain ⟨v, rfl, hv⟩ := vrs1 v1
  obtain rfl := dp_int hv
  exact ⟨n, rfl, b1, b2, fun D hD => lc_rngM hG (s.mono n1) r1 I h0 hs (fun α2 F2 H2 st2 n2 r2 hl hI => k α2 F2 H2 _ (.cell st1.length) st2 (n1.trans n2) r2 ⟨hl, rfl⟩ (hq st2 hI)) D hD⟩
/-- a list of lists becomes plain -/
theorem we_purM (h : WE K T te ss st fun x st1 => ∃ n xs ds st2, x = .cell n ∧ st1[n]? = some (.ml xs) ∧ purs xs st1 = some (ds, st2) ∧ st2[n]? = some (.ml xs) ∧ Φ (.pd (.list ds)) (st2.set n (.fr ds))) : WE K T te ss st Φ := fun α F H σ r s Q k =>
  h α F H σ r s Q fun α1 F1 H1 v x st1 n1 r1 v1 ⟨n, xs, ds, st2, ex, en, ep, en2, q⟩ => by
    subst ex
    obtain ⟨_, rfl⟩ := v1
    obtain ⟨_, vs, e1, d1⟩ := r1.ml _ _ en
    obtain ⟨F2, r2, n2, d2⟩ := purs_ok r1 d1 ep
    have h1 := (r2.ml _ _ en2).1
    have sF : Same F2 (upd F2 (α1 n) (.lst vs)) := same_upd h1
    have at_ : upd F2 (α1 n) (HO.lst vs) (α1 n) = some (.lst vs) := upd_same
    have r3 := r2.freezeG (c := .fr ds) en2 trivial e1 (fun ps z => by cases z) (fun z => z) fun F' s e => ⟨vs, e, dpsm s d2⟩
    exact k α1 _ H1 (.ref (α1 n)) (.pd (.list ds)) (st2.set n (.fr ds)) (n1.trans (n2.trans ⟨sF, by rw [List.length_set]; exact Nat.le_refl _, fun _ _ => rfl⟩)) r3 (.lst (.inl (.inl at_)) (dpsm sF d2)) q
end
end Ct

/-! CtS: defs that make functions: what stands behind the top. -/
namespace Ct
open PySem PySem.Spec PyProof.Rows L2 NdefX
def inDef (s : Stmt) (j : Nat) : Stmt := (defBody s).getD j (.Pass ⟨0, 0, 0, 0⟩)
def lineOf : Stmt → Nat
  | .FunctionDef _ _ _ _ _ _ _ _ _ p => p.line
  | _ => 0
/-- a def with nested defs, its table among TN -/
structure GathN (K : PySem.W.Frag) (base : Heap) (mg : Str → Option Value) (TN : List NTab) (x : Str) (st : Stmt) (nm : Nat → Nat → Str) : Prop where
  ex : ∃ (f c P : Addr) (oc : Value) (od : Option Addr) (kV doc pm : Value) (an : Option Addr) (ct : Value) (osl : Array (Option Value)), K.lookup f = some ⟨oc, od, .func (PySem.W.fnOf x x (defArgs st) (defBody st) (defScope st) .none kV doc pm an (.ref c) ct), osl⟩ ∧
    PySem.W.codeIn K (.ref c) x = true ∧ PySem.W.keepIn K (.ref f) = true ∧ mg x = some (.ref f) ∧ LamX.TabB base mg c P ∧ (P, nm) ∈ TN ∧ ∀ p ∈ TN, p.1 = P → p.2 = nm
theorem hin_by {names : List (Str × NameKind)} {fr : List Str} (h : (names.all (fun y => !decide (y.2 = .free) || decide (y.1 ∈ fr)) && fr.all fun y => decide ((y, NameKind.free) ∈ names)) = true) (y : Str) : (y, NameKind.free) ∈ names ↔ y ∈ fr := by
  rw [Bool.and_eq_true, List.all_eq_true, List.all_eq_true] at h
  refine ⟨fun hy => ?_, fun hy => of_decide_eq_true (h.2 y hy)⟩
  have := h.1 _ hy
  simpa using this
theorem mk_cal {P : Program} {w : World} {K : PySem.W.Frag} {mg : Str → Option Value} {base : Heap} {TN : List NTab} {k : Nat} {x : Str} {st : Stmt} {nm : Nat → Nat → Str} {N ps : List Str} {sp : Sp} (g : GathN K base mg TN x st nm) (S : FnScope N ps (defScope st)) (len : ∀ vs H Q E, sp vs H Q E → vs.length = ps.length)
    (b : ∀ (kV doc pm : Value) (an : Option Addr) (cdv ct : Value) (us : List Value), us.length = ps.length → bindArgs (PySem.W.fnOf x x (defArgs st) (defBody st) (defScope st) .none kV doc pm an cdv ct) ⟨us, []⟩ = pure (ps.zip us))
    (hbody : ∀ (f c P1 : Addr), LamX.TabB base mg c P1 → (P1, nm) ∈ TN → (∀ p ∈ TN, p.1 = P1 → p.2 = nm) → ∀ (A : Around) (outer : List Env) (s : Shared) (H : Hp) (vs : List V) (Q : VK) (E : XK), Room k (A.deeper (envOfC x (defScope st) s.heap.objs.size f (.ref c))) → sp vs H Q E →
      ∃ t, PSC (cxOf CX0 P w K mg base N x (defScope st) f (.ref c) A outer s H E).nox (defBody st) t ∧ t (fun v σ H1 => ∀ H2, Told (envOfC x (defScope st) s.heap.objs.size f (.ref c)).cells N (defScope st) σ H1 H2 → Q v H2) (L2.start N vs) H) : Cal P w K mg base (k + 1) x ps sp := by
  obtain ⟨f, c, P1, oc, od, kV, doc, pm, an, ct, osl, lk, hcd, kp, hm, TB, hT, hu⟩ := g.ex
  exact ⟨f, _, fn_ofC lk hcd S len fun A outer s H vs Q E hr h => hbody f c P1 TB hT hu A outer s H vs Q E hr h, hm, kp, .all (b kV doc pm an (.ref c) ct)⟩
end Ct
namespace Ct
open PySem L2
theorem room_u65 {k : Nat} {A : Around} (hr : Room k A) : A.units + 65 < cLine := by
  have := hr.un
  omega
theorem op_inDK {X : Cx} {K : PySem.W.Frag} (h : X.K = K) (hu : X.A.units + 65 < cLine) : OpR X (compareOp .In) (rInD K) := by subst h; exact op_inD hu
theorem op_notInDK {X : Cx} {K : PySem.W.Frag} (h : X.K = K) (hu : X.A.units + 65 < cLine) : OpR X (compareOp .NotIn) (rNotInD K) := by subst h; exact op_notInD hu
section
variable {K : PySem.W.Frag} {T : TabI} {ss : SS} {st : Sto} {Φ : Val → Sto → Prop}
theorem wr_inD {x y : Val} {d : PyData} {ds : List PyData} (hx : look x st = some d) (hl : look y st = some (.list ds)) (f : SeqAt.shaped d = true) (f2 : SeqAt.shaped (.list ds) = true) (q : Φ (.pd (.bool (ds.any fun z => PyData.eqv z d))) st) : WR K T (rInD K) x y st Φ := fun α F H vx vy r hvx hvy Q k =>
  ⟨d, ds, look_ok r hvx hx, look_ok r hvy hl, f, f2, k α F H _ (.pd (.bool _)) st Nx.refl r (Dp.bl _) q⟩
theorem wr_ninD {x y : Val} {d : PyData} {ds : List PyData} (hx : look x st = some d) (hl : look y st = some (.list ds)) (f : SeqAt.shaped d = true) (f2 : SeqAt.shaped (.list ds) = true) (q : Φ (.pd (.bool (!ds.any fun z => PyData.eqv z d))) st) : WR K T (rNotInD K) x y st Φ := fun α F H vx vy r hvx hvy Q k =>
  ⟨d, ds, look_ok r hvx hx, look_ok r hvy hl, f, f2, k α F H _ (.pd (.bool _)) st Nx.refl r (Dp.bl _) q⟩
end
theorem eqv_pair (p q : Int × Int) : PyData.eqv (pairT p) (pairT q) = decide (p = q) := by
  obtain ⟨a, b⟩ := p
  obtain ⟨c, d⟩ := q
  rw [eqv_tuple, eqvAll_cons, eqvAll_cons, eqvAll_nil, eqv_int, eqv_int]
  by_cases h1 : a = c <;> by_cases h2 : b = d <;> simp [h1, h2]
theorem any_pair (ps : List (Int × Int)) (p : Int × Int) : ((ps.map pairT).any fun z => PyData.eqv z (pairT p)) = decide (p ∈ ps) := by
  induction ps with
  | nil => simp
  | cons q ps ih =>
    rw [List.map_cons, List.any_cons, ih, eqv_pair]
    by_cases h : p = q
    · subst h
      simp
    · have h' : ¬ q = p := fun e => h e.symm
      simp [h, h']
theorem sh_pair {k : Nat} (p : Int × Int) : Sh (k + 1) (pairT p) := sh_tuple fun e he => by
  rcases List.mem_cons.mp he with rfl | he
  · exact sh_int _
  · rw [List.mem_singleton.mp he]
    exact sh_int _
theorem sh_pairs {k : Nat} (ps : List (Int × Int)) : Sh (k + 2) (.list (ps.map pairT)) := sh_list fun d hd => by
  obtain ⟨p, _, rfl⟩ := List.mem_map.mp hd
  exact sh_pair p
end Ct

/-! CtT: loops and comprehensions over lists that are still written; small rules. -/
namespace Ct
open PySem L2
section
variable {K : PySem.W.Frag} {T : TabI} {ss : SS} {st : Sto} {Φ : Val → Sto → Prop} {te ta tb tc tl : TE} {tt tu : TT} {P : Po} {g : TG} {bd : TS}
theorem set_id {st : Sto} {n : Nat} {c : Cell} (h : st[n]? = some c) : st.set n c = st := by
  obtain ⟨hn, e⟩ := List.getElem?_eq_some_iff.mp h
  rw [← e]
  exact List.set_getElem_self hn
theorem unpin {α : Nat → Addr} {F H : Hp} {n : Nat} {vs : List V} {xs : List PyData} (r : Rel K T α F H st) (h : st[n]? = some (.pin vs xs)) : Rel K T α F H (st.set n (.mu xs)) := by
  obtain ⟨h1, h2, h3⟩ := r.at_ n _ h
  exact r.relabel h trivial ⟨h1, vs, h2, h3⟩
theorem ws_forC (h : WE K T tl ss st fun x st1 => ∃ n xs, x = .cell n ∧ st1[n]? = some (.mu xs) ∧ ∃ I : Nat → SS → Sto → Prop, I 0 ss st1 ∧ (∀ i ss' st', I i ss' st' → st'[n]? = some (.mu xs)) ∧
    (∀ (vs : List V) (i : Nat) (d : PyData) (ss' : SS) (st' : Sto), xs[i]? = some d → I i ss' st' → WG K T g (.pd d) ss' (st'.set n (.pin vs xs)) fun ss2 st2 => WS K T bd ss2 st2
      { nx := fun ss3 st3 => st3[n]? = some (.pin vs xs) ∧ I (i + 1) ss3 (st3.set n (.mu xs)), rt := fun x st3 => st3[n]? = some (.pin vs xs) ∧ P.rt x (st3.set n (.mu xs)), bk := fun ss3 st3 => st3[n]? = some (.pin vs xs) ∧ P.nx ss3 (st3.set n (.mu xs)), ct := fun ss3 st3 => st3[n]? = some (.pin vs xs) ∧ I (i + 1) ss3 (st3.set n (.mu xs)) }) ∧
    ∀ (ss' : SS) (st' : Sto), I xs.length ss' st' → P.nx ss' st') : WS K T (tFor (iList K tl) g bd) ss st P := fun α F H σ r s D o => h α F H σ r s _ fun α1 F1 H1 v x st1 n1 r1 v1 ⟨n, xs, e, en, I, i0, hI, hs, hd⟩ => by
  subst e
  obtain ⟨hn, rfl⟩ := v1
  obtain ⟨hf, vs, h2, h3⟩ := r1.mu n xs en
  have o1 := o.mono n1
  have rp : Rel K T α1 F1 H1 (st1.set n (.pin vs xs)) := r1.relabel en trivial ⟨hf, h2, h3⟩
  refine ⟨_, rfl, ⟨vs, .inl (.inl h2)⟩, for_list (xs := vs) (fun i σ' H' => ∃ α' F' ss' st', Nx α1 F1 st1.length α' F' (List.length st') ∧ Rel K T α' F' H' (st'.set n (.pin vs xs)) ∧ SR K α' F' st'.length ss' σ' ∧ I i ss' st')
    ⟨α1, F1, ss, st1, Nx.refl, rp, s.mono n1, i0⟩ (fun i σ' H' _ ⟨α', F', ss', st', n', r', _, hi⟩ => ?_) (fun i y σ' H' hy ⟨α', F', ss', st', n', r', s', hi⟩ => ?_) (fun σ' H' ⟨α', F', ss', st', n', r', s', hi⟩ => ?_)⟩
  · obtain ⟨_, h, _⟩ := r'.at_ n _ (get_setSelf (hI _ _ _ hi))
    rw [n'.ag n hn] at h
    exact .inl (.inl h)
  · obtain ⟨d, hd1, dd⟩ := dps_getV h3 hy
    have ll : ∀ {c : Cell}, (st'.set n c).length = st'.length := List.length_set
    have back : ∀ {st3 : Sto}, st3[n]? = some (.pin vs xs) → (st3.set n (.mu xs)).set n (.pin vs xs) = st3 := fun {st3} e => by rw [List.set_set]; exact set_id e
    have fin : ∀ {α2 : Nat → Addr} {F2 : Hp} {st2 st3 : Sto} {α3 : Nat → Addr} {F3 : Hp}, Nx α' F' (st'.set n (.pin vs xs)).length α2 F2 st2.length → Nx α2 F2 st2.length α3 F3 st3.length → Nx α1 F1 st1.length α3 F3 (st3.set n (.mu xs)).length := fun {α2 F2 st2 st3 α3 F3} a b => by
      rw [List.length_set]
      rw [ll] at a
      exact n'.trans (a.trans b)
    exact hs vs i d ss' st' hd1 hi α' F' H' σ' y r' (by rw [ll]; exact s') (dpm n'.sub dd) _ fun α2 F2 H2 σ2 ss2 st2 n2 r2 s2 q => q α2 F2 H2 σ2 r2 s2 _
      ⟨fun α3 F3 H3 σ3 ss3 st3 n3 r3 s3 ⟨ep, q3⟩ => ⟨α3, F3, ss3, _, fin n2 n3, by rw [back ep]; exact r3, by rw [List.length_set]; exact s3, q3⟩,
        fun α3 F3 H3 v3 x3 st3 n3 r3 v3' ⟨ep, q3⟩ => o1.rt α3 F3 H3 v3 x3 _ (fin n2 n3) (unpin r3 ep) (by rw [List.length_set]; exact v3') q3,
        fun α3 F3 H3 σ3 ss3 st3 n3 r3 s3 ⟨ep, q3⟩ => o1.nx α3 F3 H3 σ3 ss3 _ (fin n2 n3) (unpin r3 ep) (by rw [List.length_set]; exact s3) q3,
        fun α3 F3 H3 σ3 ss3 st3 n3 r3 s3 ⟨ep, q3⟩ => ⟨α3, F3, ss3, _, fin n2 n3, by rw [back ep]; exact r3, by rw [List.length_set]; exact s3, q3⟩⟩
  · have en' := hI _ _ _ hi
    have r3 := unpin r' (get_setSelf en')
    rw [List.set_set, set_id en'] at r3
    exact o1.nx α' F' H' σ' ss' st' n' r3 s' (hd ss' st' (by rw [← dps_len h3]; exact hi))
/-- a comprehension over a list whose items are known while it runs -/
theorem lc_lstX {vs : List Nat} {a : Addr} {ws : List V} {xs : List PyData} {α1 : Nat → Addr} {F1 H1 : Hp} {st1 : Sto} {σ : L2.St} {Q : VK} (hG : GW g vs) (s : SR K α1 F1 st1.length ss σ) (r1 : Rel K T α1 F1 H1 st1) (h2 : DpAll K F1 ws xs) (hsz : xs.length < sizeLine)
    (hq1 : ∀ (α' : Nat → Addr) (F' H' : Hp) (acc : List PyData), Nx α1 F1 st1.length α' F' st1.length → Rel K T α' F' H' (st1 ++ [.mu acc]) → SqL K H' a ws) (f : PyData → Option PyData)
    (hs : ∀ (i : Nat) (d : PyData) (acc : List PyData), xs[i]? = some d → WG K T g (.pd d) (wipeS ss vs) (st1 ++ [.mu acc]) fun ss2 st2 => WT K T tt ss2 st2 fun b st3 =>
        (b = true → WE K T te ss2 st3 fun y st4 => ∃ dy st5, pur y st4 = some (dy, st5) ∧ st5.take (st1.length + 1) = st1 ++ [.mu acc] ∧ f d = some dy) ∧ (b = false → st3.take (st1.length + 1) = st1 ++ [.mu acc] ∧ f d = none))
    (k : ∀ α2 F2 H2 D, Nx α1 F1 st1.length α2 F2 st1.length → Rel K T α2 F2 H2 st1 → Dp K F2 (.ref D) (.list (xs.filterMap f)) → Q (.ref D) H2) (D : Addr) (hD : H1 D = none) :
    ∃ W : Nat → Nat → Hp → Prop, (∃ m, W 0 m (upd H1 D (.lst []))) ∧ ∀ i m H, W i m H → ((Itl K a).stop i H ∧ Q (.ref D) H) ∨ ((Itl K a).go i H ∧ ∃ Nx : Hp → Prop, (∀ H', Nx H' → ∃ m', m' < m ∧ W (i + 1) m' H') ∧ ∀ x H', (Itl K a).yld i H x H' → g x (L2.wipe σ vs) H' fun σ2 H2 => L2.wipe σ2 vs = L2.wipe σ vs ∧ tt σ2 H2 fun b H3 =>
        if b = true then te σ2 H3 fun y H4 => ∃ acc, H4 D = some (.lst acc) ∧ acc.length < sizeLine ∧ Nx (upd H4 D (.lst (acc ++ [y]))) else Nx H3) := by
  have len1 : ∀ acc : List PyData, (st1 ++ [Cell.mu acc]).length = st1.length + 1 := fun acc => by simp
  refine lc_list (xs := ws) (fun i H' => ∃ α' F', Nx α1 F1 st1.length α' F' st1.length ∧ Rel K T α' F' H' (st1 ++ [.mu ((xs.take i).filterMap f)]) ∧ α' st1.length = D)
    ⟨ext α1 st1.length D, F1, ⟨Same.refl _, Nat.le_refl _, fun n hn => ext_ne (Nat.ne_of_lt hn)⟩, r1.cell hD .nil, ext_same⟩ (fun i H' _ ⟨α', F', n', r', _⟩ => hq1 α' F' H' _ n' r') (fun i y H' hy ⟨α', F', n', r', eD⟩ => ?_) (fun H' ⟨α', F', n', r', eD⟩ => ?_)
  · obtain ⟨d, hd1, dd⟩ := dps_getV h2 hy
    have hi : i < xs.length := (List.getElem?_eq_some_iff.mp hd1).1
    have nn : Nx α1 F1 st1.length α' F' (st1.length + 1) := ⟨n'.sub, Nat.le_succ _, n'.ag⟩
    have s1 : SR K α' F' (st1 ++ [Cell.mu ((xs.take i).filterMap f)]).length (wipeS ss vs) (L2.wipe σ vs) := by
      rw [len1]
      exact (s.mono nn).wipe vs
    have ez : L2.wipe (L2.wipe σ vs) vs = L2.wipe σ vs := wipe_wipe
    have base := hs i d ((xs.take i).filterMap f) hd1 α' F' H' (L2.wipe σ vs) y r' s1 (dpm n'.sub dd) (fun σ2 H2 => tt σ2 H2 fun b H3 => if b = true then te σ2 H3 fun y H4 => ∃ acc, H4 D = some (.lst acc) ∧ acc.length < sizeLine ∧
        (∃ α' F', Nx α1 F1 st1.length α' F' st1.length ∧ Rel K T α' F' (upd H4 D (.lst (acc ++ [y]))) (st1 ++ [.mu ((xs.take (i + 1)).filterMap f)]) ∧ α' st1.length = D) else
        ∃ α' F', Nx α1 F1 st1.length α' F' st1.length ∧ Rel K T α' F' H3 (st1 ++ [.mu ((xs.take (i + 1)).filterMap f)]) ∧ α' st1.length = D) fun α2 F2 H2 σ2 ss2 st2 n2 r2 s2 q => q α2 F2 H2 σ2 r2 s2 _ fun α3 F3 H3 b st3 n3 r3 ⟨ht, hf⟩ => ?_
    · have := hG _ _ _ _ base
      rw [ez] at this
      exact this
    · have cut : ∀ {α4 : Nat → Addr} {F4 : Hp} {st4 : Sto}, Nx α' F' (st1 ++ [Cell.mu ((xs.take i).filterMap f)]).length α4 F4 st4.length → Nx α1 F1 st1.length α4 F4 st1.length ∧ α4 st1.length = D := fun {α4 F4 st4} n4 => by
        rw [len1] at n4
        exact ⟨⟨n'.sub.trans n4.sub, Nat.le_refl _, fun n hn => (n4.ag n (Nat.lt_succ_of_lt hn)).trans (n'.ag n hn)⟩, (n4.ag _ (Nat.lt_succ_self _)).trans eD⟩
      cases b with
      | true =>
        rw [if_pos rfl]
        refine ht rfl α3 F3 H3 σ2 r3 (s2.mono n3) _ fun α4 F4 H4 vy z st4 n4 r4 v4 ⟨dy, st5, ep, et, ef⟩ => ?_
        obtain ⟨F5, r5, n5, d5⟩ := pur_ok r4 v4 ep
        have nA := n2.trans (n3.trans (n4.trans n5))
        obtain ⟨c1, c2⟩ := cut nA
        have h5 : st5[st1.length]? = some (.mu ((xs.take i).filterMap f)) := by
          have : (st5.take (st1.length + 1))[st1.length]? = some (.mu ((xs.take i).filterMap f)) := by rw [et]; simp
          rw [List.getElem?_take] at this
          simpa using this
        obtain ⟨_, us, e1, d1⟩ := r5.mu _ _ h5
        rw [c2] at e1
        have h6 : (st1 ++ [Cell.mu ((xs.take i).filterMap f)])[st1.length]? = some (.mu ((xs.take i).filterMap f)) := by simp
        have rw5 := (r5.back r' (by rw [len1]; exact et)).write h6 (dps_app d1 (.cons d5 .nil))
        rw [c2] at rw5
        have es : (st1 ++ [Cell.mu ((xs.take i).filterMap f)]).set st1.length (.mu ((xs.take i).filterMap f ++ [dy])) = st1 ++ [.mu ((xs.take (i + 1)).filterMap f)] := by
          rw [fm_take hd1, ef]
          simp
        rw [es] at rw5
        refine ⟨us, e1, ?_, α4, F5, c1, rw5, c2⟩
        rw [dps_len d1]
        have := List.length_filterMap_le f (xs.take i)
        rw [List.length_take] at this
        omega
      | false =>
        rw [if_neg Bool.false_ne_true]
        obtain ⟨et, ef⟩ := hf rfl
        obtain ⟨c1, c2⟩ := cut (n2.trans n3)
        have r3' := r3.back r' (by rw [len1]; exact et)
        refine ⟨α3, F3, c1, ?_, c2⟩
        rw [fm_take hd1, ef]
        simpa using r3'
  · have ea : (xs.take ws.length).filterMap f = xs.filterMap f := by rw [dps_len h2, List.take_length]
    rw [ea] at r'
    have hg : (st1 ++ [Cell.mu (xs.filterMap f)])[st1.length]? = some (.mu (xs.filterMap f)) := by simp
    obtain ⟨F2, r2, n2, d2⟩ := r'.freeze hg
    have et : ((st1 ++ [Cell.mu (xs.filterMap f)]).set st1.length (.fr (xs.filterMap f))).take st1.length = st1 := by simp
    have r3 := r2.back r1 et
    rw [eD] at d2
    exact k α' F2 H' D ⟨n'.sub.trans n2.sub, Nat.le_refl _, n'.ag⟩ r3 d2
theorem we_lcC {vs : List Nat} (hG : GW g vs) (h : WE K T tl ss st fun x st1 => ∃ n xs, x = .cell n ∧ st1[n]? = some (.mu xs) ∧ xs.length < sizeLine ∧ ∃ f : PyData → Option PyData,
      (∀ (ws : List V) (i : Nat) (d : PyData) (acc : List PyData), xs[i]? = some d → WG K T g (.pd d) (wipeS ss vs) (st1.set n (.pin ws xs) ++ [.mu acc]) fun ss2 st2 => WT K T tt ss2 st2 fun b st3 =>
        (b = true → WE K T te ss2 st3 fun y st4 => ∃ dy st5, pur y st4 = some (dy, st5) ∧ st5.take (st1.length + 1) = st1.set n (.pin ws xs) ++ [.mu acc] ∧ f d = some dy) ∧ (b = false → st3.take (st1.length + 1) = st1.set n (.pin ws xs) ++ [.mu acc] ∧ f d = none)) ∧
      Φ (.pd (.list (xs.filterMap f))) st1) :
    WE K T (tLc (iList K tl) g tt te vs) ss st Φ := fun α F H σ r s Q k => h α F H σ r s _ fun α1 F1 H1 v x st1 n1 r1 v1 ⟨n, xs, e, en, hsz, f, hs, hq⟩ => by
  subst e
  obtain ⟨hn, rfl⟩ := v1
  obtain ⟨hf, ws, h2, h3⟩ := r1.mu n xs en
  have ll : ∀ {c : Cell}, (st1.set n c).length = st1.length := List.length_set
  have rp : Rel K T α1 F1 H1 (st1.set n (.pin ws xs)) := r1.relabel en trivial ⟨hf, h2, h3⟩
  have ep : (st1.set n (.pin ws xs))[n]? = some (.pin ws xs) := get_setSelf en
  refine ⟨_, rfl, ⟨ws, .inl (.inl h2)⟩, fun D hD => lc_lstX hG (by rw [ll]; exact s.mono n1) rp h3 hsz (fun α' F' H' acc n' r' => ?_) f (by rw [ll]; exact hs ws) (fun α2 F2 H2 D n2 r2 d2 => ?_) D hD⟩
  · obtain ⟨_, h, _⟩ := r'.at_ n (.pin ws xs) (by rw [List.getElem?_append_left (by rw [ll]; exact hn)]; exact ep)
    rw [n'.ag n (by rw [ll]; exact hn)] at h
    exact .inl (.inl h)
  · have r3 := unpin r2 ep
    rw [List.set_set, set_id en] at r3
    rw [ll] at n2
    exact k α2 F2 H2 (.ref D) (.pd _) st1 (n1.trans n2) r3 d2 hq
end
/-! ### small things -/
theorem allP_nil : ∀ x ∈ ([] : List Val), x.Plain := fun x h => by cases h
theorem allP_cons {x : Val} {xs : List Val} (h : x.Plain) (t : ∀ y ∈ xs, y.Plain) : ∀ y ∈ x :: xs, y.Plain := fun y hy => by
  rcases List.mem_cons.mp hy with rfl | hy
  · exact h
  · exact t y hy
theorem putG_len {β : Type} (f : Str) (v : β) : ∀ fs : List (Str × β), (putG f v fs).length ≤ fs.length + 1
  | [] => Nat.le_refl _
  | (g, x) :: r => by
    show (if g = f then (g, v) :: r else (g, x) :: putG f v r).length ≤ _
    split
    · exact Nat.le_succ _
    · exact Nat.succ_le_succ (putG_len f v r)
theorem putG_lt {β : Type} {f : Str} {v : β} {fs : List (Str × β)} {n : Nat} (h : fs.length < n) : (putG f v fs).length < n + 1 := Nat.lt_of_le_of_lt (putG_len f v fs) (Nat.succ_lt_succ h)
theorem set_app {st jk : Sto} {n : Nat} {c c' : Cell} (h : st[n]? = some c) : (st ++ jk).set n c' = st.set n c' ++ jk := List.set_append_left n c' (List.getElem?_eq_some_iff.mp h).1
theorem get_app_l {st jk : Sto} {n : Nat} {c : Cell} (h : st[n]? = some c) : (st ++ jk)[n]? = some c := by
  rw [List.getElem?_append_left (List.getElem?_eq_some_iff.mp h).1]
  exact h
theorem take_set {st : Sto} {n k : Nat} {c : Cell} (h : k ≤ n) : (st.set n c).take k = st.take k := by
  apply List.ext_getElem?
  intro i
  rw [List.getElem?_take, List.getElem?_take]
  split
  · rw [List.getElem?_set_ne (by omega)]
  · rfl
theorem take_app {st0 st jk : Sto} (h : st.take st0.length = st0) : (st ++ jk).take st0.length = st0 := by
  have hl := congrArg List.length h
  rw [List.length_take] at hl
  rw [List.take_append_of_le_length (by omega)]
  exact h
theorem get_take {st0 st : Sto} (h : st.take st0.length = st0) {n : Nat} {c : Cell} (e : st0[n]? = some c) : st[n]? = some c := by
  rw [← h, List.getElem?_take] at e
  split at e
  · exact e
  · cases e
theorem take_le {st0 st : Sto} (h : st.take st0.length = st0) : st0.length ≤ st.length := by
  have hl := congrArg List.length h
  rw [List.length_take] at hl
  omega
theorem get_ge {st0 st : Sto} {n : Nat} {c : Cell} (e : (st0 ++ st)[n]? = some c) (h : st0.length ≤ n) : st[n - st0.length]? = some c := by
  rw [List.getElem?_append_right h] at e
  exact e
end Ct
namespace Ct
open PySem PySem.Spec PyProof.Rows L2 NdefX
theorem mk_fin {K : PySem.W.Frag} {T : TabI} {X : Cx} {body : List Stmt} {cells : List (Str × Addr)} {N : List Str} {sc : Scope} {n : Nat} {p : Pre} {tt : (V → L2.St → Hp → Prop) → L2.St → Hp → Prop} {vs : List V} {H : Hp} {Q : VK} {E : XK} (hp : PSC X body tt) (h : spP K T n p vs H Q E)
    (hw : ∀ (xs : List Val) (st : Sto) (Φ : Val → Sto → Prop), xs.length = n → p xs st Φ → WK K T tt (startS N xs) st (EndC K cells N sc Φ)) :
    ∃ t, PSC X body t ∧ t (fun v σ H1 => ∀ H2, Told cells N sc σ H1 H2 → Q v H2) (L2.start N vs) H := ⟨tt, hp, mk_run h hw⟩
end Ct

/-! CtU: dicts whose keys are tuples of ints; tuples that are tracked; a written dict becomes one that never changes. -/
namespace Ct
open PySem PySem.Spec PyProof.Rows L2
/-- a tracked tuple of ints -/
def tupO (ks : List Int) : Ob := ⟨fun F v => ∃ a, v = .ref a ∧ F a = some (.tup (ks.map V.int)), fun s ⟨a, e, h⟩ => ⟨a, e, s _ _ h⟩⟩
/-- a dict that never changes -/
def dicO (K : PySem.W.Frag) (kvs : List (List Int × PyData)) : Ob := ⟨fun F v => ∃ a od ws, v = .ref a ∧ F a = some (.frz od (.dT ws)) ∧ Kvs K F ws kvs, fun s ⟨a, od, ws, e, h, k⟩ => ⟨a, od, ws, e, s _ _ h, k.mono s⟩⟩
abbrev ksD (ks : List Int) : PyData := .tuple (ks.map PyData.int)
section
variable {K : PySem.W.Frag} {T : TabI} {α α' : Nat → Addr} {F F' H H' : Hp} {L L' : Nat} {ss : SS} {st : Sto} {Φ : Val → Sto → Prop} {te ta td ty tx : TE} {g : TG} {bd : TS} {P : Po}
theorem tupO_dp {ks : List Int} {v : V} (h : (tupO ks).φ F v) : Dp K F v (ksD ks) := by
  obtain ⟨a, rfl, e⟩ := h
  exact .tup (.inl (.inl e)) (dps_ints' ks)
/-- a tracked tuple, plain -/
theorem wr_tupL {r : R2} {ks : List Int} {y : Val} (h : WR K T r (.pd (ksD ks)) y st Φ) : WR K T r (.ob (tupO ks)) y st Φ := fun α F H vx vy r hx hy Q k => h α F H vx vy r (tupO_dp hx) hy Q k
theorem wr_tupR {r : R2} {ks : List Int} {x : Val} (h : WR K T r x (.pd (ksD ks)) st Φ) : WR K T r x (.ob (tupO ks)) st Φ := fun α F H vx vy r hx hy Q k => h α F H vx vy r hx (tupO_dp hy) Q k
theorem we_tupW {ks : List Int} (h : WE K T te ss st fun x st1 => x = .ob (tupO ks) ∧ Φ (.pd (ksD ks)) st1) : WE K T te ss st Φ := fun α F H σ r s Q k => h α F H σ r s Q fun α1 F1 H1 v x st1 n1 r1 v1 ⟨e, q⟩ => by
  subst e
  exact k α1 F1 H1 v (.pd (ksD ks)) st1 n1 r1 (tupO_dp v1) q
/-- tuple(x), x a list of ints -/
theorem wc_tupO {x : Val} {ks : List Int} (h : look x st = some (.list (ks.map PyData.int))) (q : Φ (.ob (tupO ks)) st) : WC K T (fun xs H Q => ∃ p ys, xs = [.ref p] ∧ ((SqL K H p ys ∧ ∀ l, H l = none → Q (.ref l) (upd H l (.tup ys))) ∨ (SqT K H p ys ∧ Q (.ref p) H))) [x] st Φ := fun α F H vs r hv Q k => by
  obtain ⟨v, rfl, h1⟩ := vrs1 hv
  obtain ⟨a, ys, rfl, h2, h3⟩ := look_lst r h1 h
  obtain rfl := dps_ints h3
  refine ⟨a, _, rfl, .inl ⟨h2, fun p hp => ?_⟩⟩
  have hF := none_of r hp
  exact k α (upd F p (.tup (ks.map V.int))) _ (.ref p) (.ob (tupO ks)) st (Nx.new hF) (r.new hp fun ps z => by cases z) ⟨p, rfl, upd_same⟩ q
/-! ### what a dict holds -/
def valL (kvs : List (List Int × PyData)) (k : List Int) : Option PyData := (kvs.find? fun kv => decide (kv.1 = k)).map (·.2)
def putL (kvs : List (List Int × PyData)) (k : List Int) (d : PyData) : List (List Int × PyData) := if (valL kvs k).isSome = true then kvs.map fun kv => if kv.1 = k then (kv.1, d) else kv else kvs ++ [(k, d)]
theorem inl_map {a b : List Int} : a.map (Sum.inl (β := Str)) = b.map Sum.inl ↔ a = b := by
  constructor
  · intro h
    induction a generalizing b with
    | nil =>
      cases b with
      | nil => rfl
      | cons y b => cases h
    | cons x a ih =>
      cases b with
      | nil => cases h
      | cons y b =>
        rw [List.map_cons, List.map_cons] at h
        injection h with h1 h2
        injection h1 with h1
        rw [h1, ih h2]
  · rintro rfl
    rfl
theorem Kvs.val {k : List Int} : ∀ {ws : List (List L2.Key × V)} {kvs : List (List Int × PyData)}, Kvs K F ws kvs → (valL kvs k = none ∧ valV ws (k.map Sum.inl) = none) ∨ ∃ d v, valL kvs k = some d ∧ valV ws (k.map Sum.inl) = some v ∧ Dp K F v d
  | _, _, .nil => .inl ⟨rfl, rfl⟩
  | _, _, .cons (k := k') (v := v) (d := d) (ws := ws) (kvs := kvs) h t => by
    by_cases e : k' = k
    · subst e
      exact .inr ⟨d, v, by simp [valL], by rw [valV_pos rfl], h⟩
    · have e2 : ¬ k'.map (Sum.inl (β := Str)) = k.map Sum.inl := fun z => e (inl_map.mp z)
      have e3 : valL ((k', d) :: kvs) k = valL kvs k := by
        unfold valL
        rw [List.find?_cons, decide_eq_false e]
      rw [e3, valV_neg (p := (k'.map Sum.inl, v)) e2]
      exact t.val
theorem Kvs.len : ∀ {ws : List (List L2.Key × V)} {kvs : List (List Int × PyData)}, Kvs K F ws kvs → ws.length = kvs.length
  | _, _, .nil => rfl
  | _, _, .cons _ t => congrArg (· + 1) t.len
theorem Kvs.get {i : Nat} : ∀ {i : Nat} {ws : List (List L2.Key × V)} {kvs : List (List Int × PyData)} {k : List L2.Key} {v : V}, Kvs K F ws kvs → ws[i]? = some (k, v) → ∃ ks d, kvs[i]? = some (ks, d) ∧ k = ks.map Sum.inl ∧ Dp K F v d
  | _, _, _, _, _, .nil, e => by simp at e
  | 0, _, _, _, _, .cons (k := k') (d := d) h _, e => by
    simp at e
    obtain ⟨rfl, rfl⟩ := e
    exact ⟨k', d, rfl, rfl, h⟩
  | i + 1, _, _, _, _, .cons _ t, e => by
    simp at e
    obtain ⟨ks, d, h1, h2, h3⟩ := t.get (i := i) e
    exact ⟨ks, d, by simpa using h1, h2, h3⟩
theorem Kvs.repl {k : List Int} {v : V} {d : PyData} (hd : Dp K F v d) : ∀ {ws : List (List L2.Key × V)} {kvs : List (List Int × PyData)}, Kvs K F ws kvs →
    Kvs K F (ws.map fun kv => if kv.1 = k.map Sum.inl then (kv.1, v) else kv) (kvs.map fun kv => if kv.1 = k then (kv.1, d) else kv)
  | _, _, .nil => .nil
  | _, _, .cons (k := k') (v := v') (d := d') h t => by
    rw [List.map_cons, List.map_cons]
    by_cases e : k' = k
    · subst e
      simp only [if_true]
      exact .cons hd (t.repl hd)
    · rw [if_neg (fun z => e (inl_map.mp z)), if_neg e]
      exact .cons h (t.repl hd)
theorem Kvs.snoc {k : List Int} {v : V} {d : PyData} (hd : Dp K F v d) : ∀ {ws : List (List L2.Key × V)} {kvs : List (List Int × PyData)}, Kvs K F ws kvs → Kvs K F (ws ++ [(k.map Sum.inl, v)]) (kvs ++ [(k, d)])
  | _, _, .nil => .cons hd .nil
  | _, _, .cons h t => .cons h (t.snoc hd)
theorem Kvs.put {k : List Int} {v : V} {d : PyData} {ws : List (List L2.Key × V)} {kvs : List (List Int × PyData)} (h : Kvs K F ws kvs) (hd : Dp K F v d) : Kvs K F (putK ws (k.map Sum.inl) v) (putL kvs k d) := by
  unfold putK putL
  rw [valV_any]
  rcases h.val (k := k) with ⟨e1, e2⟩ | ⟨d', v', e1, e2, _⟩
  · rw [e1, e2]
    exact h.snoc hd
  · rw [e1, e2]
    exact h.repl hd
theorem kvi (ks : List Int) : (ks.map (Sum.inl (β := Str))).map L2.kV = ks.map V.int := by
  rw [List.map_map]
  rfl
/-- what is read as a dict -/
inductive IsDic (K : PySem.W.Frag) (st : Sto) (kvs : List (List Int × PyData)) : Val → Prop
  | cell {n : Nat} (h : st[n]? = some (.dt kvs)) : IsDic K st kvs (.cell n)
  | ob : IsDic K st kvs (.ob (dicO K kvs))
theorem IsDic.ok {x : Val} {v : V} {kvs : List (List Int × PyData)} (r : Rel K T α F H st) (hv : VR K α F st.length x v) (h : IsDic K st kvs x) : ∃ a ws, v = .ref a ∧ Rd H a (.dT ws) ∧ Kvs K F ws kvs := by
  cases h with
  | cell h =>
    obtain ⟨_, ws, h2, h3⟩ := r.at_ _ _ h
    exact ⟨_, ws, hv.2, .inl h2, h3⟩
  | ob =>
    obtain ⟨a, od, ws, e, h2, h3⟩ := hv
    exact ⟨a, ws, e, .inr ⟨od, r.sub _ _ h2⟩, h3⟩
theorem we_dnew (q : Φ (.cell st.length) (st ++ [.dt []])) : WE K T tDNewT ss st Φ := fun α F H σ r s Q k p hp => by
  have hlen : (st ++ [Cell.dt []]).length = st.length + 1 := by simp
  refine k (ext α st.length p) F _ (.ref p) (.cell st.length) (st ++ [.dt []]) (by rw [hlen]; exact Nx.ext) (r.cellG (c := .dt []) hp ⟨none_of r hp, [], upd_same, .nil⟩ fun ps z => by cases z) ?_ q
  exact ⟨by rw [hlen]; exact Nat.lt_succ_self _, by rw [ext_same]⟩
theorem we_dget {kvs : List (List Int × PyData)} {ks : List Int} {d : PyData} (h : WE K T td ss st fun x st1 => WE K T ty ss st1 fun y st2 => IsDic K st2 kvs x ∧ y = .ob (tupO ks) ∧ valL kvs ks = some d ∧ Φ (.pd d) st2) : WE K T (tDGet td ty) ss st Φ := fun α F H σ r s Q k =>
  h α F H σ r s _ fun α1 F1 H1 vx x st1 n1 r1 v1 h1 => h1 α1 F1 H1 σ r1 (s.mono n1) _ fun α2 F2 H2 vy y st2 n2 r2 v2 ⟨hi, ey, hv, q⟩ => by
    subst ey
    obtain ⟨b, rfl, eb⟩ := v2
    obtain ⟨a, ws, rfl, hr, hk⟩ := hi.ok r2 (v1.mono n2)
    rcases hk.val (k := ks) with ⟨e1, _⟩ | ⟨d', v', e1, e2, hd⟩
    · rw [hv] at e1
      cases e1
    · rw [hv] at e1
      cases e1
      exact ⟨a, v', rfl, .inr ⟨ws, ks.map Sum.inl, b, hr, rfl, by rw [kvi]; exact r2.sub _ _ eb, e2.symm⟩, k α2 F2 H2 v' (.pd d) st2 (n1.trans n2) r2 hd q⟩
theorem we_dget2 {kvs : List (List Int × PyData)} {ks : List Int} {z : PyData} (h : WE K T td ss st fun x st1 => IsDic K st1 kvs x ∧ WE K T ty ss st1 fun y st2 => y = .ob (tupO ks) ∧ WE K T tx ss st2 fun w st3 => w = .pd z ∧ IsDic K st3 kvs x ∧ Φ (.pd ((valL kvs ks).getD z)) st3) : WE K T (tDGet2 td ty tx) ss st Φ := fun α F H σ r s Q k =>
  h α F H σ r s _ fun α1 F1 H1 vx x st1 n1 r1 v1 ⟨hi1, h1⟩ => by
    obtain ⟨a, ws, rfl, hr, hk⟩ := hi1.ok r1 v1
    refine ⟨a, rfl, .inr ⟨ws, hr⟩, h1 α1 F1 H1 σ r1 (s.mono n1) _ fun α2 F2 H2 vy y st2 n2 r2 v2 ⟨ey, h2⟩ => ?_⟩
    subst ey
    obtain ⟨b, rfl, eb⟩ := v2
    refine h2 α2 F2 H2 σ r2 (s.mono (n1.trans n2)) _ fun α3 F3 H3 vz w st3 n3 r3 v3 ⟨ew, hi, q⟩ => ?_
    subst ew
    obtain ⟨a', ws', e', hr', hk'⟩ := hi.ok r3 (v1.mono (n2.trans n3))
    cases e'
    have nn := n1.trans (n2.trans n3)
    have eb3 : H3 b = some (.tup ((ks.map Sum.inl).map L2.kV)) := by rw [kvi]; exact r3.sub _ _ (n3.sub _ _ eb)
    rcases hk'.val (k := ks) with ⟨e1, e2⟩ | ⟨d', v', e1, e2, hd⟩
    · rw [e1] at q
      exact ⟨none, .inr ⟨ws', ks.map Sum.inl, b, hr', rfl, eb3, e2.symm⟩, k α3 F3 H3 vz (.pd z) st3 nn r3 v3 q⟩
    · rw [e1] at q
      exact ⟨some v', .inr ⟨ws', ks.map Sum.inl, b, hr', rfl, eb3, e2.symm⟩, k α3 F3 H3 v' (.pd d') st3 nn r3 hd q⟩
theorem wx_dict {n : Nat} {kvs : List (List Int × PyData)} {ks : List Int} {d : PyData} {Y : Sto → Prop} (h : st[n]? = some (.dt kvs)) (hl : kvs.length < sizeLine) (q : Y (st.set n (.dt (putL kvs ks d)))) : WX K T rSetD (.cell n) (.ob (tupO ks)) (.pd d) st Y := fun α F H vo vi vx r ho hi hx Q k => by
  obtain ⟨_, rfl⟩ := ho
  obtain ⟨b, rfl, eb⟩ := hi
  obtain ⟨h1, ws, h2, h3⟩ := r.at_ n _ h
  refine ⟨_, _, rfl, .inr ⟨ws, ks.map Sum.inl, b, h2, rfl, by rw [kvi]; exact r.sub _ _ eb, by rw [h3.len]; exact hl, rfl⟩, k α F _ _ (by rw [List.length_set]; exact Nx.refl) (r.writeG (c := .dt (putL kvs ks d)) h trivial h2 (fun ps z => by cases z) (fun φ z => by cases z) ⟨h1, _, upd_same, h3.put hx⟩) q⟩
/-! ### a written dict becomes one that never changes -/
def tFrz (t : TE) : TE := fun σ H Q => t σ H fun v H1 => Q v H1 ∨ ∃ d u, v = .ref d ∧ H1 d = some u ∧ Mut (some u) ∧ ∀ od, Q v (upd H1 d (.frz od u))
theorem pe_frz {X : Cx} {e : Expr} {t : TE} (h : PE X e t) : PE X e (tFrz t) := ⟨fun pins s σ H Q I hw => thn (h.run pins s σ H _ I hw) fun v s1 ⟨x, H1, I1, r, q⟩ => by
  rcases q with q | ⟨d, u, e, hd, mu, q⟩
  · exact ⟨x, H1, I1, r, q⟩
  · obtain ⟨od, I2⟩ := I1.lock hd mu
    exact ⟨x, _, I2, r, q od⟩⟩
theorem we_nofrz (h : WE K T te ss st Φ) : WE K T (tFrz te) ss st Φ := fun α F H σ r s Q k => h α F H σ r s _ fun α1 F1 H1 v x st1 n1 r1 v1 q => .inl (k α1 F1 H1 v x st1 n1 r1 v1 q)
theorem Rel.lockG {n : Nat} {c0 : Cell} {u o : HO} (r : Rel K T α F H st) (h : st[n]? = some c0) (l0 : c0.live) (hu : H (α n) = some u) (nt : ∀ ps, u ≠ .tbl ps) (nx : ∀ φ, u ≠ .ext φ) (no : ∀ ps, o ≠ .tbl ps) : Rel K T α (upd F (α n) o) (upd H (α n) o) (st.set n .gone) := by
  have h1 := (r.at_ n _ h).off l0
  have sF : Same F (upd F (α n) o) := same_upd h1
  refine ⟨fun b x e => ?_, fun b ps e => ?_, T.write hu nt nx r.tab, fun m x e => ?_, fun m k x y e1 e2 l1 l2 e => ?_⟩
  · by_cases hb : b = α n
    · subst hb
      rw [upd_same] at e ⊢
      exact e
    · rw [upd_ne hb] at e ⊢
      exact r.sub _ _ e
  · by_cases hb : b = α n
    · subst hb
      rw [upd_same] at e
      exact no ps (Option.some.inj e)
    · rw [upd_ne hb] at e
      exact r.nt b ps e
  · rw [List.length_set]
    rcases get_set e with ⟨rfl, q⟩ | ⟨hn, q⟩
    · rw [q]
      exact ⟨o, upd_same⟩
    · have ne : x.live → α m ≠ α n := fun l z => hn (r.inj m n _ _ q h l l0 z)
      exact (r.at_ m x q).move ⟨sF, Nat.le_refl _, fun _ _ => rfl⟩ (fun l h => by rw [upd_ne (ne l)]; exact h) fun l o _ h1 => by rw [upd_ne (ne l)]; exact h1
  · rcases get_set e1 with ⟨_, q⟩ | ⟨_, q1⟩
    · rw [q] at l1
      exact l1.elim
    · rcases get_set e2 with ⟨_, q⟩ | ⟨_, q2⟩
      · rw [q] at l2
        exact l2.elim
      · exact r.inj m k _ _ q1 q2 l1 l2 e
theorem we_dfrz (h : WE K T te ss st fun x st1 => ∃ n kvs, x = .cell n ∧ st1[n]? = some (.dt kvs) ∧ Φ (.ob (dicO K kvs)) (st1.set n .gone)) : WE K T (tFrz te) ss st Φ := fun α F H σ r s Q k => h α F H σ r s _ fun α1 F1 H1 v x st1 n1 r1 v1 ⟨n, kvs, e, hn, q⟩ => by
  subst e
  obtain ⟨_, rfl⟩ := v1
  obtain ⟨h1, ws, h2, h3⟩ := r1.at_ n _ hn
  refine .inr ⟨_, _, rfl, h2, trivial, fun od => ?_⟩
  have sF : Same F1 (upd F1 (α1 n) (.frz od (.dT ws))) := same_upd h1
  exact k α1 _ _ (.ref (α1 n)) (.ob (dicO K kvs)) _ (n1.trans ⟨sF, by rw [List.length_set]; exact Nat.le_refl _, fun _ _ => rfl⟩) (r1.lockG hn trivial h2 (fun ps z => by cases z) (fun φ z => by cases z) fun ps z => by cases z) ⟨_, od, ws, rfl, upd_same, h3.mono sF⟩ q
/-- a tracked tuple is learnt -/
theorem Rel.learn {q : Addr} {xs : List V} (r : Rel K T α F H st) (h : H q = some (.tup xs)) : ∃ F', Rel K T α F' H st ∧ Nx α F st.length α F' st.length ∧ F' q = some (.tup xs) := by
  cases hF : F q with
  | some o =>
    have := r.sub _ _ hF
    rw [h] at this
    cases this
    exact ⟨F, r, Nx.refl, hF⟩
  | none =>
    have sF : Same F (upd F q (.tup xs)) := same_upd hF
    refine ⟨upd F q (.tup xs), ⟨fun b o e => ?_, fun b ps e => ?_, r.tab, fun m c e => ?_, r.inj⟩, ⟨sF, Nat.le_refl _, fun _ _ => rfl⟩, upd_same⟩
    · by_cases hb : b = q
      · subst hb
        rw [upd_same] at e
        cases e
        exact h
      · rw [upd_ne hb] at e
        exact r.sub _ _ e
    · by_cases hb : b = q
      · subst hb
        rw [upd_same] at e
        cases e
      · rw [upd_ne hb] at e
        exact r.nt b ps e
    · have hc := r.at_ m c e
      refine hc.move ⟨sF, Nat.le_refl _, fun _ _ => rfl⟩ (fun l z => ?_) fun _ o _ z => z
      have ne : α m ≠ q := fun z => by
        cases c with
        | mu xs =>
          obtain ⟨_, vs, h2, _⟩ := hc
          rw [z, h] at h2
          cases h2
        | fr xs => cases l
        | ml xs =>
          obtain ⟨_, vs, h2, _⟩ := hc
          rw [z, h] at h2
          cases h2
        | ins C fs =>
          obtain ⟨_, dx, vs, h2, _⟩ := hc
          rw [z, h] at h2
          cases h2
        | gone => cases l
        | pin vs xs =>
          have := hc.2.1
          rw [z, h] at this
          cases this
        | dt kvs =>
          obtain ⟨_, ws, h2, _⟩ := hc
          rw [z, h] at h2
          cases h2
      rw [upd_ne ne]
      exact z
/-- for k in d -/
theorem ws_forK (h : WE K T td ss st fun x st1 => ∃ kvs, x = .ob (dicO K kvs) ∧ ∃ I : Nat → SS → Sto → Prop, I 0 ss st1 ∧
    (∀ (i : Nat) (ks : List Int) (d : PyData) (ss' : SS) (st' : Sto), kvs[i]? = some (ks, d) → I i ss' st' → WG K T g (.ob (tupO ks)) ss' st' fun ss2 st2 => WS K T bd ss2 st2 (inTurn P (I (i + 1)))) ∧ ∀ (ss' : SS) (st' : Sto), I kvs.length ss' st' → P.nx ss' st') :
    WS K T (tFor (iKeys td) g bd) ss st P := fun α F H σ r s D o => h α F H σ r s _ fun α1 F1 H1 v x st1 n1 r1 v1 ⟨kvs, e, I, i0, hs, hd⟩ => by
  subst e
  obtain ⟨a, od, ws, rfl, h1, h2⟩ := v1
  have o1 := o.mono n1
  refine ⟨a, od, rfl, .inr ⟨ws, r1.sub _ _ h1, for_it walk_keysT (fun i σ' H' => ∃ α' F' ss' st', Nx α1 F1 st1.length α' F' (List.length st') ∧ Rel K T α' F' H' st' ∧ SR K α' F' st'.length ss' σ' ∧ I i ss' st')
    ⟨α1, F1, ss, st1, Nx.refl, r1, s.mono n1, i0⟩ (fun i σ' H' _ ⟨α', F', ss', st', n', r', _, _⟩ => r'.sub _ _ (n'.sub _ _ h1)) (fun i y σ' H' H'' hi ⟨α', F', ss', st', n', r', s', hI⟩ hy => ?_)
    (fun σ' H' ⟨α', F', ss', st', n', r', s', hi⟩ => o1.nx α' F' H' σ' ss' st' n' r' s' (hd ss' st' (by rw [← h2.len]; exact hi)))⟩⟩
  obtain ⟨rfl, k, v, q, hk, rfl, hq⟩ := hy
  obtain ⟨ks, d, hd1, rfl, dd⟩ := h2.get (i := i) hk
  rw [kvi] at hq
  obtain ⟨F2, r2, n2, hF2⟩ := r'.learn hq
  exact hs i ks d ss' st' hd1 hI α' F2 H'' σ' (.ref q) r2 (s'.mono n2) ⟨q, rfl, hF2⟩ _ fun α3 F3 H3 σ3 ss3 st3 n3 r3 s3 q3 => q3 α3 F3 H3 σ3 r3 s3 _
    ⟨fun α4 F4 H4 σ4 ss4 st4 n4 r4 s4 q4 => ⟨α4, F4, ss4, st4, n'.trans (n2.trans (n3.trans n4)), r4, s4, q4⟩, fun α4 F4 H4 v4 x4 st4 n4 => o1.rt α4 F4 H4 v4 x4 st4 (n'.trans (n2.trans (n3.trans n4))),
      fun α4 F4 H4 σ4 ss4 st4 n4 => o1.nx α4 F4 H4 σ4 ss4 st4 (n'.trans (n2.trans (n3.trans n4))), fun α4 F4 H4 σ4 ss4 st4 n4 r4 s4 q4 => ⟨α4, F4, ss4, st4, n'.trans (n2.trans (n3.trans n4)), r4, s4, q4⟩⟩
end
end Ct

/-! CtV: slots kept in normal form; xs.extend(ys), xs[::-1], bits. -/
namespace Ct
open PySem PySem.Spec PyProof.Rows L2
section
variable {K : PySem.W.Frag} {T : TabI} {ss ss' : SS} {st : Sto} {Φ : Val → Sto → Prop} {te ta tb : TE} {P : Po} {X : SS → Sto → Prop}
/-- a name's slot, the slots in normal form -/
theorem wg_nm {i : Nat} {x : Val} (q : X ss' st) (e : ss.set i (some x) = ss' := by first | (simp only [List.set_cons_zero, List.set_cons_succ]; rfl) | rfl) : WG K T (gName i) x ss st X := by
  subst e
  exact wg_name q
/-- xs.extend(ys) -/
theorem ws_ext (h : WE K T ta ss st fun o st1 => ∃ n ys, o = .cell n ∧ st1[n]? = some (.mu ys) ∧ WE K T te ss st1 fun x st2 => ∃ m xs zs, x = .cell m ∧ st2[n]? = some (.mu xs) ∧ st2[m]? = some (.mu zs) ∧ xs.length + zs.length ≤ sizeLine ∧ P.nx ss (st2.set n (.mu (xs ++ zs)))) :
    WS K T (tDrop (tBM K "list" rExtend ta (tCons te tNil))) ss st P := fun α F H σ r s D o =>
  h α F H σ r s _ fun α1 F1 H1 vo xo st1 n1 r1 v1 ⟨n, ys, eo, ey, h1⟩ => by
    subst eo
    obtain ⟨hn, rfl⟩ := v1
    obtain ⟨_, us, eu, du⟩ := r1.mu n ys ey
    refine ⟨.inl ⟨rfl, us, .inl (.inl eu)⟩, h1 α1 F1 H1 σ r1 (s.mono n1) _ fun α2 F2 H2 v x st2 n2 r2 v2 ⟨m, xs, zs, ex, en, em, hl, q⟩ => ?_⟩
    subst ex
    obtain ⟨_, rfl⟩ := v2
    obtain ⟨_, vs, e1, d1⟩ := r2.mu n xs en
    obtain ⟨_, ws, e2, d2⟩ := r2.mu m zs em
    have hr := r2.write en (dps_app d1 d2)
    rw [n2.ag n hn] at e1 hr
    have nn := n1.trans n2
    exact ⟨_, _, vs, ws, rfl, rfl, e1, e2, by rw [dps_len d1, dps_len d2]; exact hl, o.nx α2 F2 _ σ ss _ (by rw [List.length_set]; exact nn) hr (by rw [List.length_set]; exact s.mono nn) q⟩
/-- xs[::-1] -/
theorem dps_rev {F : Hp} {vs : List V} {ds : List PyData} (h : DpAll K F vs ds) : DpAll K F vs.reverse ds.reverse := by
  have key : ∀ {vs : List V} {ds : List PyData} {ws : List V} {es : List PyData}, DpAll K F vs ds → DpAll K F ws es → DpAll K F (vs.reverseAux ws) (ds.reverseAux es) := by
    intro vs
    induction vs with
    | nil =>
      intro ds ws es h g
      cases h
      exact g
    | cons v vs ih =>
      intro ds ws es h g
      cases h with
      | cons h t =>
        have := ih t (.cons h g)
        exact this
  exact key h .nil
theorem we_rev (h : WE K T te ss st fun x st1 => ∃ ds, look x st1 = some (.list ds) ∧ Φ (.pd (.list ds.reverse)) st1) : WE K T (tRevL K te) ss st Φ := fun α F H σ r s Q k => h α F H σ r s _ fun α1 F1 H1 v x st1 n1 r1 v1 ⟨ds, hl, q⟩ => by
  obtain ⟨a, vs, rfl, h2, h3⟩ := look_lst r1 v1 hl
  refine ⟨a, vs, rfl, h2, fun p hp => ?_⟩
  have hF := none_of r1 hp
  exact k α1 (upd F1 p (.lst vs.reverse)) _ (.ref p) (.pd (.list ds.reverse)) st1 (n1.trans (Nx.new hF)) (r1.new hp fun ps z => by cases z) (.lst (.inl (.inl upd_same)) (dpsm (same_upd hF) (dps_rev h3))) q
theorem we_bits (h : WE K T te ss st fun x st1 => ∃ i : Int, x = .pd (.int i) ∧ Φ (.pd (.int (Builtin.Int.intBits i : Nat))) st1) : WE K T (tBits te) ss st Φ := fun α F H σ r s Q k => h α F H σ r s _ fun α1 F1 H1 v x st1 n1 r1 v1 ⟨i, e, q⟩ => by
  subst e
  obtain rfl := dp_int v1
  exact ⟨i, rfl, k α1 F1 H1 _ (.pd _) st1 n1 r1 (Dp.int _) q⟩
theorem wr_shl {i j : Int} (h : CPow i j) (q : Φ (.pd (.int (i * 2 ^ j.toNat))) st) : WR K T (rI CPow fun i j => .int (i * 2 ^ j.toNat)) (.pd (.int i)) (.pd (.int j)) st Φ := wr_I h rfl q
theorem wr_shlW {i j : Int} (h : CShl i j) (q : Φ (.pd (.int (i * 2 ^ j.toNat))) st) : WR K T (rI CShl fun i j => .int (i * 2 ^ j.toNat)) (.pd (.int i)) (.pd (.int j)) st Φ := wr_I h rfl q
theorem wr_shr {i j : Int} (h : 0 ≤ j) (q : Φ (.pd (.int (i / 2 ^ j.toNat))) st) : WR K T (rI (fun _ j => 0 ≤ j) fun i j => .int (i / 2 ^ j.toNat)) (.pd (.int i)) (.pd (.int j)) st Φ := wr_I h rfl q
theorem wr_band {i j : Int} (q : Φ (.pd (.int (Builtin.bitAnd i j))) st) : WR K T (rI0 fun i j => .int (Builtin.bitAnd i j)) (.pd (.int i)) (.pd (.int j)) st Φ := wr_I0 rfl q
theorem wr_bor {i j : Int} (q : Φ (.pd (.int (Builtin.bitOr i j))) st) : WR K T (rI0 fun i j => .int (Builtin.bitOr i j)) (.pd (.int i)) (.pd (.int j)) st Φ := wr_I0 rfl q
end
end Ct

/-! CtW: isinstance of an instance of an own class. -/
namespace Ct
open PySem L2
/-- what isinstance asks of an own class -/
structure InsTy (K : PySem.W.Frag) (C : Addr) : Prop where
  cls : Cls K C
  ha : PySem.W.findIn K (.ref C) "__class__" = some (some (.builtin "object.__class__"))
  hn : PySem.W.specialIn K (.builtin "object.__class__") "__get__" = some (some (.builtin "getset_descriptor.__get__"))
  htk : PySem.W.takesIn K (.builtin "object.__class__") = some true
  hm : PySem.W.mroIn K C (.type "object") = some true
  row : PySem.W.kitAny K (.ref C) [.type "list", .type "tuple"] = some false
  own : PySem.W.kitOne K (.ref C) (.ref C) = some true
section
variable {K : PySem.W.Frag} {T : TabI} {ss : SS} {st : Sto} {Φ : Val → Sto → Prop} {te : TE}
theorem ty_ins {C : Addr} {fs : List (Str × Val)} {α : Nat → Addr} {F H : Hp} {v : V} (it : InsTy K C) (r : Rel K T α F H st) (h : (insO K C fs).φ F v) : TyX K H v (.ref C) := by
  obtain ⟨a, dx, vs, rfl, e, _⟩ := h
  exact .base (.ins (r.sub _ _ e) it.cls it.ha it.hn it.htk it.hm)
theorem wr_isNO {C : Addr} {fs : List (Str × Val)} (q : Φ (.pd (.bool false)) st) : WR K T (fun x y H Q => y = .non ∧ Q (.bl (decide (x = .non))) H) (.ob (insO K C fs)) (.pd .none) st Φ := fun α F H vx vy r hx hy Q k => by
  obtain rfl := dp_non hy
  obtain ⟨a, dx, vs, rfl, e, _⟩ := hx
  refine ⟨rfl, k α F H _ (.pd _) st Nx.refl r ?_ q⟩
  rw [decide_eq_false (fun z => by cases z)]
  exact Dp.bl _
theorem wc_isiO {C D : Addr} {fs : List (Str × Val)} {b : Bool} (it : InsTy K C) (hk : PySem.W.kitOne K (.ref C) (.ref D) = some b) (q : Φ (.pd (.bool b)) st) : WC K T (rIsi K) [.ob (insO K C fs), .ob (clsO D)] st Φ := fun α F H vs r hv Q k => by
  obtain ⟨v, w, rfl, h1, h2⟩ := vrs2 hv
  have h2 : w = .ref D := h2
  subst h2
  exact ⟨v, .ref D, _, .ref D, b, rfl, .own D, ty_ins it r h1, hk, k α F H _ (.pd _) st Nx.refl r (Dp.bl _) q⟩
theorem we_isiTO {a b : String} {C : Addr} {fs : List (Str × Val)} {c : Bool} (it : InsTy K C) (hk : PySem.W.kitAny K (.ref C) [.type a, .type b] = some c) (h : WE K T te ss st fun x st1 => x = .ob (insO K C fs) ∧ Φ (.pd (.bool c)) st1) :
    WE K T (tCB (rIsiT K) (tCons te (tCons (tTup (tCons (tC (.ty a)) (tCons (tC (.ty b)) tNil))) tNil))) ss st Φ := fun α F H σ r s Q k =>
  h α F H σ r s _ fun α1 F1 H1 v x st1 n1 r1 v1 ⟨e, q⟩ => by
    subst e
    refine ⟨(show 2 ≤ sizeLine by decide), fun p hp => ?_⟩
    have hF := none_of r1 hp
    have r2 : Rel K T α1 (upd F1 p (.tup [.ty a, .ty b])) (upd H1 p (.tup [.ty a, .ty b])) st1 := r1.new hp fun ps z => by cases z
    have nn : Nx α1 F1 st1.length α1 (upd F1 p (.tup [.ty a, .ty b])) st1.length := Nx.new hF
    exact ⟨v, p, [.ty a, .ty b], _, [.type a, .type b], c, rfl, upd_same, .cons (.ty a) (.cons (.ty b) .nil), ty_ins it r2 (v1.mono nn), hk, k α1 _ _ _ (.pd (.bool c)) st1 (n1.trans nn) r2 (Dp.bl _) q⟩
/-- range(hi, lo, -1) -/
theorem ws_forR3d {g : TG} {bd : TS} {P : Po} {t : TA} (h : WA K T t ss st fun xs st1 => ∃ hi lo, xs = [.pd (.int hi), .pd (.int lo), .pd (.int (-1))] ∧ (-(2 ^ 62) ≤ hi ∧ hi < 2 ^ 62 ∧ -(2 ^ 62) ≤ lo ∧ lo < 2 ^ 62) ∧ ∃ I : Nat → SS → Sto → Prop, I 0 ss st1 ∧
      (∀ (i : Nat) (ss' : SS) (st' : Sto), i < (hi - lo).toNat → I i ss' st' → WG K T g (.pd (.int (hi + (i : Int) * (-1)))) ss' st' fun ss2 st2 => WS K T bd ss2 st2 (inTurn P (I (i + 1)))) ∧ ∀ (ss' : SS) (st' : Sto), I (hi - lo).toNat ss' st' → P.nx ss' st') :
    WS K T (tFor (iRng3 t) g bd) ss st P := fun α F H σ r s D o => h α F H σ r s _ fun α1 F1 H1 vs xs st1 n1 r1 v1 ⟨hi, lo, e, b, I, i0, hs, hd⟩ => by
  subst e
  obtain ⟨v, w, u, rfl, hv, hw, hu⟩ : ∃ v w u, vs = [v, w, u] ∧ VR K α1 F1 st1.length (.pd (.int hi)) v ∧ VR K α1 F1 st1.length (.pd (.int lo)) w ∧ VR K α1 F1 st1.length (.pd (.int (-1))) u := by
    cases v1 with
    | cons h1 t1 => cases t1 with
      | cons h2 t2 => cases t2 with
        | cons h3 t3 =>
          cases t3
          exact ⟨_, _, _, rfl, h1, h2, h3⟩
  obtain rfl := dp_int hv
  obtain rfl := dp_int hw
  obtain rfl := dp_int hu
  have o1 := o.mono n1
  refine ⟨hi, lo, -1, (hi - lo).toNat, rfl, .neg b.1 b.2.1 b.2.2.1 b.2.2.2, ?_⟩
  refine ⟨fun i m σ' H' => m = (hi - lo).toNat - i ∧ i ≤ (hi - lo).toNat ∧ ∃ α' F' ss' st', Nx α1 F1 st1.length α' F' (List.length st') ∧ Rel K T α' F' H' st' ∧ SR K α' F' st'.length ss' σ' ∧ I i ss' st',
    ⟨(hi - lo).toNat, by simp, Nat.zero_le _, α1, F1, ss, st1, Nx.refl, r1, s.mono n1, i0⟩, ?_⟩
  rintro i m σ' H' ⟨rfl, hi', α', F', ss', st', n', r', s', hI⟩
  by_cases hlt : i < (hi - lo).toNat
  · refine .inr ⟨hlt, fun σ2 H2 => ∃ α' F' ss' st', Nx α1 F1 st1.length α' F' (List.length st') ∧ Rel K T α' F' H2 st' ∧ SR K α' F' st'.length ss' σ2 ∧ I (i + 1) ss' st', fun σ2 H2 p' => ⟨(hi - lo).toNat - (i + 1), by omega, rfl, hlt, p'⟩, fun x H2 y => ?_⟩
    obtain ⟨e, y⟩ := y
    subst e y
    exact hs i ss' st' hlt hI α' F' _ σ' (.int (hi + (i : Int) * (-1))) r' s' (Dp.int _) _ fun α2 F2 H2 σ2 ss2 st2 n2 r2 s2 q => q α2 F2 H2 σ2 r2 s2 _
      ⟨fun α3 F3 H3 σ3 ss3 st3 n3 r3 s3 q3 => ⟨α3, F3, ss3, st3, n'.trans (n2.trans n3), r3, s3, q3⟩, fun α3 F3 H3 v3 x3 st3 n3 => o1.rt α3 F3 H3 v3 x3 st3 (n'.trans (n2.trans n3)),
        fun α3 F3 H3 σ3 ss3 st3 n3 => o1.nx α3 F3 H3 σ3 ss3 st3 (n'.trans (n2.trans n3)), fun α3 F3 H3 σ3 ss3 st3 n3 r3 s3 q3 => ⟨α3, F3, ss3, st3, n'.trans (n2.trans n3), r3, s3, q3⟩⟩
  · have e : i = (hi - lo).toNat := by omega
    subst e
    exact .inl ⟨Nat.le_refl _, o1.nx α' F' H' σ' ss' st' n' r' s' (hd ss' st' hI)⟩
end
end Ct

/-! KP: plans on pages, houses as values, plays: plain mirrors and promises (for every law). -/
namespace Kp
open PySem L2 Ct PyProof.Rows NdefX

abbrev Sec := Int × Int × Int
abbrev secD (s : Sec) : PyData := .tuple [.int s.1, .int s.2.1, .int s.2.2]
def SecOk (s : Sec) : Prop := 0 ≤ s.1 ∧ s.1 ≤ s.2.1 ∧ 0 ≤ s.2.2 ∧ s.2.2 ≤ s.2.1 - s.1 ∧ s.2.1 ≤ 10000
/-- a plan on pages: start, page, range, sections, tells -/
structure PlanR where
  s : Int
  H : Int
  r : Int
  ss : List Sec
  ts : List (Int × Int)
def planF (p : PlanR) : List (Str × Val) := [("start_line", .pd (.int p.s)), ("page_height", .pd (.int p.H)), ("ruler_told", .pd .none), ("range_most", .pd (.int p.r)), ("section_rows", .pd (.list (p.ss.map secD))), ("tell_rows", .pd (.list (p.ts.map pairT)))]
abbrev pagesD (H : Int) : PyData := .tuple [.str "pages", .int H]
abbrev worldD (p : PlanR) : PyData := .list [.int p.s, pagesD p.H, .int p.r, .list (p.ss.map secD), .list (p.ts.map pairT)]
structure PlanOk (p : PlanR) : Prop where
  s0 : 0 ≤ p.s
  s1 : p.s ≤ 1000000
  H1 : 1 ≤ p.H
  H2 : p.H ≤ 10000
  r1 : 1 ≤ p.r
  r2 : p.r ≤ 10
  sn : p.ss.length ≤ 60
  tn : p.ts.length ≤ 60
  sec : ∀ s ∈ p.ss, SecOk s
  tel : ∀ t ∈ p.ts, 0 ≤ t.1 ∧ t.1 < t.2 ∧ t.2 ≤ p.ss.length
  srt : p.ts.Pairwise fun a b => a.1 < b.1 ∨ (a.1 = b.1 ∧ a.2 < b.2)
abbrev planO (K : PySem.W.Frag) (C : Addr) (p : PlanR) : Val := .ob (insO K C (planF p))
theorem planO_plain (K : PySem.W.Frag) (C : Addr) (p : PlanR) : (planO K C p).Plain := insO_plain fun x hx => by
  unfold planF at hx
  simp only [List.mem_cons, List.not_mem_nil, or_false] at hx
  rcases hx with rfl | rfl | rfl | rfl | rfl | rfl <;> exact trivial
/-! ### marks -/
def firstTell (ts : List (Int × Int)) (mark : Int) : Option Int := (ts.find? fun t => decide (t.2 = mark)).map Prod.fst
def marksAt (p : PlanR) (t : Int) : List Int := ((List.range p.ss.length).map fun (i : Nat) => 1 + (i : Int)).filter fun j => decide (firstTell p.ts j = some t)
/-! ### houses -/
structure HS where
  b : PyData
  t : PyData → Int → Int → Int → Option (PyData × Int × Int)
  s : PyData → Int → Int → Option (PyData × Int)
abbrev Rng := Int × Int × Int × Int
abbrev rngD (x : Rng) : PyData := .tuple [.int x.1, .int x.2.1, .int x.2.2.1, .int x.2.2.2]
def rightR (r f l : Int) : Bool := decide (1 ≤ f ∧ f ≤ l ∧ l < f + r)
def tellsG (hs : HS) (r k line : Int) : List Int → PyData → List Rng → Option (Sum PyData (PyData × List Rng))
  | [], s, told => some (.inr (s, told))
  | j :: js, s, told => match hs.t s k line j with
    | none => none
    | some (s', f, l) => if rightR r f l = true then tellsG hs r k line js s' (told ++ [(k, j, f, l)]) else some (.inl (.tuple [.str "range", .int k, .int j]))
def wrongIn (k cell : Int) (told : List Rng) : Option Rng := told.find? fun x => decide (x.2.1 = k ∧ ¬ (x.2.2.1 ≤ cell ∧ cell ≤ x.2.2.2))
def trueD (lines : List Int) (told : List Rng) : PyData := .tuple [.str "true", .list (lines.map PyData.int), .list (told.map rngD)]
def falseD (k f l cell : Int) : PyData := .tuple [.str "false", .int k, .int f, .int l, .int cell]
def padD (k : Int) : PyData := .tuple [.str "pad", .int k]
/-- one section: the state, the line, what is told -/
def stepG (hs : HS) (p : PlanR) (c k L : Int) (s : PyData) (line : Int) (told : List Rng) : Option (Sum PyData (PyData × Int × List Rng)) :=
  match hs.s s k L with
  | none => none
  | some (s', pad) => if ¬ (0 ≤ pad ∧ pad ≤ c) then some (.inl (padD k)) else
    match wrongIn k ((line + (L + pad)) / p.H + 1) told with
    | some x => some (.inl (falseD k x.2.2.1 x.2.2.2 ((line + (L + pad)) / p.H + 1)))
    | none => match tellsG hs p.r k (line + (L + pad)) (marksAt p k) s' told with
      | none => none
      | some (.inl e) => some (.inl e)
      | some (.inr (s'', told')) => some (.inr (s'', line + (L + pad), told'))
def playG (hs : HS) (src : Int → Int → List Rng → Option Int) (p : PlanR) : List Sec → Int → PyData → Int → List Int → List Rng → List Int → Option (PyData × List Int)
  | [], _, _, _, lines, told, lens => some (trueD lines told, lens)
  | x :: rest, k, s, line, lines, told, lens => match src k line told with
    | none => none
    | some L => match stepG hs p x.2.2 k L s line told with
      | none => none
      | some (.inl e) => some (e, lens ++ [L])
      | some (.inr (s', line', told')) => playG hs src p rest (k + 1) s' line' (lines ++ [line']) told' (lens ++ [L])
def lawPlay (hs : HS) (src : Int → Int → List Rng → Option Int) (p : PlanR) : Option (PyData × List Int) := match tellsG hs p.r 0 p.s (marksAt p 0) hs.b [] with
  | none => none
  | some (.inl e) => some (e, [])
  | some (.inr (s, told)) => playG hs src p p.ss 1 s p.s [p.s] told []
def playedG (hs : HS) (p : PlanR) : List Sec → List Int → Int → PyData → Int → List Int → List Rng → Option PyData
  | x :: rest, L :: Ls, k, s, line, lines, told => match stepG hs p x.2.2 k L s line told with
    | none => none
    | some (.inl e) => some e
    | some (.inr (s', line', told')) => playedG hs p rest Ls (k + 1) s' line' (lines ++ [line']) told'
  | _, _, _, _, _, lines, told => some (trueD lines told)
def played (hs : HS) (p : PlanR) (lens : List Int) : Option PyData := match tellsG hs p.r 0 p.s (marksAt p 0) hs.b [] with
  | none => none
  | some (.inl e) => some e
  | some (.inr (s, told)) => playedG hs p p.ss lens 1 s p.s [p.s] told
/-! ### functions as values, by what they promise -/
structure FnV (P : Program) (w : World) (K : PySem.W.Frag) (mg : Str → Option Value) (base : Heap) (T : TabI) (k : Nat) (x : Val) (n : Nat) (q : Pre) : Prop where
  ex : ∃ (st : Stmt) (name qual : Str) (fr ps : List Str) (m : Nat) (p : Pre) (ws : List Val), x = .ob (cloO K st name qual fr ws) ∧ (∀ y ∈ ws, y.Plain) ∧ (∀ (f : Addr) (cl : List (Str × Addr)) (c : Addr), NOk P w K mg base CX0 k f (NF.of st name qual cl c) ps fr (spN K T n m p)) ∧ fr.length = m ∧
    ∀ (xs : List Val) (Φ : Val → Sto → Prop), xs.length = n → q xs [] Φ → p (xs ++ ws) [] Φ
theorem we_callF {P : Program} {w : World} {K : PySem.W.Frag} {mg : Str → Option Value} {base : Heap} {T : TabI} {k n : Nat} {ss : SS} {sto : Sto} {Φ : Val → Sto → Prop} {tf : TE} {t : TA} (q : Pre)
    (h : WE K T tf ss sto fun x st1 => FnV P w K mg base T k x n q ∧ WA K T t ss st1 fun xs st2 => (∀ x ∈ xs, x.Plain) ∧ xs.length = n ∧ q xs [] fun y _ => y.Plain ∧ Φ y st2) :
    WE K T (tCallV P w K mg base k tf t) ss sto Φ := we_callX (we_mono h fun x st1 ⟨⟨st, name, qual, fr, ps, m, p, ws, ex, pl, nok, hm, imp⟩, ha⟩ =>
  ⟨n, m, st, name, qual, fr, ps, p, ws, nok, hm, ex, pl, fun α F H σ r s Q k => ha α F H σ r s Q fun α1 F1 H1 vs xs st2 n1 r1 v1 ⟨h1, h2, h3⟩ => k α1 F1 H1 vs xs st2 n1 r1 v1 ⟨h1, h2, imp xs _ h2 h3⟩⟩)
/-! ### a house's parts, a source of lengths -/
def qB (b : PyData) (plan : Val) : Pre := fun xs st Φ => xs = [plan] ∧ Φ (.pd b) st
def qT (hs : HS) : Pre := fun xs st Φ => ∃ (s : PyData) (k line j : Int) (s' : PyData) (f l : Int), xs = [.pd s, .pd (.int k), .pd (.int line), .pd (.int j)] ∧ hs.t s k line j = some (s', f, l) ∧ Φ (.pd (.tuple [s', .int f, .int l])) st
def qS (hs : HS) : Pre := fun xs st Φ => ∃ (s : PyData) (k L : Int) (s' : PyData) (pad : Int), xs = [.pd s, .pd (.int k), .pd (.int L)] ∧ hs.s s k L = some (s', pad) ∧ Φ (.pd (.tuple [s', .int pad])) st
def qSrc (src : Int → Int → List Rng → Option Int) : Pre := fun xs st Φ => ∃ (k line : Int) (told : List Rng) (L : Int), xs = [.pd (.int k), .pd (.int line), .pd (.list (told.map rngD))] ∧ src k line told = some L ∧ Φ (.pd (.int L)) st
structure HouseV (P : Program) (w : World) (K : PySem.W.Frag) (mg : Str → Option Value) (base : Heap) (T : TabI) (k : Nat) (hs : HS) (plan f0 f1 f2 : Val) : Prop where
  b : FnV P w K mg base T k f0 1 (qB hs.b plan)
  t : FnV P w K mg base T k f1 4 (qT hs)
  s : FnV P w K mg base T k f2 3 (qS hs)
end Kp

/-! KQ: plans of single cells on pages or rulers: plain mirrors of windows, arcs and the sets (for every law). -/
namespace Kq
open PySem L2 Ct Kp PyProof.Rows NdefX

/-! ### arcs -/
abbrev Arc := Int × Option Int
def lesserEnd : Option Int → Option Int → Option Int
  | none, b => b
  | some a, none => some a
  | some a, some b => if a < b then some a else some b
def meetN : Nat → List Arc → List Arc → List Arc
  | 0, _, _ => []
  | _ + 1, [], _ => []
  | _ + 1, _ :: _, [] => []
  | n + 1, a :: r, b :: s =>
    match lesserEnd a.2 b.2 with
    | none => [(if b.1 > a.1 then b.1 else a.1, none)]
    | some l => (if (if b.1 > a.1 then b.1 else a.1) ≤ l then [(if b.1 > a.1 then b.1 else a.1, some l)] else []) ++ (if a.2 = some l then meetN n r (b :: s) else meetN n (a :: r) s)
def arcsMeet (r s : List Arc) : List Arc := meetN (r.length + s.length) r s
def otherF : Int → List Arc → List Arc
  | line, [] => [(line, none)]
  | line, (f, none) :: _ => if f > line then [(line, some (f - 1))] else []
  | line, (f, some l) :: r => (if f > line then [(line, some (f - 1))] else []) ++ otherF (l + 1) r
def arcsMinus (r s : List Arc) : List Arc := arcsMeet r (otherF 0 s)
def arcLe (a b : Arc) : Bool := decide (a.1 ≤ b.1)
def gStep (made : List Arc) (a : Arc) : List Arc := match made.getLast? with
  | none => made ++ [a]
  | some (_, none) => made
  | some (b, some e) => if a.1 > e + 1 then made ++ [a] else match a.2 with
    | none => made.set (made.length - 1) (b, none)
    | some l => if l > e then made.set (made.length - 1) (b, some l) else made
def arcsGathered (rows : List Arc) : List Arc := (rows.mergeSort arcLe).foldl gStep []
def arcsUnion (r s : List Arc) : List Arc := arcsGathered (r ++ s)
def eOpt : Option Int → PyData
  | none => .none
  | some i => .int i
abbrev eArc (a : Arc) : PyData := .tuple [.int a.1, eOpt a.2]
abbrev eArcs (r : List Arc) : PyData := .list (r.map eArc)
/-- a finite arc -/
abbrev Seg := Int × Int
def up (x : Seg) : Arc := (x.1, some x.2)
abbrev eSegs (r : List Seg) : PyData := .list (r.map pairT)
theorem eArcs_up (r : List Seg) : eArcs (r.map up) = eSegs r := by
  show PyData.list ((r.map up).map eArc) = .list (r.map pairT)
  rw [List.map_map]
  rfl
/-- holes of at most pad lines filled -/
def joinGo (pad : Int) : List Seg → List Seg → List Seg
  | made, [] => made
  | made, x :: r => match made.getLast? with
    | none => joinGo pad (made ++ [x]) r
    | some y => if x.1 - y.2 - 1 ≤ pad then joinGo pad (made.set (made.length - 1) (y.1, x.2)) r else joinGo pad (made ++ [x]) r
def joined (r : List Seg) (pad : Int) : List Seg := joinGo pad [] r
def pullRow (a b c : Int) (x : Seg) : Option Arc := if x.2 - b ≥ max 0 (x.1 - a - c) then some (max 0 (x.1 - a - c), some (x.2 - b)) else none
def pulledRows (r : List Seg) (a b c : Int) : List Arc := (joined r c).filterMap (pullRow a b c)
def pulled (r : List Seg) (a b c : Int) : List Arc := arcsGathered (pulledRows r a b c)
/-- pieces cut at windows -/
def cutN : Nat → List Seg → List Arc → List Seg
  | 0, _, _ => []
  | _ + 1, [], _ => []
  | _ + 1, _ :: _, [] => []
  | n + 1, p :: ps, w :: ws =>
    (if (if w.1 > p.1 then w.1 else p.1) ≤ (match w.2 with | none => p.2 | some e => if e < p.2 then e else p.2) then [((if w.1 > p.1 then w.1 else p.1), (match w.2 with | none => p.2 | some e => if e < p.2 then e else p.2))] else []) ++
      (if (match w.2 with | none => true | some e => decide (p.2 ≤ e)) = true then cutN n ps (w :: ws) else cutN n (p :: ps) ws)
def cutP (ps : List Seg) (ws : List Arc) : List Seg := cutN (ps.length + ws.length) ps ws

/-! ### rulers -/
inductive Rul where
  | pages (H : Int)
  | cells (hs : List Int)
def edgesF : Int → List Int → List Int
  | _, [] => []
  | e, h :: hs => (e + h) :: edgesF (e + h) hs
def edges (hs : List Int) : List Int := edgesF 0 hs
def RulOk : Rul → Prop
  | .pages H => 1 ≤ H ∧ H ≤ 10000
  | .cells hs => hs.length + 1 ≤ 64 ∧ ∀ h ∈ hs, 1 ≤ h ∧ h ≤ 1000000000
def cellQ : Rul → Int → Int
  | .pages H, l => l / H + 1
  | .cells hs, l => ((edges hs).filter fun e => decide (e ≤ l)).length + 1
def hasC : Rul → Int → Bool
  | .pages _, c => decide (1 ≤ c)
  | .cells hs, c => decide (1 ≤ c ∧ c ≤ hs.length + 1)
def firstC : Rul → Int → Int
  | .pages H, c => (c - 1) * H
  | .cells hs, c => if c = 1 then 0 else (edges hs).getD (c - 2).toNat 0
def lastC : Rul → Int → Option Int
  | .pages H, c => some (c * H - 1)
  | .cells hs, c => if c = hs.length + 1 then none else some ((edges hs).getD (c - 1).toNat 0 - 1)

/-! ### plans -/
structure PlanQ where
  s : Int
  ru : Rul
  r : Int
  ss : List Sec
  ts : List (Int × Int)
structure QOk (p : PlanQ) : Prop where
  s0 : 0 ≤ p.s
  s1 : p.s ≤ 1000000
  ru : RulOk p.ru
  r1 : 1 ≤ p.r
  r2 : p.r ≤ 10
  sn : p.ss.length ≤ 60
  tn : p.ts.length ≤ 60
  sec : ∀ s ∈ p.ss, SecOk s
  tel : ∀ t ∈ p.ts, 0 ≤ t.1 ∧ t.1 < t.2 ∧ t.2 ≤ p.ss.length
  srt : p.ts.Pairwise fun a b => a.1 < b.1 ∨ (a.1 = b.1 ∧ a.2 < b.2)
def rulerF (hs : List Int) : List (Str × Val) := [("height_list", .pd (.list (hs.map PyData.int))), ("edge_list", .pd (.list ((edges hs).map PyData.int)))]
abbrev rulerO (K : PySem.W.Frag) (CR : Addr) (hs : List Int) : Val := .ob (insO K CR (rulerF hs))
/-- what stands for the ruler in a plan -/
def pageV : Rul → Val
  | .pages H => .pd (.int H)
  | .cells _ => .pd .none
def toldV (K : PySem.W.Frag) (CR : Addr) : Rul → Val
  | .pages _ => .pd .none
  | .cells hs => rulerO K CR hs
def rulV (K : PySem.W.Frag) (CR : Addr) : Rul → Val
  | .pages H => .pd (pagesD H)
  | .cells hs => rulerO K CR hs
def planQF (K : PySem.W.Frag) (CR : Addr) (p : PlanQ) : List (Str × Val) := [("start_line", .pd (.int p.s)), ("page_height", pageV p.ru), ("ruler_told", toldV K CR p.ru), ("range_most", .pd (.int p.r)), ("section_rows", .pd (.list (p.ss.map secD))), ("tell_rows", .pd (.list (p.ts.map pairT)))]
abbrev planQ (K : PySem.W.Frag) (C CR : Addr) (p : PlanQ) : Val := .ob (insO K C (planQF K CR p))
theorem rulerO_plain (K : PySem.W.Frag) (CR : Addr) (hs : List Int) : (rulerO K CR hs).Plain := insO_plain fun x hx => by
  unfold rulerF at hx
  simp only [List.mem_cons, List.not_mem_nil, or_false] at hx
  rcases hx with rfl | rfl <;> exact trivial
theorem planQ_plain (K : PySem.W.Frag) (C CR : Addr) (p : PlanQ) : (planQ K C CR p).Plain := insO_plain fun x hx => by
  unfold planQF at hx
  simp only [List.mem_cons, List.not_mem_nil, or_false] at hx
  obtain ⟨s, ru, r, ss, ts⟩ := p
  rcases hx with rfl | rfl | rfl | rfl | rfl | rfl <;> first | exact trivial | skip
  · cases ru <;> exact trivial
  · cases ru with
    | pages H => exact trivial
    | cells hs => exact rulerO_plain K CR hs
/-- the law's rows for a ruler -/
def rulD : Rul → PyData
  | .pages H => pagesD H
  | .cells hs => .list (hs.map PyData.int)
abbrev worldQ (p : PlanQ) : PyData := .list [.int p.s, rulD p.ru, .int p.r, .list (p.ss.map secD), .list (p.ts.map pairT)]
/-- the top; the ceilings -/
def topQ (p : PlanQ) : Int := p.s + (p.ss.map fun s => s.2.1 + s.2.2).sum
def ceilGo : Int → List Sec → List Int
  | e, [] => [e]
  | e, s :: ss => e :: ceilGo (e + s.2.1 + s.2.2) ss
def ceilsQ (p : PlanQ) : List Int := ceilGo (topQ p) p.ss
def sumLow (ss : List Sec) (i j : Nat) : Int := (((ss.drop i).take (j - i)).map fun s => s.1 + s.2.2).sum
def sumHigh (ss : List Sec) (i j : Nat) : Int := (((ss.drop i).take (j - i)).map fun s => s.2.1).sum
/-- mark j is told by t -/
def toldBy (ts : List (Int × Int)) (t : Nat) (j : Int) : Bool := match firstTell ts j with
  | none => false
  | some i => decide (i ≤ (t : Int))
/-- the marks told by t and due later -/
def openQ (p : PlanQ) (t : Nat) : List Nat := ((List.range (p.ss.length - t)).map fun i => t + 1 + i).filter fun j => toldBy p.ts t j
/-- the windows at t for mark j that hold a line from 0 to most -/
def winRow (ru : Rul) (low high c : Int) : Option (Int × Arc) := match lastC ru c with
  | none => some (c, (max 0 (firstC ru c - low), none))
  | some l => if max 0 (firstC ru c - low) ≤ l - high then some (c, (max 0 (firstC ru c - low), some (l - high))) else none
def winGo (ru : Rul) (low high most : Int) : Nat → Int → List (Int × Arc)
  | 0, _ => []
  | n + 1, c => if hasC ru c = true ∧ firstC ru c - low ≤ most then (winRow ru low high c).toList ++ winGo ru low high most n (c + 1) else []
def windowsQ (ru : Rul) (low high most : Int) : List (Int × Arc) := winGo ru low high most (most + low + 2 - cellQ ru high).toNat (cellQ ru high)
abbrev winD (w : Int × Arc) : PyData := .tuple [.int w.1, .int w.2.1, eOpt w.2.2]
/-- the pieces at t of the marks -/
def piecesQ (p : PlanQ) (t : Nat) (most : Int) (marks : List Nat) : List Seg := marks.foldl (fun ps j => cutP ps ((windowsQ p.ru (sumLow p.ss t j) (sumHigh p.ss t j) most).map Prod.snd)) [(0, most)]
/-- rows grouped by piece, pulled -/
def groupGo (a b c : Int) : List Seg → List Seg → List Arc
  | [], _ => []
  | x :: ps, rows => pulled (rows.takeWhile fun y => decide (y.1 ≤ x.2)) a b c ++ groupGo a b c ps (rows.dropWhile fun y => decide (y.1 ≤ x.2))
def downA (r : List Arc) : List Seg := r.map fun x => (x.1, x.2.getD 0)
def pulledSet (p : PlanQ) (t : Nat) (arcs : List Seg) (most : Int) : List Arc := match p.ss[t - 1]? with
  | none => []
  | some (a, b, c) => arcsUnion (groupGo a b c (piecesQ p t most (openQ p (t - 1))) (downA (arcsMeet (arcs.map up) ((piecesQ p t most (openQ p (t - 1))).map up)))) []
/-- S_t, S_t-1 .. S_0 from S_N on: the sets behind t, last first -/
def wideGo (p : PlanQ) : Nat → List Seg → List (List Seg)
  | 0, _ => []
  | t + 1, S => downA (arcsMeet (pulledSet p (t + 1) S ((ceilsQ p).getD (t + 1) 0)) [(0, some ((ceilsQ p).getD t 0))]) :: wideGo p t (downA (arcsMeet (pulledSet p (t + 1) S ((ceilsQ p).getD (t + 1) 0)) [(0, some ((ceilsQ p).getD t 0))]))
def wideQ (p : PlanQ) : List (List Seg) := ([(0, (ceilsQ p).getD p.ss.length 0)] :: wideGo p p.ss.length [(0, (ceilsQ p).getD p.ss.length 0)]).reverse
def setsQ (p : PlanQ) : List (List Seg) := (wideQ p).map fun S => downA (arcsMeet (S.map up) [(0, some (topQ p))])
end Kq

/-! KQ2: cells of rulers: what they are, once and for all. -/
namespace Kq
open PySem L2 Ct Kp

theorem edgesF_len : ∀ (e : Int) (hs : List Int), (edgesF e hs).length = hs.length
  | _, [] => rfl
  | e, h :: hs => congrArg (· + 1) (edgesF_len (e + h) hs)
theorem edges_len (hs : List Int) : (edges hs).length = hs.length := edgesF_len 0 hs
theorem edgesF_lt : ∀ (e : Int) (hs : List Int), (∀ h ∈ hs, 1 ≤ h) → (edgesF e hs).Pairwise (· < ·) ∧ ∀ x ∈ edgesF e hs, e < x
  | _, [], _ => ⟨.nil, fun x hx => by cases hx⟩
  | e, h :: hs, ok => by
    have ⟨h1, h2⟩ := edgesF_lt (e + h) hs fun x hx => ok x (.tail _ hx)
    have h3 := ok h (.head _)
    refine ⟨.cons h2 h1, fun x hx => ?_⟩
    rcases List.mem_cons.mp hx with rfl | hx
    · omega
    · have := h2 x hx
      omega
theorem edgesF_ge : ∀ (e : Int) (hs : List Int) (i : Nat) (hi : i < (edgesF e hs).length), (∀ h ∈ hs, 1 ≤ h) → e + i + 1 ≤ (edgesF e hs)[i]
  | _, [], _, hi, _ => absurd hi (Nat.not_lt_zero _)
  | e, h :: hs, 0, _, ok => by
    have := ok h (.head _)
    show e + 0 + 1 ≤ e + h
    omega
  | e, h :: hs, i + 1, hi, ok => by
    have := edgesF_ge (e + h) hs i (Nat.lt_of_succ_lt_succ hi) fun x hx => ok x (.tail _ hx)
    have := ok h (.head _)
    show e + ((i + 1 : Nat) : Int) + 1 ≤ (edgesF (e + h) hs)[i]'(Nat.lt_of_succ_lt_succ hi)
    omega
theorem edges_inc {hs : List Int} (ok : ∀ h ∈ hs, 1 ≤ h) {i j : Nat} (hi : i < (edges hs).length) (hj : j < (edges hs).length) (h : i < j) : (edges hs)[i] < (edges hs)[j] :=
  List.pairwise_iff_getElem.mp (edgesF_lt 0 hs ok).1 i j hi hj h
theorem edges_le {hs : List Int} (ok : ∀ h ∈ hs, 1 ≤ h) {i j : Nat} (hi : i < (edges hs).length) (hj : j < (edges hs).length) (h : i ≤ j) : (edges hs)[i] ≤ (edges hs)[j] := by
  rcases Nat.lt_or_eq_of_le h with h | rfl
  · exact Int.le_of_lt (edges_inc ok hi hj h)
  · exact Int.le_refl _
theorem edges_pos {hs : List Int} (ok : ∀ h ∈ hs, 1 ≤ h) {i : Nat} (hi : i < (edges hs).length) : (i : Int) + 1 ≤ (edges hs)[i] := by
  have := edgesF_ge 0 hs i hi ok
  have e : (edgesF 0 hs)[i] = (edges hs)[i] := rfl
  omega
theorem filt_len {es : List Int} {l : Int} {k : Nat} (hk : k ≤ es.length) (h1 : ∀ (i : Nat) (h : i < es.length), i < k → es[i] ≤ l) (h2 : ∀ (i : Nat) (h : i < es.length), k ≤ i → l < es[i]) : (es.filter fun e => decide (e ≤ l)).length = k := by
  rw [← List.take_append_drop k es, List.filter_append]
  have e1 : (es.take k).filter (fun e => decide (e ≤ l)) = es.take k := List.filter_eq_self.mpr fun x hx => by
    obtain ⟨i, hi, rfl⟩ := List.getElem_of_mem hx
    rw [List.length_take] at hi
    rw [List.getElem_take]
    exact decide_eq_true (h1 i (by omega) (by omega))
  have e2 : (es.drop k).filter (fun e => decide (e ≤ l)) = [] := List.filter_eq_nil_iff.mpr fun x hx => by
    obtain ⟨i, hi, rfl⟩ := List.getElem_of_mem hx
    rw [List.length_drop] at hi
    rw [List.getElem_drop]
    have := h2 (k + i) (by omega) (by omega)
    simp
    omega
  rw [e1, e2, List.append_nil, List.length_take]
  omega
/-- what the filter counts: all edges ahead of its length are low, all from it on are high -/
theorem filt_spec {hs : List Int} (ok : ∀ h ∈ hs, 1 ≤ h) (l : Int) : ∃ k, k ≤ (edges hs).length ∧ ((edges hs).filter fun e => decide (e ≤ l)).length = k ∧ (∀ (i : Nat) (h : i < (edges hs).length), i < k → (edges hs)[i] ≤ l) ∧ ∀ (i : Nat) (h : i < (edges hs).length), k ≤ i → l < (edges hs)[i] := by
  have key : ∀ n, n ≤ (edges hs).length → ∃ k, k ≤ (edges hs).length ∧ n - n ≤ k ∧ ((∀ (i : Nat) (h : i < (edges hs).length), i < k → (edges hs)[i] ≤ l) ∧ (∀ (i : Nat) (h : i < (edges hs).length), k ≤ i → i < n → l < (edges hs)[i])) := by
    intro n hn
    induction n with
    | zero => exact ⟨0, by omega, by omega, fun i h hi => absurd hi (Nat.not_lt_zero _), fun i h _ hi => absurd hi (Nat.not_lt_zero _)⟩
    | succ n ih =>
      by_cases c : (edges hs)[n] ≤ l
      · refine ⟨n + 1, hn, by omega, fun i h hi => ?_, fun i h h1 h2 => by omega⟩
        have := edges_le ok h (by omega : n < (edges hs).length) (by omega)
        omega
      · obtain ⟨k, h1, _, h2, h3⟩ := ih (by omega)
        refine ⟨k, h1, by omega, h2, fun i h h4 h5 => ?_⟩
        rcases Nat.lt_or_eq_of_le (Nat.lt_succ_iff.mp h5) with h6 | rfl
        · exact h3 i h h4 h6
        · omega
  obtain ⟨k, h1, _, h2, h3⟩ := key (edges hs).length (Nat.le_refl _)
  exact ⟨k, h1, filt_len h1 h2 fun i h hi => h3 i h hi h, h2, fun i h hi => h3 i h hi h⟩
theorem cells_eq {hs : List Int} {l : Int} {k : Nat} (hk : k ≤ (edges hs).length) (h1 : ∀ (i : Nat) (h : i < (edges hs).length), i < k → (edges hs)[i] ≤ l) (h2 : ∀ (i : Nat) (h : i < (edges hs).length), k ≤ i → l < (edges hs)[i]) : cellQ (.cells hs) l = k + 1 := by
  show (((edges hs).filter fun e => decide (e ≤ l)).length : Int) + 1 = k + 1
  rw [filt_len hk h1 h2]
theorem gD_at {es : List Int} {i : Nat} (h : i < es.length) : es.getD i 0 = es[i] := by
  rw [List.getD_eq_getElem?_getD, List.getElem?_eq_getElem h]
  rfl
/-- the cell of a line -/
theorem cell_spec {ru : Rul} (ok : RulOk ru) {l : Int} (hl : 0 ≤ l) : hasC ru (cellQ ru l) = true ∧ firstC ru (cellQ ru l) ≤ l ∧ ∀ e, lastC ru (cellQ ru l) = some e → l ≤ e := by
  cases ru with
  | pages H =>
    obtain ⟨h1, h2⟩ := ok
    have hd := Int.mul_ediv_add_emod l H
    have hm := Int.emod_lt_of_pos l (show 0 < H by omega)
    have hm0 := Int.emod_nonneg l (show H ≠ 0 by omega)
    have hq := Int.ediv_nonneg hl (show 0 ≤ H by omega)
    refine ⟨decide_eq_true (show 1 ≤ l / H + 1 by omega), ?_, ?_⟩
    · show (l / H + 1 - 1) * H ≤ l
      have e : (l / H + 1 - 1) * H = H * (l / H) := by rw [show l / H + 1 - 1 = l / H by omega, Int.mul_comm]
      omega
    · intro e he
      have he : some ((l / H + 1) * H - 1) = some e := he
      have e2 : (l / H + 1) * H = H * (l / H) + H := by rw [Int.add_mul, Int.mul_comm]; omega
      cases he
      omega
  | cells hs =>
    obtain ⟨_, ok⟩ := ok
    have ok' : ∀ h ∈ hs, 1 ≤ h := fun h hh => (ok h hh).1
    obtain ⟨k, h1, h2, h3, h4⟩ := filt_spec ok' l
    have ec : cellQ (.cells hs) l = k + 1 := by
      show (((edges hs).filter fun e => decide (e ≤ l)).length : Int) + 1 = k + 1
      rw [h2]
    have hlen := edges_len hs
    rw [ec]
    refine ⟨?_, ?_, ?_⟩
    · show decide (_ ∧ _) = true
      refine decide_eq_true ⟨by omega, by omega⟩
    · show (if (k : Int) + 1 = 1 then 0 else (edges hs).getD ((k : Int) + 1 - 2).toNat 0) ≤ l
      split
      · exact hl
      · rename_i h
        have hk : ((k : Int) + 1 - 2).toNat = k - 1 := by omega
        rw [hk, gD_at (by omega)]
        exact h3 _ _ (by omega)
    · intro e he
      have he : (if (k : Int) + 1 = hs.length + 1 then none else some ((edges hs).getD ((k : Int) + 1 - 1).toNat 0 - 1)) = some e := he
      split at he
      · cases he
      · rename_i h
        have hk : ((k : Int) + 1 - 1).toNat = k := by omega
        rw [hk, gD_at (by omega)] at he
        have := h4 k (by omega) (Nat.le_refl _)
        cases he
        omega
theorem cell_uniq {ru : Rul} (ok : RulOk ru) {l c : Int} (hc : hasC ru c = true) (h1 : firstC ru c ≤ l) (h2 : ∀ e, lastC ru c = some e → l ≤ e) : cellQ ru l = c := by
  cases ru with
  | pages H =>
    obtain ⟨k1, k2⟩ := ok
    have h1 : (c - 1) * H ≤ l := h1
    have h2 : l ≤ c * H - 1 := h2 _ rfl
    show l / H + 1 = c
    have e : l / H = c - 1 := by
      have a1 : c - 1 ≤ l / H := (Int.le_ediv_iff_mul_le (by omega)).mpr h1
      have a2 : l / H < c := (Int.ediv_lt_iff_lt_mul (by omega)).mpr (by omega)
      omega
    omega
  | cells hs =>
    obtain ⟨_, ok⟩ := ok
    have ok' : ∀ h ∈ hs, 1 ≤ h := fun h hh => (ok h hh).1
    have hlen := edges_len hs
    have hc : 1 ≤ c ∧ c ≤ hs.length + 1 := of_decide_eq_true hc
    obtain ⟨k, rfl⟩ : ∃ k : Nat, c = (k : Int) + 1 := ⟨(c - 1).toNat, by omega⟩
    refine cells_eq (by omega) (fun i h hi => ?_) (fun i h hi => ?_)
    · have h1 : (if (k : Int) + 1 = 1 then 0 else (edges hs).getD ((k : Int) + 1 - 2).toNat 0) ≤ l := h1
      rw [if_neg (by omega), show ((k : Int) + 1 - 2).toNat = k - 1 by omega, gD_at (by omega)] at h1
      have := edges_le ok' h (by omega : k - 1 < (edges hs).length) (by omega)
      omega
    · have h2 : ∀ e, (if (k : Int) + 1 = hs.length + 1 then none else some ((edges hs).getD ((k : Int) + 1 - 1).toNat 0 - 1)) = some e → l ≤ e := h2
      rw [if_neg (by omega), show ((k : Int) + 1 - 1).toNat = k by omega, gD_at (by omega)] at h2
      have h3 := h2 _ rfl
      have := edges_le ok' (by omega : k < (edges hs).length) h (by omega)
      omega
theorem cell_mono {ru : Rul} (ok : RulOk ru) {l m : Int} (h : l ≤ m) : cellQ ru l ≤ cellQ ru m := by
  cases ru with
  | pages H =>
    obtain ⟨k1, k2⟩ := ok
    show l / H + 1 ≤ m / H + 1
    have := Int.ediv_le_ediv (show 0 < H by omega) h
    omega
  | cells hs =>
    obtain ⟨_, ok⟩ := ok
    have ok' : ∀ h ∈ hs, 1 ≤ h := fun h hh => (ok h hh).1
    obtain ⟨k, h1, h2, h3, h4⟩ := filt_spec ok' l
    obtain ⟨k', h1', h2', h3', h4'⟩ := filt_spec ok' m
    show (((edges hs).filter fun e => decide (e ≤ l)).length : Int) + 1 ≤ (((edges hs).filter fun e => decide (e ≤ m)).length : Int) + 1
    rw [h2, h2']
    have : k ≤ k' := by
      apply Nat.le_of_not_lt
      intro hn
      have a1 := h3 k' (by omega) hn
      have a2 := h4' k' (by omega) (Nat.le_refl _)
      omega
    omega
theorem first_ge {ru : Rul} (ok : RulOk ru) {c : Int} (hc : hasC ru c = true) : c - 1 ≤ firstC ru c := by
  cases ru with
  | pages H =>
    obtain ⟨k1, k2⟩ := ok
    have hc : 1 ≤ c := of_decide_eq_true hc
    show c - 1 ≤ (c - 1) * H
    have := Int.mul_le_mul_of_nonneg_left k1 (show 0 ≤ c - 1 by omega)
    omega
  | cells hs =>
    obtain ⟨_, ok⟩ := ok
    have ok' : ∀ h ∈ hs, 1 ≤ h := fun h hh => (ok h hh).1
    have hlen := edges_len hs
    have hc : 1 ≤ c ∧ c ≤ hs.length + 1 := of_decide_eq_true hc
    show c - 1 ≤ if c = 1 then 0 else (edges hs).getD (c - 2).toNat 0
    split
    · omega
    · rw [gD_at (by omega)]
      have := edges_pos ok' (show (c - 2).toNat < (edges hs).length by omega)
      omega
theorem first_next {ru : Rul} (ok : RulOk ru) {c : Int} (hc : hasC ru c = true) {e : Int} (h : lastC ru c = some e) : hasC ru (c + 1) = true ∧ firstC ru (c + 1) = e + 1 := by
  cases ru with
  | pages H =>
    have hc : 1 ≤ c := of_decide_eq_true hc
    have h : some (c * H - 1) = some e := h
    cases h
    refine ⟨decide_eq_true (show 1 ≤ c + 1 by omega), ?_⟩
    show (c + 1 - 1) * H = _
    rw [show c + 1 - 1 = c by omega]
    omega
  | cells hs =>
    have hlen := edges_len hs
    have hc : 1 ≤ c ∧ c ≤ hs.length + 1 := of_decide_eq_true hc
    have h : (if c = hs.length + 1 then none else some ((edges hs).getD (c - 1).toNat 0 - 1)) = some e := h
    split at h
    · cases h
    · cases h
      refine ⟨decide_eq_true ⟨by omega, by omega⟩, ?_⟩
      show (if c + 1 = 1 then 0 else (edges hs).getD (c + 1 - 2).toNat 0) = _
      rw [if_neg (by omega), show (c + 1 - 2).toNat = (c - 1).toNat by omega]
      omega
theorem no_next {ru : Rul} {c : Int} (hc : hasC ru c = true) (h : lastC ru c = none) : hasC ru (c + 1) = false := by
  cases ru with
  | pages H => cases h
  | cells hs =>
    have hc : 1 ≤ c ∧ c ≤ hs.length + 1 := of_decide_eq_true hc
    have h : (if c = hs.length + 1 then none else some ((edges hs).getD (c - 1).toNat 0 - 1)) = none := h
    split at h
    · exact decide_eq_false (by omega)
    · cases h
theorem first_le_last {ru : Rul} (ok : RulOk ru) {c : Int} (hc : hasC ru c = true) {e : Int} (h : lastC ru c = some e) : firstC ru c ≤ e := by
  cases ru with
  | pages H =>
    obtain ⟨k1, k2⟩ := ok
    have h : some (c * H - 1) = some e := h
    cases h
    show (c - 1) * H ≤ c * H - 1
    have : (c - 1) * H = c * H - H := by rw [Int.sub_mul]; omega
    omega
  | cells hs =>
    obtain ⟨_, ok⟩ := ok
    have ok' : ∀ h ∈ hs, 1 ≤ h := fun h hh => (ok h hh).1
    have hlen := edges_len hs
    have hc : 1 ≤ c ∧ c ≤ hs.length + 1 := of_decide_eq_true hc
    have h : (if c = hs.length + 1 then none else some ((edges hs).getD (c - 1).toNat 0 - 1)) = some e := h
    split at h
    · cases h
    · cases h
      show (if c = 1 then 0 else (edges hs).getD (c - 2).toNat 0) ≤ _
      rw [gD_at (show (c - 1).toNat < (edges hs).length by omega)]
      split
      · have := edges_pos ok' (show (c - 1).toNat < (edges hs).length by omega)
        omega
      · rw [gD_at (show (c - 2).toNat < (edges hs).length by omega)]
        have := edges_inc ok' (show (c - 2).toNat < (edges hs).length by omega) (show (c - 1).toNat < (edges hs).length by omega) (by omega)
        omega
theorem first_nn {ru : Rul} (ok : RulOk ru) {c : Int} (hc : hasC ru c = true) : 0 ≤ firstC ru c := by
  have h1 := first_ge ok hc
  have h2 : 1 ≤ c := by
    cases ru with
    | pages H => exact of_decide_eq_true hc
    | cells hs => exact (show 1 ≤ c ∧ c ≤ hs.length + 1 from of_decide_eq_true hc).1
  omega
end Kq

/-! KQ3: arcs as sets of lines. -/
namespace Kq
open PySem

def memS (r : List Seg) (x : Int) : Prop := ∃ y ∈ r, y.1 ≤ x ∧ x ≤ y.2
/-- ascending, more than g lines between two -/
def SrtG (g : Int) (r : List Seg) : Prop := (∀ x ∈ r, x.1 ≤ x.2) ∧ r.Pairwise fun x y => x.2 + g < y.1
theorem memS_cons {a : Seg} {r : List Seg} {x : Int} : memS (a :: r) x ↔ (a.1 ≤ x ∧ x ≤ a.2) ∨ memS r x := by
  constructor
  · rintro ⟨y, hy, h⟩
    rcases List.mem_cons.mp hy with rfl | hy
    · exact .inl h
    · exact .inr ⟨y, hy, h⟩
  · rintro (h | ⟨y, hy, h⟩)
    · exact ⟨a, .head _, h⟩
    · exact ⟨y, .tail _ hy, h⟩
theorem memS_nil {x : Int} : ¬ memS [] x := fun ⟨_, h, _⟩ => by cases h
theorem memS_app {r s : List Seg} {x : Int} : memS (r ++ s) x ↔ memS r x ∨ memS s x := by
  constructor
  · rintro ⟨y, hy, h⟩
    rcases List.mem_append.mp hy with hy | hy
    · exact .inl ⟨y, hy, h⟩
    · exact .inr ⟨y, hy, h⟩
  · rintro (⟨y, hy, h⟩ | ⟨y, hy, h⟩)
    · exact ⟨y, List.mem_append_left _ hy, h⟩
    · exact ⟨y, List.mem_append_right _ hy, h⟩
theorem SrtG.tail {g : Int} {a : Seg} {r : List Seg} (h : SrtG g (a :: r)) : SrtG g r := ⟨fun x hx => h.1 x (.tail _ hx), (List.pairwise_cons.mp h.2).2⟩
theorem SrtG.head {g : Int} {a : Seg} {r : List Seg} (h : SrtG g (a :: r)) : a.1 ≤ a.2 ∧ ∀ y ∈ r, a.2 + g < y.1 := ⟨h.1 a (.head _), (List.pairwise_cons.mp h.2).1⟩
theorem SrtG.cons {g : Int} {a : Seg} {r : List Seg} (h : SrtG g r) (h1 : a.1 ≤ a.2) (h2 : ∀ y ∈ r, a.2 + g < y.1) : SrtG g (a :: r) :=
  ⟨fun x hx => by rcases List.mem_cons.mp hx with rfl | hx; exact h1; exact h.1 x hx, .cons h2 h.2⟩
theorem SrtG.weak {g : Int} (hg : 0 ≤ g) {r : List Seg} (h : SrtG g r) : SrtG 0 r := ⟨h.1, h.2.imp fun h => by omega⟩
theorem srt_nil {g : Int} : SrtG g [] := ⟨fun _ h => (by cases h), .nil⟩
/-- canonical arcs are told by their lines -/
theorem can_uniq : ∀ {A B : List Seg}, SrtG 1 A → SrtG 1 B → (∀ x, memS A x ↔ memS B x) → A = B
  | [], [], _, _, _ => rfl
  | [], b :: B, _, hB, h => absurd ((h b.1).mpr ⟨b, .head _, Int.le_refl _, hB.head.1⟩) memS_nil
  | a :: A, [], hA, _, h => absurd ((h a.1).mp ⟨a, .head _, Int.le_refl _, hA.head.1⟩) memS_nil
  | a :: A, b :: B, hA, hB, h => by
    have ⟨a1, a2⟩ := hA.head
    have ⟨b1, b2⟩ := hB.head
    have low : ∀ {c : Seg} {C : List Seg} {x : Int}, SrtG 1 (c :: C) → memS (c :: C) x → c.1 ≤ x := by
      rintro c C x hC ⟨y, hy, h1, h2⟩
      have ⟨c1, c2⟩ := hC.head
      rcases List.mem_cons.mp hy with rfl | hy
      · exact h1
      · have := c2 y hy
        omega
    have e1 : a.1 = b.1 := by
      have h1 := low hB ((h a.1).mp ⟨a, .head _, Int.le_refl _, a1⟩)
      have h2 := low hA ((h b.1).mpr ⟨b, .head _, Int.le_refl _, b1⟩)
      omega
    have nxt : ∀ {c d : Seg} {C D : List Seg}, SrtG 1 (c :: C) → SrtG 1 (d :: D) → c.1 = d.1 → (∀ x, memS (d :: D) x → memS (c :: C) x) → d.2 ≤ c.2 := by
      intro c d C D hC hD e hx
      have ⟨c1, c2⟩ := hC.head
      have ⟨d1, d2⟩ := hD.head
      apply Int.not_lt.mp
      intro hlt
      obtain ⟨y, hy, h1, h2⟩ := hx (c.2 + 1) ⟨d, .head _, by omega, by omega⟩
      rcases List.mem_cons.mp hy with rfl | hy
      · omega
      · have := c2 y hy
        omega
    have e2 : a.2 = b.2 := by
      have h1 := nxt hA hB e1 fun x hx => (h x).mpr hx
      have h2 := nxt hB hA e1.symm fun x hx => (h x).mp hx
      omega
    have e : a = b := Prod.ext e1 e2
    subst e
    have hAB : A = B := can_uniq hA.tail hB.tail fun x => by
      have up : ∀ {C : List Seg}, (∀ y ∈ C, a.2 + 1 < y.1) → memS C x → a.2 < x := by
        rintro C hC ⟨y, hy, h1, h2⟩
        have := hC y hy
        omega
      constructor
      · intro hx
        have h1 := up a2 hx
        rcases memS_cons.mp ((h x).mp (memS_cons.mpr (.inr hx))) with h2 | h2
        · omega
        · exact h2
      · intro hx
        have h1 := up b2 hx
        rcases memS_cons.mp ((h x).mpr (memS_cons.mpr (.inr hx))) with h2 | h2
        · omega
        · exact h2
    rw [hAB]
theorem srt_len {g : Int} (hg : 0 ≤ g) : ∀ {r : List Seg} {lo hi : Int}, SrtG g r → (∀ x ∈ r, lo ≤ x.1 ∧ x.2 ≤ hi) → (r.length : Int) ≤ max 0 (hi - lo + 1)
  | [], _, _, _, _ => by simp; omega
  | a :: r, lo, hi, h, hb => by
    have ⟨h1, h2⟩ := h.head
    have ⟨h3, h4⟩ := hb a (.head _)
    have := srt_len hg h.tail (lo := a.2 + 1) (hi := hi) fun x hx => ⟨by have := h2 x hx; omega, (hb x (.tail _ hx)).2⟩
    rw [List.length_cons]
    omega
/-! ### the common lines -/
theorem lesser_some (a b : Int) : lesserEnd (some a) (some b) = some (if a < b then a else b) := by
  show (if a < b then some a else some b) = _
  split <;> rfl
structure Met (g : Int) (A B C : List Seg) : Prop where
  srt : SrtG g C
  mem : ∀ x, memS C x ↔ memS A x ∧ memS B x
  sub : ∀ c ∈ C, ∃ a ∈ A, ∃ b ∈ B, a.1 ≤ c.1 ∧ c.2 ≤ a.2 ∧ b.1 ≤ c.1 ∧ c.2 ≤ b.2
theorem meetN_spec {g : Int} (hg : 0 ≤ g) : ∀ (n : Nat) (A B : List Seg), A.length + B.length ≤ n → SrtG g A → SrtG g B → ∃ C, meetN n (A.map up) (B.map up) = C.map up ∧ Met g A B C
  | 0, [], [], _, _, _ => ⟨[], rfl, srt_nil, fun x => ⟨fun h => absurd h memS_nil, fun h => absurd h.1 memS_nil⟩, fun _ h => by cases h⟩
  | 0, _ :: _, _, h, _, _ => absurd h (by simp)
  | 0, [], _ :: _, h, _, _ => absurd h (by simp)
  | n + 1, [], B, _, _, _ => ⟨[], by cases B <;> rfl, srt_nil, fun x => ⟨fun h => absurd h memS_nil, fun h => absurd h.1 memS_nil⟩, fun _ h => by cases h⟩
  | n + 1, a :: A, [], _, _, _ => ⟨[], rfl, srt_nil, fun x => ⟨fun h => absurd h memS_nil, fun h => absurd h.2 memS_nil⟩, fun _ h => by cases h⟩
  | n + 1, a :: A, b :: B, hl, hA, hB => by
    have ⟨a1, a2⟩ := hA.head
    have ⟨b1, b2⟩ := hB.head
    have em : meetN (n + 1) ((a :: A).map up) ((b :: B).map up) = (if (if b.1 > a.1 then b.1 else a.1) ≤ (if a.2 < b.2 then a.2 else b.2) then [((if b.1 > a.1 then b.1 else a.1), some (if a.2 < b.2 then a.2 else b.2))] else []) ++
        (if some a.2 = some (if a.2 < b.2 then a.2 else b.2) then meetN n (A.map up) ((b :: B).map up) else meetN n ((a :: A).map up) (B.map up)) := by
      rw [List.map_cons, List.map_cons]
      show (match lesserEnd (some a.2) (some b.2) with | none => _ | some l => _) = _
      rw [lesser_some]
      rfl
    rw [em]
    generalize hf : (if b.1 > a.1 then b.1 else a.1) = first
    have hf1 : a.1 ≤ first ∧ b.1 ≤ first ∧ (first = a.1 ∨ first = b.1) := by
      rw [← hf]
      split <;> omega
    simp only [List.length_cons] at hl
    by_cases c : a.2 ≤ b.2
    · have el : (if a.2 < b.2 then a.2 else b.2) = a.2 := by
        split <;> omega
      rw [el, if_pos rfl]
      obtain ⟨C, e, hC, hm, hs⟩ := meetN_spec hg n A (b :: B) (by simp only [List.length_cons]; omega) hA.tail hB
      have far : ∀ x ∈ C, a.2 + g < x.1 := by
        intro x hx
        obtain ⟨a', ha, _, _, h1, _, _, _⟩ := hs x hx
        have := a2 a' ha
        omega
      have hsub : ∀ c ∈ C, ∃ a' ∈ a :: A, ∃ b' ∈ b :: B, a'.1 ≤ c.1 ∧ c.2 ≤ a'.2 ∧ b'.1 ≤ c.1 ∧ c.2 ≤ b'.2 := fun c hc => by
        obtain ⟨a', ha, b', hb, h⟩ := hs c hc
        exact ⟨a', .tail _ ha, b', hb, h⟩
      have hmem : ∀ x, (memS (a :: A) x ∧ memS (b :: B) x) ↔ (first ≤ x ∧ x ≤ a.2) ∨ memS C x := by
        intro x
        rw [hm, memS_cons (a := a)]
        constructor
        · rintro ⟨h1 | h1, h2⟩
          · left
            obtain ⟨y, hy, h3, h4⟩ := h2
            rcases List.mem_cons.mp hy with rfl | hy
            · omega
            · have := b2 y hy
              omega
          · exact .inr ⟨h1, h2⟩
        · rintro (h | ⟨h1, h2⟩)
          · exact ⟨.inl ⟨by omega, by omega⟩, ⟨b, .head _, by omega, by omega⟩⟩
          · exact ⟨.inr h1, h2⟩
      by_cases cf : first ≤ a.2
      · rw [if_pos cf]
        refine ⟨(first, a.2) :: C, by rw [e]; rfl, hC.cons cf far, fun x => ?_, fun c hc => ?_⟩
        · rw [memS_cons, hmem]
        · rcases List.mem_cons.mp hc with rfl | hc
          · exact ⟨a, .head _, b, .head _, hf1.1, Int.le_refl _, hf1.2.1, c⟩
          · exact hsub c hc
      · rw [if_neg cf]
        refine ⟨C, by rw [e]; rfl, hC, fun x => ?_, hsub⟩
        rw [hmem]
        exact ⟨.inr, fun h => h.elim (fun h => absurd (by omega) cf) id⟩
    · have el : (if a.2 < b.2 then a.2 else b.2) = b.2 := by
        split <;> omega
      rw [el, if_neg (show ¬ (some a.2 = some b.2) from fun z => by injection z; omega)]
      obtain ⟨C, e, hC, hm, hs⟩ := meetN_spec hg n (a :: A) B (by simp only [List.length_cons]; omega) hA hB.tail
      have far : ∀ x ∈ C, b.2 + g < x.1 := by
        intro x hx
        obtain ⟨_, _, b', hb, _, _, h1, _⟩ := hs x hx
        have := b2 b' hb
        omega
      have hsub : ∀ c ∈ C, ∃ a' ∈ a :: A, ∃ b' ∈ b :: B, a'.1 ≤ c.1 ∧ c.2 ≤ a'.2 ∧ b'.1 ≤ c.1 ∧ c.2 ≤ b'.2 := fun c hc => by
        obtain ⟨a', ha, b', hb, h⟩ := hs c hc
        exact ⟨a', ha, b', .tail _ hb, h⟩
      have hmem : ∀ x, (memS (a :: A) x ∧ memS (b :: B) x) ↔ (first ≤ x ∧ x ≤ b.2) ∨ memS C x := by
        intro x
        rw [hm, memS_cons (a := b)]
        constructor
        · rintro ⟨h2, h1 | h1⟩
          · left
            obtain ⟨y, hy, h3, h4⟩ := h2
            rcases List.mem_cons.mp hy with rfl | hy
            · omega
            · have := a2 y hy
              omega
          · exact .inr ⟨h2, h1⟩
        · rintro (h | ⟨h1, h2⟩)
          · exact ⟨⟨a, .head _, by omega, by omega⟩, .inl ⟨by omega, by omega⟩⟩
          · exact ⟨h1, .inr h2⟩
      by_cases cf : first ≤ b.2
      · rw [if_pos cf]
        refine ⟨(first, b.2) :: C, by rw [e]; rfl, hC.cons cf far, fun x => ?_, fun c hc => ?_⟩
        · rw [memS_cons, hmem]
        · rcases List.mem_cons.mp hc with rfl | hc
          · exact ⟨a, .head _, b, .head _, hf1.1, by omega, hf1.2.1, Int.le_refl _⟩
          · exact hsub c hc
      · rw [if_neg cf]
        refine ⟨C, by rw [e]; rfl, hC, fun x => ?_, hsub⟩
        rw [hmem]
        exact ⟨.inr, fun h => h.elim (fun h => absurd (by omega) cf) id⟩
theorem downA_up (C : List Seg) : downA (C.map up) = C := by
  unfold downA
  rw [List.map_map]
  conv => rhs; rw [← List.map_id C]
  exact List.map_congr_left fun x _ => rfl
theorem meet_spec {g : Int} (hg : 0 ≤ g) {A B : List Seg} (hA : SrtG g A) (hB : SrtG g B) : ∃ C, arcsMeet (A.map up) (B.map up) = C.map up ∧ Met g A B C :=
  meetN_spec hg _ A B (by rw [List.length_map, List.length_map]; exact Nat.le_refl _) hA hB
end Kq

/-! KQ4: arcs gathered, joined, pulled. -/
namespace Kq
open PySem

theorem srt_snoc {g : Int} {r : List Seg} {x : Seg} (h : SrtG g r) (h1 : x.1 ≤ x.2) (h2 : ∀ y ∈ r, y.2 + g < x.1) : SrtG g (r ++ [x]) :=
  ⟨fun y hy => by rcases List.mem_append.mp hy with hy | hy; exact h.1 y hy; rw [List.mem_singleton.mp hy]; exact h1,
    List.pairwise_append.mpr ⟨h.2, List.pairwise_singleton _ _, fun a ha b hb => by rw [List.mem_singleton.mp hb]; exact h2 a ha⟩⟩
theorem srt_app {g : Int} {r s : List Seg} (h : SrtG g (r ++ s)) : SrtG g r ∧ SrtG g s ∧ ∀ a ∈ r, ∀ b ∈ s, a.2 + g < b.1 := by
  have ⟨h1, h2, h3⟩ := List.pairwise_append.mp h.2
  exact ⟨⟨fun x hx => h.1 x (List.mem_append_left _ hx), h1⟩, ⟨fun x hx => h.1 x (List.mem_append_right _ hx), h2⟩, h3⟩
theorem memS_one {a : Seg} {x : Int} : memS [a] x ↔ a.1 ≤ x ∧ x ≤ a.2 := by
  rw [memS_cons]
  exact ⟨fun h => h.elim id fun h => absurd h memS_nil, .inl⟩
theorem gStep_seg (ini : List Seg) (y a : Seg) : gStep ((ini ++ [y]).map up) (up a) = (if a.1 > y.2 + 1 then ini ++ [y] ++ [a] else if a.2 > y.2 then ini ++ [(y.1, a.2)] else ini ++ [y]).map up := by
  unfold gStep
  rw [List.map_append, show [y].map up = [up y] from rfl, List.getLast?_append]
  show (if a.1 > y.2 + 1 then _ else if a.2 > y.2 then _ else _) = _
  split
  · rw [List.map_append, List.map_append]
    rfl
  · split
    · rw [Ct.set_last, List.map_append]
      rfl
    · rw [List.map_append]
      rfl
theorem gFold_spec : ∀ (R made : List Seg), SrtG 1 made → (∀ x ∈ R, x.1 ≤ x.2) → R.Pairwise (fun x y => x.1 ≤ y.1) → (∀ m ∈ made, ∀ x ∈ R, m.1 ≤ x.1) →
    ∃ C, (R.map up).foldl gStep (made.map up) = C.map up ∧ SrtG 1 C ∧ (∀ x, memS C x ↔ memS made x ∨ memS R x) ∧ C.length ≤ made.length + R.length
  | [], made, hm, _, _, _ => ⟨made, rfl, hm, fun x => ⟨.inl, fun h => h.elim id fun h => absurd h memS_nil⟩, Nat.le_refl _⟩
  | a :: R, made, hm, hn, hs, hb => by
    have a0 := hn a (.head _)
    have ⟨hs1, hs2⟩ := List.pairwise_cons.mp hs
    have ham := fun m h => hb m h a (.head _)
    rw [List.map_cons, List.foldl_cons]
    have key : ∃ made', gStep (made.map up) (up a) = made'.map up ∧ SrtG 1 made' ∧ (∀ x, memS made' x ↔ memS made x ∨ (a.1 ≤ x ∧ x ≤ a.2)) ∧ (∀ m ∈ made', ∀ x ∈ R, m.1 ≤ x.1) ∧ made'.length ≤ made.length + 1 := by
      rcases List.eq_nil_or_concat made with rfl | ⟨ini, y, rfl⟩
      · refine ⟨[a], rfl, srt_nil.cons a0 (fun y hy => by cases hy), fun x => ?_, fun m hm x hx => ?_, Nat.le_refl _⟩
        · rw [memS_one]
          exact ⟨.inr, fun h => h.elim (fun h => absurd h memS_nil) id⟩
        · rw [List.mem_singleton.mp hm]
          exact hs1 x hx
      · rw [List.concat_eq_append] at hm hb ham ⊢
        rw [gStep_seg]
        have ⟨hi, hy1, hy2⟩ := srt_app hm
        have hy0 := hm.1 y (List.mem_append_right _ (.head _))
        have hya := ham y (List.mem_append_right _ (.head _))
        split
        · rename_i c
          refine ⟨_, rfl, srt_snoc hm a0 fun z hz => ?_, fun x => ?_, fun m hm' x hx => ?_, by simp⟩
          · rcases List.mem_append.mp hz with hz | hz
            · have := hy2 z hz y (.head _)
              omega
            · rw [List.mem_singleton.mp hz]
              omega
          · rw [memS_app, memS_one]
          · rcases List.mem_append.mp hm' with hm' | hm'
            · exact hb m hm' x (.tail _ hx)
            · rw [List.mem_singleton.mp hm']
              exact hs1 x hx
        · rename_i c
          split
          · rename_i c2
            refine ⟨_, rfl, srt_snoc hi (show y.1 ≤ a.2 by omega) (fun z hz => hy2 z hz y (.head _)), fun x => ?_, fun m hm' x hx => ?_, by simp⟩
            · rw [memS_app, memS_app, memS_one, memS_one]
              show memS ini x ∨ (y.1 ≤ x ∧ x ≤ a.2) ↔ _
              constructor
              · rintro (h | h)
                · exact .inl (.inl h)
                · by_cases h3 : x ≤ y.2
                  · exact .inl (.inr ⟨h.1, h3⟩)
                  · exact .inr ⟨by omega, h.2⟩
              · rintro ((h | h) | h)
                · exact .inl h
                · exact .inr ⟨h.1, by omega⟩
                · exact .inr ⟨by omega, h.2⟩
            · rcases List.mem_append.mp hm' with hm' | hm'
              · exact hb m (List.mem_append_left _ hm') x (.tail _ hx)
              · rw [List.mem_singleton.mp hm']
                exact hb y (List.mem_append_right _ (.head _)) x (.tail _ hx)
          · rename_i c2
            refine ⟨_, rfl, hm, fun x => ?_, fun m hm' x hx => hb m hm' x (.tail _ hx), by simp⟩
            constructor
            · exact .inl
            · rintro (h | h)
              · exact h
              · exact ⟨y, List.mem_append_right _ (.head _), by omega, by omega⟩
    obtain ⟨made', e1, h1, h2, h3, h4⟩ := key
    rw [e1]
    obtain ⟨C, e, k1, k2, k3⟩ := gFold_spec R made' h1 (fun x hx => hn x (.tail _ hx)) hs2 h3
    refine ⟨C, e, k1, fun x => ?_, by rw [List.length_cons]; omega⟩
    rw [k2, h2, memS_cons, or_assoc]
theorem memS_perm {A B : List Seg} (h : A.Perm B) (x : Int) : memS A x ↔ memS B x :=
  ⟨fun ⟨y, hy, k⟩ => ⟨y, h.mem_iff.mp hy, k⟩, fun ⟨y, hy, k⟩ => ⟨y, h.mem_iff.mpr hy, k⟩⟩
theorem gather_spec {R : List Seg} (hn : ∀ x ∈ R, x.1 ≤ x.2) : ∃ C, arcsGathered (R.map up) = C.map up ∧ SrtG 1 C ∧ (∀ x, memS C x ↔ memS R x) ∧ C.length ≤ R.length := by
  have e : (R.map up).mergeSort arcLe = (R.mergeSort fun a b => decide (a.1 ≤ b.1)).map up := (List.map_mergeSort (s := arcLe) (f := up) fun a _ b _ => rfl).symm
  have hp : (R.mergeSort fun a b => decide (a.1 ≤ b.1)).Perm R := List.mergeSort_perm _ _
  have hs : (R.mergeSort fun a b => decide (a.1 ≤ b.1)).Pairwise fun a b => decide (a.1 ≤ b.1) = true := List.pairwise_mergeSort (le := fun a b : Seg => decide (a.1 ≤ b.1))
    (fun a b c h1 h2 => by simp at *; omega) (fun a b => by simp; omega) R
  obtain ⟨C, e1, h1, h2, h3⟩ := gFold_spec (R.mergeSort fun a b => decide (a.1 ≤ b.1)) [] srt_nil (fun x hx => hn x (hp.mem_iff.mp hx)) (hs.imp fun h => of_decide_eq_true h) fun m hm => by cases hm
  refine ⟨C, ?_, h1, fun x => ?_, ?_⟩
  · unfold arcsGathered
    rw [e]
    exact e1
  · rw [h2, ← memS_perm hp]
    exact ⟨fun h => h.elim (fun h => absurd h memS_nil) id, .inr⟩
  · have := hp.length_eq
    simp only [List.length_nil] at h3
    omega
/-! ### joined -/
structure Jn (c : Int) (A J : List Seg) : Prop where
  srt : SrtG (c + 1) J
  mem : ∀ x, memS A x → memS J x
  lo : ∀ y ∈ J, memS A y.1
  hi : ∀ y ∈ J, memS A y.2
  in_ : ∀ y ∈ J, ∀ z, y.1 ≤ z → z ≤ y.2 → ∃ w, z ≤ w ∧ w ≤ z + c ∧ memS A w
theorem joinGo_step (c : Int) (ini R : List Seg) (y a : Seg) : joinGo c (ini ++ [y]) (a :: R) = if a.1 - y.2 - 1 ≤ c then joinGo c (ini ++ [(y.1, a.2)]) R else joinGo c (ini ++ [y] ++ [a]) R := by
  rw [joinGo, List.getLast?_append]
  show (if a.1 - y.2 - 1 ≤ c then joinGo c ((ini ++ [y]).set ((ini ++ [y]).length - 1) (y.1, a.2)) R else joinGo c (ini ++ [y] ++ [a]) R) = _
  rw [Ct.set_last]
theorem joinGo_spec {c : Int} (hc : 0 ≤ c) : ∀ (R P J : List Seg), SrtG 0 (P ++ R) → Jn c P J → Jn c (P ++ R) (joinGo c J R) ∧ (joinGo c J R).length ≤ J.length + R.length
  | [], P, J, _, h => by rw [List.append_nil]; exact ⟨h, Nat.le_refl _⟩
  | a :: R, P, J, hs, h => by
    have ⟨hP, hR, hPR⟩ := srt_app hs
    have a0 := hR.head.1
    have hlt : ∀ y ∈ J, y.2 < a.1 := fun y hy => by
      obtain ⟨z, hz, h1, h2⟩ := h.hi y hy
      have := hPR z hz a (.head _)
      omega
    have hs' : SrtG 0 (P ++ [a] ++ R) := by rw [List.append_assoc]; exact hs
    have mono : ∀ x, memS P x → memS (P ++ [a]) x := fun x hx => memS_app.mpr (.inl hx)
    have ma : ∀ x, a.1 ≤ x → x ≤ a.2 → memS (P ++ [a]) x := fun x h1 h2 => memS_app.mpr (.inr (memS_one.mpr ⟨h1, h2⟩))
    have app : (∀ y ∈ J, y.2 + (c + 1) < a.1) → Jn c (P ++ [a]) (J ++ [a]) := fun hf => {
      srt := srt_snoc h.srt a0 hf
      mem := fun x hx => by
        rcases memS_app.mp hx with hx | hx
        · exact memS_app.mpr (.inl (h.mem x hx))
        · exact memS_app.mpr (.inr hx)
      lo := fun y hy => by
        rcases List.mem_append.mp hy with hy | hy
        · exact mono _ (h.lo y hy)
        · rw [List.mem_singleton.mp hy]
          exact ma _ (Int.le_refl _) a0
      hi := fun y hy => by
        rcases List.mem_append.mp hy with hy | hy
        · exact mono _ (h.hi y hy)
        · rw [List.mem_singleton.mp hy]
          exact ma _ a0 (Int.le_refl _)
      in_ := fun y hy z h1 h2 => by
        rcases List.mem_append.mp hy with hy | hy
        · obtain ⟨w, k1, k2, k3⟩ := h.in_ y hy z h1 h2
          exact ⟨w, k1, k2, mono _ k3⟩
        · rw [List.mem_singleton.mp hy] at h1 h2
          exact ⟨z, Int.le_refl _, by omega, ma _ h1 h2⟩ }
    rcases List.eq_nil_or_concat J with rfl | ⟨ini, y, rfl⟩
    · show Jn c (P ++ a :: R) (joinGo c ([] ++ [a]) R) ∧ (joinGo c ([] ++ [a]) R).length ≤ _
      have := joinGo_spec hc R (P ++ [a]) ([] ++ [a]) hs' (app fun y hy => by cases hy)
      rw [List.append_assoc] at this
      exact ⟨this.1, by have := this.2; simp only [List.length_nil, List.length_append, List.length_cons] at this ⊢; omega⟩
    · rw [List.concat_eq_append] at h hlt app ⊢
      rw [joinGo_step]
      have ⟨hi, hy1, hy2⟩ := srt_app h.srt
      have hy0 := h.srt.1 y (List.mem_append_right _ (.head _))
      have hya := hlt y (List.mem_append_right _ (.head _))
      by_cases cc : a.1 - y.2 - 1 ≤ c
      · rw [if_pos cc]
        have hj : Jn c (P ++ [a]) (ini ++ [(y.1, a.2)]) := {
          srt := srt_snoc hi (show y.1 ≤ a.2 by omega) fun z hz => hy2 z hz y (.head _)
          mem := fun x hx => by
            rcases memS_app.mp hx with hx | hx
            · rcases memS_app.mp (h.mem x hx) with h1 | h1
              · exact memS_app.mpr (.inl h1)
              · have h1 := memS_one.mp h1
                exact memS_app.mpr (.inr (memS_one.mpr ⟨h1.1, by show x ≤ a.2; omega⟩))
            · have h1 := memS_one.mp hx
              exact memS_app.mpr (.inr (memS_one.mpr ⟨by show y.1 ≤ x; omega, h1.2⟩))
          lo := fun z hz => by
            rcases List.mem_append.mp hz with hz | hz
            · exact mono _ (h.lo z (List.mem_append_left _ hz))
            · rw [List.mem_singleton.mp hz]
              exact mono _ (h.lo y (List.mem_append_right _ (.head _)))
          hi := fun z hz => by
            rcases List.mem_append.mp hz with hz | hz
            · exact mono _ (h.hi z (List.mem_append_left _ hz))
            · rw [List.mem_singleton.mp hz]
              exact ma _ a0 (Int.le_refl _)
          in_ := fun z hz x h1 h2 => by
            rcases List.mem_append.mp hz with hz | hz
            · obtain ⟨w, k1, k2, k3⟩ := h.in_ z (List.mem_append_left _ hz) x h1 h2
              exact ⟨w, k1, k2, mono _ k3⟩
            · rw [List.mem_singleton.mp hz] at h1 h2
              have h1 : y.1 ≤ x := h1
              have h2 : x ≤ a.2 := h2
              by_cases h3 : x ≤ y.2
              · obtain ⟨w, k1, k2, k3⟩ := h.in_ y (List.mem_append_right _ (.head _)) x h1 h3
                exact ⟨w, k1, k2, mono _ k3⟩
              · by_cases h4 : x ≤ a.1
                · exact ⟨a.1, h4, by omega, ma _ (Int.le_refl _) a0⟩
                · exact ⟨x, Int.le_refl _, by omega, ma _ (by omega) h2⟩ }
        have := joinGo_spec hc R (P ++ [a]) _ hs' hj
        rw [List.append_assoc] at this
        exact ⟨this.1, by have := this.2; simp only [List.length_append, List.length_cons, List.length_nil] at this ⊢; omega⟩
      · rw [if_neg cc]
        have hj := app fun z hz => by
          rcases List.mem_append.mp hz with hz | hz
          · have := hy2 z hz y (.head _)
            omega
          · rw [List.mem_singleton.mp hz]
            omega
        have := joinGo_spec hc R (P ++ [a]) _ hs' hj
        rw [List.append_assoc] at this
        exact ⟨this.1, by have := this.2; simp only [List.length_append, List.length_cons, List.length_nil] at this ⊢; omega⟩
theorem joined_spec {c : Int} (hc : 0 ≤ c) {A : List Seg} (hA : SrtG 0 A) : Jn c A (joined A c) ∧ (joined A c).length ≤ A.length := by
  have := joinGo_spec hc A [] [] hA ⟨srt_nil, fun x h => absurd h memS_nil, fun y hy => by (cases hy), fun y hy => by (cases hy), fun y hy => by (cases hy)⟩
  refine ⟨this.1, ?_⟩
  have h2 := this.2
  show (joinGo c [] A).length ≤ A.length
  simpa using h2
/-- some pad for each length -/
def Pads (a b c : Int) (D : Int → Prop) (x : Int) : Prop := ∀ L, a ≤ L → L ≤ b → ∃ d, 0 ≤ d ∧ d ≤ c ∧ D (x + L + d)
theorem pads_iff {a b c : Int} (hab : a ≤ b) (hc : 0 ≤ c) {A J : List Seg} (h : Jn c A J) (x : Int) : (∃ y ∈ J, y.1 - a - c ≤ x ∧ x ≤ y.2 - b) ↔ Pads a b c (memS A) x := by
  constructor
  · rintro ⟨y, hy, h1, h2⟩ L l1 l2
    by_cases hz : y.1 ≤ x + L
    · obtain ⟨w, k1, k2, k3⟩ := h.in_ y hy (x + L) hz (by omega)
      exact ⟨w - (x + L), by omega, by omega, by rw [show x + L + (w - (x + L)) = w by omega]; exact k3⟩
    · exact ⟨y.1 - (x + L), by omega, by omega, by rw [show x + L + (y.1 - (x + L)) = y.1 by omega]; exact h.lo y hy⟩
  · intro hp
    obtain ⟨d, d1, d2, d3⟩ := hp a (Int.le_refl _) hab
    obtain ⟨y, hy, h1, h2⟩ := h.mem _ d3
    refine ⟨y, hy, by omega, ?_⟩
    have key : ∀ n : Nat, a + n ≤ b → x + (a + n) ≤ y.2 := by
      intro n
      induction n with
      | zero => intro _; simp; omega
      | succ n ih =>
        intro hn
        have ih := ih (by omega)
        apply Int.not_lt.mp
        intro hlt
        obtain ⟨d', e1, e2, e3⟩ := hp (a + (n + 1 : Nat)) (by omega) hn
        obtain ⟨y', hy', k1, k2⟩ := h.mem _ e3
        have hne : y ≠ y' := fun z => by subst z; omega
        obtain ⟨i, hi, ei⟩ := List.getElem_of_mem hy
        obtain ⟨j, hj, ej⟩ := List.getElem_of_mem hy'
        have hpw := List.pairwise_iff_getElem.mp h.srt.2
        have hy0 := h.srt.1 y hy
        have hy0' := h.srt.1 y' hy'
        rcases Nat.lt_trichotomy i j with c1 | c1 | c1
        · have := hpw i j hi hj c1
          rw [ei, ej] at this
          omega
        · subst c1
          exact hne (ei.symm.trans ej)
        · have := hpw j i hj hi c1
          rw [ei, ej] at this
          omega
    have := key (b - a).toNat (by omega)
    omega
theorem pullRow_spec (a b c : Int) (J : List Seg) : ∃ R : List Seg, J.filterMap (pullRow a b c) = R.map up ∧ (∀ x ∈ R, x.1 ≤ x.2) ∧ (∀ x, memS R x ↔ 0 ≤ x ∧ ∃ y ∈ J, y.1 - a - c ≤ x ∧ x ≤ y.2 - b) ∧ R.length ≤ J.length := by
  induction J with
  | nil => exact ⟨[], rfl, fun _ h => (by cases h), fun x => ⟨fun h => absurd h memS_nil, fun ⟨_, y, hy, _⟩ => by cases hy⟩, Nat.le_refl _⟩
  | cons y J ih =>
    obtain ⟨R, e, h1, h2, h3⟩ := ih
    rw [List.filterMap_cons]
    unfold pullRow
    by_cases cc : y.2 - b ≥ max 0 (y.1 - a - c)
    · rw [if_pos cc]
      refine ⟨(max 0 (y.1 - a - c), y.2 - b) :: R, by rw [List.map_cons, ← e]; rfl, fun x hx => ?_, fun x => ?_, by simp; omega⟩
      · rcases List.mem_cons.mp hx with rfl | hx
        · exact cc
        · exact h1 x hx
      · rw [memS_cons, h2]
        show (max 0 (y.1 - a - c) ≤ x ∧ x ≤ y.2 - b) ∨ _ ↔ _
        constructor
        · rintro (h | ⟨h0, z, hz, h⟩)
          · exact ⟨by omega, y, .head _, by omega, h.2⟩
          · exact ⟨h0, z, .tail _ hz, h⟩
        · rintro ⟨h0, z, hz, h⟩
          rcases List.mem_cons.mp hz with rfl | hz
          · exact .inl ⟨by omega, h.2⟩
          · exact .inr ⟨h0, z, hz, h⟩
    · rw [if_neg cc]
      refine ⟨R, e, h1, fun x => ?_, by simp; omega⟩
      rw [h2]
      constructor
      · rintro ⟨h0, z, hz, h⟩
        exact ⟨h0, z, .tail _ hz, h⟩
      · rintro ⟨h0, z, hz, h⟩
        rcases List.mem_cons.mp hz with rfl | hz
        · omega
        · exact ⟨h0, z, hz, h⟩
theorem pulled_spec {a b c : Int} (hab : a ≤ b) (hc : 0 ≤ c) {A : List Seg} (hA : SrtG 0 A) : ∃ C, pulled A a b c = C.map up ∧ SrtG 1 C ∧ (∀ x, memS C x ↔ 0 ≤ x ∧ Pads a b c (memS A) x) ∧ C.length ≤ A.length := by
  obtain ⟨hj, hl⟩ := joined_spec hc hA
  obtain ⟨R, e, h1, h2, h3⟩ := pullRow_spec a b c (joined A c)
  obtain ⟨C, e2, k1, k2, k3⟩ := gather_spec h1
  refine ⟨C, ?_, k1, fun x => ?_, by omega⟩
  · unfold pulled pulledRows
    rw [e]
    exact e2
  · rw [k2, h2, pads_iff hab hc hj]
end Kq

/-! KQ5: windows and pieces. -/
namespace Kq
open PySem Kp

def memA (w : Arc) (x : Int) : Prop := w.1 ≤ x ∧ ∀ l, w.2 = some l → x ≤ l
structure SrtA (ws : List Arc) : Prop where
  ne : ∀ w ∈ ws, ∀ l, w.2 = some l → w.1 ≤ l
  pw : ws.Pairwise fun x y => ∃ l, x.2 = some l ∧ l < y.1
theorem SrtA.tail {w : Arc} {ws : List Arc} (h : SrtA (w :: ws)) : SrtA ws := ⟨fun x hx => h.ne x (.tail _ hx), (List.pairwise_cons.mp h.pw).2⟩
structure Cut (ps : List Seg) (ws : List Arc) (C : List Seg) : Prop where
  srt : SrtG 0 C
  mem : ∀ x, memS C x ↔ memS ps x ∧ ∃ w ∈ ws, memA w x
  sub : ∀ c ∈ C, ∃ p ∈ ps, ∃ w ∈ ws, ∀ x, (c.1 ≤ x ∧ x ≤ c.2) ↔ (p.1 ≤ x ∧ x ≤ p.2) ∧ memA w x
theorem Cut.low {ps : List Seg} {ws : List Arc} {C : List Seg} (h : Cut ps ws C) {c : Seg} (hc : c ∈ C) : ∃ p ∈ ps, ∃ w ∈ ws, p.1 ≤ c.1 ∧ c.2 ≤ p.2 ∧ w.1 ≤ c.1 := by
  obtain ⟨p, hp, w, hw, e⟩ := h.sub c hc
  have c0 := h.srt.1 c hc
  have h1 := (e c.1).mp ⟨Int.le_refl _, c0⟩
  have h2 := (e c.2).mp ⟨c0, Int.le_refl _⟩
  exact ⟨p, hp, w, hw, h1.1.1, h2.1.2, h1.2.1⟩
theorem cutN_spec : ∀ (n : Nat) (ps : List Seg) (ws : List Arc), ps.length + ws.length ≤ n → SrtG 0 ps → SrtA ws → Cut ps ws (cutN n ps ws) ∧ (cutN n ps ws).length ≤ ps.length + ws.length
  | 0, [], [], _, _, _ => ⟨⟨srt_nil, fun x => ⟨fun h => absurd h memS_nil, fun h => absurd h.1 memS_nil⟩, fun _ h => by cases h⟩, Nat.le_refl _⟩
  | 0, _ :: _, _, h, _, _ => absurd h (by simp)
  | 0, [], _ :: _, h, _, _ => absurd h (by simp)
  | n + 1, [], ws, _, _, _ => ⟨⟨srt_nil, fun x => ⟨fun h => absurd h memS_nil, fun h => absurd h.1 memS_nil⟩, fun _ h => by cases h⟩, Nat.zero_le _⟩
  | n + 1, p :: ps, [], _, _, _ => ⟨⟨srt_nil, fun x => ⟨fun h => absurd h memS_nil, fun ⟨_, w, hw, _⟩ => by cases hw⟩, fun _ h => by cases h⟩, Nat.zero_le _⟩
  | n + 1, p :: ps, w :: ws, hl, hP, hW => by
    have ⟨p1, p2⟩ := hP.head
    have w1 := hW.ne w (.head _)
    have w2 := (List.pairwise_cons.mp hW.pw).1
    simp only [List.length_cons] at hl
    -- the last line of the common part
    obtain ⟨last, eL, hL⟩ : ∃ last, (match w.2 with | none => p.2 | some e => if e < p.2 then e else p.2) = last ∧ ((∀ l, w.2 = some l → last ≤ l) ∧ last ≤ p.2 ∧ (last = p.2 ∨ w.2 = some last)) := by
      refine ⟨_, rfl, ?_⟩
      obtain ⟨wa, wb⟩ := w
      cases wb with
      | none => exact ⟨fun l z => (by cases z), Int.le_refl _, .inl rfl⟩
      | some e =>
        show (∀ l, some e = some l → (if e < p.2 then e else p.2) ≤ l) ∧ (if e < p.2 then e else p.2) ≤ p.2 ∧ ((if e < p.2 then e else p.2) = p.2 ∨ some e = some (if e < p.2 then e else p.2))
        split
        · exact ⟨fun l z => (by cases z; exact Int.le_refl _), by omega, .inr rfl⟩
        · exact ⟨fun l z => (by cases z; omega), Int.le_refl _, .inl rfl⟩
    have em : cutN (n + 1) (p :: ps) (w :: ws) = (if (if w.1 > p.1 then w.1 else p.1) ≤ last then [((if w.1 > p.1 then w.1 else p.1), last)] else []) ++
        (if (match w.2 with | none => true | some e => decide (p.2 ≤ e)) = true then cutN n ps (w :: ws) else cutN n (p :: ps) ws) := by
      rw [← eL]
      rfl
    rw [em]
    generalize hf : (if w.1 > p.1 then w.1 else p.1) = first
    have hf1 : p.1 ≤ first ∧ w.1 ≤ first ∧ (first = p.1 ∨ first = w.1) := by
      rw [← hf]
      split <;> omega
    have hme : ∀ x, (first ≤ x ∧ x ≤ last) ↔ (p.1 ≤ x ∧ x ≤ p.2) ∧ memA w x := by
      intro x
      constructor
      · rintro ⟨h1, h2⟩
        exact ⟨⟨by omega, by omega⟩, by omega, fun l hl => by have := hL.1 l hl; omega⟩
      · rintro ⟨⟨h1, h2⟩, h3, h4⟩
        refine ⟨by omega, ?_⟩
        rcases hL.2.2 with h | h
        · omega
        · exact h4 _ h
    -- either branch
    have join : ∀ {ps' : List Seg} {ws' : List Arc} {C : List Seg}, Cut ps' ws' C → (∀ q ∈ ps', q ∈ p :: ps) → (∀ v ∈ ws', v ∈ w :: ws) → (∀ c ∈ C, last < c.1) →
        (∀ x, (memS (p :: ps) x ∧ ∃ v ∈ w :: ws, memA v x) ↔ ((p.1 ≤ x ∧ x ≤ p.2) ∧ memA w x) ∨ (memS ps' x ∧ ∃ v ∈ ws', memA v x)) → Cut (p :: ps) (w :: ws) ((if first ≤ last then [(first, last)] else []) ++ C) := by
      intro ps' ws' C h s1 s2 far hm
      have hsub : ∀ c ∈ C, ∃ p' ∈ p :: ps, ∃ w' ∈ w :: ws, ∀ x, (c.1 ≤ x ∧ x ≤ c.2) ↔ (p'.1 ≤ x ∧ x ≤ p'.2) ∧ memA w' x := fun c hc => by
        obtain ⟨a, ha, b, hb, e⟩ := h.sub c hc
        exact ⟨a, s1 a ha, b, s2 b hb, e⟩
      by_cases cf : first ≤ last
      · rw [if_pos cf]
        refine ⟨h.srt.cons cf fun y hy => by have := far y hy; simp; omega, fun x => ?_, fun c hc => ?_⟩
        · show memS ((first, last) :: C) x ↔ _
          rw [memS_cons, hm, h.mem, ← hme]
        · rcases List.mem_cons.mp hc with rfl | hc
          · exact ⟨p, .head _, w, .head _, hme⟩
          · exact hsub c hc
      · rw [if_neg cf]
        refine ⟨h.srt, fun x => ?_, hsub⟩
        show memS C x ↔ _
        rw [hm, h.mem, ← hme]
        exact ⟨.inr, fun h => h.elim (fun h => absurd (by omega) cf) id⟩
    have hlen : ∀ C : List Seg, ((if first ≤ last then [(first, last)] else []) ++ C).length ≤ C.length + 1 := fun C => by
      split <;> simp
    by_cases cc : (match w.2 with | none => true | some e => decide (p.2 ≤ e)) = true
    · rw [if_pos cc]
      have hlp : last = p.2 := by
        rcases hL.2.2 with h | h
        · exact h
        · rw [h] at cc
          have := of_decide_eq_true cc
          omega
      obtain ⟨hC, hn⟩ := cutN_spec n ps (w :: ws) (by simp only [List.length_cons]; omega) hP.tail hW
      refine ⟨join hC (fun q h => .tail _ h) (fun v h => h) (fun c hc => ?_) (fun x => ?_), ?_⟩
      · obtain ⟨q, hq, _, _, h1, _, _⟩ := hC.low hc
        have := p2 q hq
        omega
      · rw [memS_cons]
        constructor
        · rintro ⟨h1 | h1, v, hv, hx⟩
          · rcases List.mem_cons.mp hv with rfl | hv
            · exact .inl ⟨h1, hx⟩
            · obtain ⟨l, e1, e2⟩ := w2 v hv
              have := hx.1
              have := hL.1 l e1
              omega
          · exact .inr ⟨h1, v, hv, hx⟩
        · rintro (⟨h1, h2⟩ | ⟨h1, h2⟩)
          · exact ⟨.inl h1, w, .head _, h2⟩
          · exact ⟨.inr h1, h2⟩
      · have := hlen (cutN n ps (w :: ws))
        simp only [List.length_cons] at hn ⊢
        omega
    · rw [if_neg cc]
      obtain ⟨e, he, hlt⟩ : ∃ e, w.2 = some e ∧ e < p.2 := by
        cases e : w.2 with
        | none =>
          rw [e] at cc
          exact absurd rfl cc
        | some e' =>
          rw [e] at cc
          exact ⟨e', rfl, by simp at cc; exact cc⟩
      have hle : last = e := by
        have h1 := hL.1 e he
        rcases hL.2.2 with h | h
        · omega
        · rw [h] at he
          cases he
          rfl
      obtain ⟨hC, hn⟩ := cutN_spec n (p :: ps) ws (by simp only [List.length_cons]; omega) hP hW.tail
      refine ⟨join hC (fun q h => h) (fun v h => .tail _ h) (fun c hc => ?_) (fun x => ?_), ?_⟩
      · obtain ⟨_, _, v, hv, _, _, h1⟩ := hC.low hc
        obtain ⟨l, e1, e2⟩ := w2 v hv
        rw [he] at e1
        cases e1
        omega
      · constructor
        · rintro ⟨h1, v, hv, hx⟩
          rcases List.mem_cons.mp hv with rfl | hv
          · left
            have h2 := hx.2 e he
            refine ⟨?_, hx⟩
            rcases memS_cons.mp h1 with h1 | ⟨q, hq, h3, h4⟩
            · exact h1
            · have := p2 q hq
              omega
          · exact .inr ⟨h1, v, hv, hx⟩
        · rintro (⟨h1, h2⟩ | ⟨h1, v, hv, h2⟩)
          · exact ⟨memS_cons.mpr (.inl h1), w, .head _, h2⟩
          · exact ⟨h1, v, .tail _ hv, h2⟩
      · have := hlen (cutN n (p :: ps) ws)
        simp only [List.length_cons] at hn ⊢
        omega
theorem cut_spec {ps : List Seg} {ws : List Arc} (hP : SrtG 0 ps) (hW : SrtA ws) : Cut ps ws (cutP ps ws) ∧ (cutP ps ws).length ≤ ps.length + ws.length := cutN_spec _ ps ws (Nat.le_refl _) hP hW
/-! ### windows -/
theorem has_mid {ru : Rul} {c d e : Int} (h1 : hasC ru c = true) (h2 : hasC ru e = true) (k1 : c ≤ d) (k2 : d ≤ e) : hasC ru d = true := by
  cases ru with
  | pages H =>
    have h1 : 1 ≤ c := of_decide_eq_true h1
    exact decide_eq_true (show 1 ≤ d by omega)
  | cells hs =>
    have h1 : 1 ≤ c ∧ c ≤ hs.length + 1 := of_decide_eq_true h1
    have h2 : 1 ≤ e ∧ e ≤ hs.length + 1 := of_decide_eq_true h2
    exact decide_eq_true (show 1 ≤ d ∧ d ≤ hs.length + 1 by omega)
theorem cell_first {ru : Rul} (ok : RulOk ru) {c : Int} (hc : hasC ru c = true) : cellQ ru (firstC ru c) = c := cell_uniq ok hc (Int.le_refl _) fun e he => first_le_last ok hc he
theorem first_mono {ru : Rul} (ok : RulOk ru) {c d : Int} (hc : hasC ru c = true) (hd : hasC ru d = true) (h : c ≤ d) : firstC ru c ≤ firstC ru d := by
  apply Int.not_lt.mp
  intro hlt
  have h1 := cell_mono ok (Int.le_of_lt hlt)
  rw [cell_first ok hc, cell_first ok hd] at h1
  have : c = d := by omega
  subst this
  omega
/-- the lines of cell c's window -/
def Win (ru : Rul) (low high c x : Int) : Prop := 0 ≤ x ∧ cellQ ru (x + low) = c ∧ cellQ ru (x + high) = c
theorem win_iff {ru : Rul} (ok : RulOk ru) {low high c : Int} (h0 : 0 ≤ low) (h1 : low ≤ high) (hc : hasC ru c = true) (x : Int) : Win ru low high c x ↔ max 0 (firstC ru c - low) ≤ x ∧ ∀ l, lastC ru c = some l → x ≤ l - high := by
  constructor
  · rintro ⟨x0, e1, e2⟩
    have s1 := cell_spec ok (show 0 ≤ x + low by omega)
    have s2 := cell_spec ok (show 0 ≤ x + high by omega)
    rw [e1] at s1
    rw [e2] at s2
    refine ⟨by have := s1.2.1; omega, fun l hl => ?_⟩
    have := s2.2.2 l hl
    omega
  · rintro ⟨k1, k2⟩
    refine ⟨by omega, cell_uniq ok hc (by omega) fun e he => ?_, cell_uniq ok hc (by omega) fun e he => ?_⟩
    · have := k2 e he
      omega
    · have := k2 e he
      omega
theorem winRow_some {ru : Rul} (ok : RulOk ru) {low high c : Int} (h0 : 0 ≤ low) (h1 : low ≤ high) (hc : hasC ru c = true) {w : Int × Arc} (h : winRow ru low high c = some w) :
    w.1 = c ∧ 0 ≤ w.2.1 ∧ (∀ l, w.2.2 = some l → w.2.1 ≤ l) ∧ (∀ x, memA w.2 x ↔ Win ru low high c x) ∧ (∀ l, lastC ru c = some l → w.2.2 = some (l - high)) ∧ firstC ru c - low ≤ w.2.1 := by
  unfold winRow at h
  cases e : lastC ru c with
  | none =>
    rw [e] at h
    cases h
    refine ⟨rfl, (by show 0 ≤ max 0 (firstC ru c - low); omega), fun l z => (by cases z), fun x => ?_, fun l z => (by cases z), by show _ ≤ max 0 (firstC ru c - low); omega⟩
    rw [win_iff ok h0 h1 hc, e]
    exact ⟨fun h => ⟨h.1, fun l z => by cases z⟩, fun h => ⟨h.1, fun l z => by cases z⟩⟩
  | some l =>
    rw [e] at h
    by_cases cc : max 0 (firstC ru c - low) ≤ l - high
    · have h : (if max 0 (firstC ru c - low) ≤ l - high then some (c, (max 0 (firstC ru c - low), some (l - high))) else none) = some w := h
      rw [if_pos cc] at h
      cases h
      refine ⟨rfl, (by show 0 ≤ max 0 (firstC ru c - low); omega), fun l z => (by cases z; exact cc), fun x => ?_, fun l' z => (by cases z; rfl), by show _ ≤ max 0 (firstC ru c - low); omega⟩
      rw [win_iff ok h0 h1 hc, e]
      exact ⟨fun h => ⟨h.1, fun l z => by cases z; exact h.2 _ rfl⟩, fun h => ⟨h.1, fun l z => by cases z; exact h.2 _ rfl⟩⟩
    · have h : (if max 0 (firstC ru c - low) ≤ l - high then some (c, (max 0 (firstC ru c - low), some (l - high))) else none) = some w := h
      rw [if_neg cc] at h
      cases h
theorem winRow_none {ru : Rul} (ok : RulOk ru) {low high c : Int} (h0 : 0 ≤ low) (h1 : low ≤ high) (hc : hasC ru c = true) (h : winRow ru low high c = none) (x : Int) : ¬ Win ru low high c x := by
  rw [win_iff ok h0 h1 hc]
  rintro ⟨k1, k2⟩
  unfold winRow at h
  cases e : lastC ru c with
  | none =>
    rw [e] at h
    cases h
  | some l =>
    rw [e] at h
    have h : (if max 0 (firstC ru c - low) ≤ l - high then some (c, (max 0 (firstC ru c - low), some (l - high))) else none) = none := h
    have := k2 l e
    rw [if_pos (by omega)] at h
    cases h
structure Wins (ru : Rul) (low high most c : Int) (W : List (Int × Arc)) : Prop where
  srt : SrtA (W.map Prod.snd)
  cel : ∀ w ∈ W, c ≤ w.1 ∧ 0 ≤ w.2.1 ∧ firstC ru c - low ≤ w.2.1 ∧ ∀ x, memA w.2 x ↔ Win ru low high w.1 x
  dis : W.Pairwise fun v w => v.1 < w.1
theorem winGo_spec {ru : Rul} (ok : RulOk ru) {low high most : Int} (h0 : 0 ≤ low) (h1 : low ≤ high) : ∀ (n : Nat) (c : Int), (hasC ru c = true → Wins ru low high most c (winGo ru low high most n c)) ∧ (winGo ru low high most n c).length ≤ n ∧ (hasC ru c = false → winGo ru low high most n c = [])
  | 0, c => ⟨fun _ => ⟨⟨fun _ h => (by cases h), .nil⟩, fun _ h => (by cases h), .nil⟩, Nat.le_refl _, fun _ => rfl⟩
  | n + 1, c => by
    obtain ⟨i1, i2, i3⟩ := winGo_spec ok (most := most) h0 h1 n (c + 1)
    unfold winGo
    refine ⟨fun hc => ?_, ?_, fun hc => by rw [if_neg (by rw [hc]; simp)]⟩
    · split
      · rename_i cc
        cases e : winRow ru low high c with
        | none =>
          show Wins ru low high most c ([] ++ winGo ru low high most n (c + 1))
          rw [List.nil_append]
          cases hn : hasC ru (c + 1) with
          | false =>
            rw [i3 hn]
            exact ⟨⟨fun _ h => (by cases h), .nil⟩, fun _ h => (by cases h), .nil⟩
          | true =>
            have i1 := i1 hn
            have := first_mono ok hc hn (by omega)
            exact ⟨i1.srt, fun w hw => by obtain ⟨k1, k2, k3, k4⟩ := i1.cel w hw; exact ⟨by omega, k2, by omega, k4⟩, i1.dis⟩
        | some w =>
          obtain ⟨w1, w2, w3, w4, w5, w6⟩ := winRow_some ok h0 h1 hc e
          show Wins ru low high most c ([w] ++ winGo ru low high most n (c + 1))
          cases hn : hasC ru (c + 1) with
          | false =>
            rw [i3 hn]
            refine ⟨⟨fun v hv l hl => ?_, List.pairwise_singleton _ _⟩, fun v hv => ?_, List.pairwise_singleton _ _⟩
            · rw [List.mem_singleton.mp hv] at hl ⊢
              exact w3 l hl
            · rw [List.mem_singleton.mp hv]
              exact ⟨by omega, w2, by omega, by rw [w1]; exact w4⟩
          | true =>
            have i1 := i1 hn
            have hm := first_mono ok hc hn (by omega)
            refine ⟨⟨fun v hv l hl => ?_, ?_⟩, fun v hv => ?_, ?_⟩
            · rcases List.mem_cons.mp hv with rfl | hv
              · exact w3 l hl
              · exact i1.srt.ne v hv l hl
            · refine .cons (fun v hv => ?_) i1.srt.pw
              obtain ⟨u, hu, rfl⟩ := List.mem_map.mp hv
              obtain ⟨k1, k2, k3, k4⟩ := i1.cel u hu
              cases el : lastC ru c with
              | none =>
                have := no_next hc el
                rw [hn] at this
                cases this
              | some l =>
                have := (first_next ok hc el).2
                exact ⟨l - high, w5 l el, by omega⟩
            · rcases List.mem_cons.mp hv with rfl | hv
              · exact ⟨by omega, w2, by omega, by rw [w1]; exact w4⟩
              · obtain ⟨k1, k2, k3, k4⟩ := i1.cel v hv
                exact ⟨by omega, k2, by omega, k4⟩
            · refine .cons (fun v hv => ?_) i1.dis
              have := (i1.cel v hv).1
              omega
      · exact ⟨⟨fun _ h => (by cases h), .nil⟩, fun _ h => (by cases h), .nil⟩
    · split
      · have : (winRow ru low high c).toList.length ≤ 1 := by cases winRow ru low high c <;> simp
        rw [List.length_append]
        omega
      · exact Nat.zero_le _
theorem winGo_all {ru : Rul} (ok : RulOk ru) {low high most x d : Int} (h0 : 0 ≤ low) (h1 : low ≤ high) (hx : x ≤ most) (hw : Win ru low high d x) (hd : hasC ru d = true) :
    ∀ (n : Nat) (c : Int), hasC ru c = true → c ≤ d → d - c < n → ∃ w ∈ winGo ru low high most n c, w.1 = d ∧ memA w.2 x
  | 0, c, _, h2, h3 => by simp at h3; omega
  | n + 1, c, hc, h2, h3 => by
    have hf := first_mono ok hc hd h2
    have hfd := ((win_iff ok h0 h1 hd x).mp hw).1
    unfold winGo
    rw [if_pos ⟨hc, by omega⟩]
    by_cases e : c = d
    · subst e
      cases e : winRow ru low high c with
      | none => exact absurd hw (winRow_none ok h0 h1 hc e x)
      | some w =>
        obtain ⟨w1, w2, w3, w4, w5, w6⟩ := winRow_some ok h0 h1 hc e
        exact ⟨w, .head _, w1, (w4 x).mpr hw⟩
    · obtain ⟨w, hw', k⟩ := winGo_all ok h0 h1 hx hw hd n (c + 1) (has_mid hc hd (by omega) (by omega)) (by omega) (by omega)
      exact ⟨w, List.mem_append_right _ hw', k⟩
structure WinsQ (ru : Rul) (low high most : Int) (W : List (Int × Arc)) : Prop where
  srt : SrtA (W.map Prod.snd)
  cel : ∀ w ∈ W, ∀ x, memA w.2 x ↔ Win ru low high w.1 x
  dis : W.Pairwise fun v w => v.1 < w.1
  all : ∀ x, 0 ≤ x → x ≤ most → cellQ ru (x + low) = cellQ ru (x + high) → ∃ w ∈ W, memA w.2 x
theorem windows_spec {ru : Rul} (ok : RulOk ru) {low high most : Int} (h0 : 0 ≤ low) (h1 : low ≤ high) (hm : 0 ≤ most) : WinsQ ru low high most (windowsQ ru low high most) ∧ (windowsQ ru low high most).length ≤ (most + low + 1).toNat := by
  have hc := cell_spec ok (show 0 ≤ high by omega)
  obtain ⟨i1, i2, _⟩ := winGo_spec ok (most := most) h0 h1 (most + low + 2 - cellQ ru high).toNat (cellQ ru high)
  have i1 := i1 hc.1
  refine ⟨⟨i1.srt, fun w hw => (i1.cel w hw).2.2.2, i1.dis, fun x x0 xm e => ?_⟩, ?_⟩
  · have sx := cell_spec ok (show 0 ≤ x + high by omega)
    have hw : Win ru low high (cellQ ru (x + high)) x := ⟨x0, e, rfl⟩
    have hcm := cell_mono ok (show high ≤ x + high by omega)
    have hfd := ((win_iff ok h0 h1 sx.1 x).mp hw).1
    have hg := first_ge ok sx.1
    obtain ⟨w, hw', _, k⟩ := winGo_all ok h0 h1 xm hw sx.1 (most + low + 2 - cellQ ru high).toNat (cellQ ru high) hc.1 hcm (by omega)
    exact ⟨w, hw', k⟩
  · have : 1 ≤ cellQ ru high := by
      cases ru with
      | pages H => exact of_decide_eq_true hc.1
      | cells hs => exact (show 1 ≤ cellQ (.cells hs) high ∧ cellQ (.cells hs) high ≤ hs.length + 1 from of_decide_eq_true hc.1).1
    unfold windowsQ
    omega
end Kq

/-! KQ6: the sets of a plan by their own definition. -/
namespace Kq
open PySem Kp

structure Pcs (ru : Rul) (lo hi : Nat → Int) (most : Int) (M : List Nat) (ps : List Seg) : Prop where
  srt : SrtG 0 ps
  mem : ∀ x, memS ps x ↔ (0 ≤ x ∧ x ≤ most) ∧ ∀ j ∈ M, cellQ ru (x + lo j) = cellQ ru (x + hi j)
  same : ∀ s ∈ ps, ∀ x y, (s.1 ≤ x ∧ x ≤ s.2) → (s.1 ≤ y ∧ y ≤ s.2) → ∀ j ∈ M, cellQ ru (x + lo j) = cellQ ru (y + lo j)
  dif : ∀ s ∈ ps, ∀ s' ∈ ps, ∀ x y, (s.1 ≤ x ∧ x ≤ s.2) → (s'.1 ≤ y ∧ y ≤ s'.2) → (∀ j ∈ M, cellQ ru (x + lo j) = cellQ ru (y + lo j)) → s = s'
theorem pw_inj {W : List (Int × Arc)} (h : W.Pairwise fun v w => v.1 < w.1) {v w : Int × Arc} (hv : v ∈ W) (hw : w ∈ W) (e : v.1 = w.1) : v = w := by
  obtain ⟨i, hi, rfl⟩ := List.getElem_of_mem hv
  obtain ⟨j, hj, rfl⟩ := List.getElem_of_mem hw
  have hp := List.pairwise_iff_getElem.mp h
  rcases Nat.lt_trichotomy i j with c | c | c
  · have := hp i j hi hj c
    omega
  · subst c
    rfl
  · have := hp j i hj hi c
    omega
theorem pcs_step {ru : Rul} (ok : RulOk ru) {lo hi : Nat → Int} {most : Int} (hm : 0 ≤ most) {M : List Nat} {ps : List Seg} {j : Nat} (hlh : 0 ≤ lo j ∧ lo j ≤ hi j) (h : Pcs ru lo hi most M ps) : Pcs ru lo hi most (M ++ [j]) (cutP ps ((windowsQ ru (lo j) (hi j) most).map Prod.snd)) := by
  obtain ⟨hW, _⟩ := windows_spec ok hlh.1 hlh.2 hm
  obtain ⟨hC, _⟩ := cut_spec h.srt hW.srt
  generalize cutP ps ((windowsQ ru (lo j) (hi j) most).map Prod.snd) = C at hC
  have sub : ∀ c ∈ C, ∃ p ∈ ps, ∃ w ∈ windowsQ ru (lo j) (hi j) most, ∀ x, (c.1 ≤ x ∧ x ≤ c.2) ↔ (p.1 ≤ x ∧ x ≤ p.2) ∧ Win ru (lo j) (hi j) w.1 x := by
    intro c hc
    obtain ⟨p, hp, v, hv, e⟩ := hC.sub c hc
    obtain ⟨w, hw, rfl⟩ := List.mem_map.mp hv
    exact ⟨p, hp, w, hw, fun x => by rw [e, hW.cel w hw]⟩
  refine ⟨hC.srt, fun x => ?_, fun s hs x y hx hy k hk => ?_, fun s hs s' hs' x y hx hy hk => ?_⟩
  · rw [hC.mem, h.mem]
    constructor
    · rintro ⟨⟨h1, h2⟩, v, hv, hx⟩
      obtain ⟨w, hw, rfl⟩ := List.mem_map.mp hv
      have hw' := (hW.cel w hw x).mp hx
      refine ⟨h1, fun k hk => ?_⟩
      rcases List.mem_append.mp hk with hk | hk
      · exact h2 k hk
      · rw [List.mem_singleton.mp hk, hw'.2.1, hw'.2.2]
    · rintro ⟨h1, h2⟩
      obtain ⟨w, hw, hx⟩ := hW.all x h1.1 h1.2 (h2 j (List.mem_append_right _ (.head _)))
      exact ⟨⟨h1, fun k hk => h2 k (List.mem_append_left _ hk)⟩, w.2, List.mem_map_of_mem hw, hx⟩
  · obtain ⟨p, hp, w, hw, e⟩ := sub s hs
    have hx := (e x).mp hx
    have hy := (e y).mp hy
    rcases List.mem_append.mp hk with hk | hk
    · exact h.same p hp x y hx.1 hy.1 k hk
    · rw [List.mem_singleton.mp hk, hx.2.2.1, hy.2.2.1]
  · obtain ⟨p, hp, w, hw, e⟩ := sub s hs
    obtain ⟨p', hp', w', hw', e'⟩ := sub s' hs'
    have hx := (e x).mp hx
    have hy := (e' y).mp hy
    have ep : p = p' := h.dif p hp p' hp' x y hx.1 hy.1 fun k hk' => hk k (List.mem_append_left _ hk')
    have ew : w = w' := pw_inj hW.dis hw hw' (by rw [← hx.2.2.1, ← hy.2.2.1]; exact hk j (List.mem_append_right _ (.head _)))
    subst ep
    subst ew
    have s0 := hC.srt.1 s hs
    have s0' := hC.srt.1 s' hs'
    have a1 := (e' s.1).mpr ((e s.1).mp ⟨Int.le_refl _, s0⟩)
    have a2 := (e' s.2).mpr ((e s.2).mp ⟨s0, Int.le_refl _⟩)
    have a3 := (e s'.1).mpr ((e' s'.1).mp ⟨Int.le_refl _, s0'⟩)
    have a4 := (e s'.2).mpr ((e' s'.2).mp ⟨s0', Int.le_refl _⟩)
    exact Prod.ext (by omega) (by omega)
theorem pcs_go {ru : Rul} (ok : RulOk ru) {lo hi : Nat → Int} {most : Int} (hm : 0 ≤ most) (hlh : ∀ j, 0 ≤ lo j ∧ lo j ≤ hi j) : ∀ (ms M : List Nat) (ps : List Seg), Pcs ru lo hi most M ps →
    Pcs ru lo hi most (M ++ ms) (ms.foldl (fun ps j => cutP ps ((windowsQ ru (lo j) (hi j) most).map Prod.snd)) ps)
  | [], M, ps, h => by rw [List.append_nil]; exact h
  | j :: ms, M, ps, h => by
    have := pcs_go ok hm hlh ms (M ++ [j]) _ (pcs_step ok hm (hlh j) h)
    rw [List.append_assoc] at this
    exact this
/-! ### sums -/
theorem sec_nn {s : Sec} (h : SecOk s) : 0 ≤ s.1 + s.2.2 ∧ s.1 + s.2.2 ≤ s.2.1 := by
  unfold SecOk at h
  omega
theorem sums_nn : ∀ {l : List Sec}, (∀ s ∈ l, SecOk s) → 0 ≤ (l.map fun s => s.1 + s.2.2).sum ∧ (l.map fun s => s.1 + s.2.2).sum ≤ (l.map fun s => s.2.1).sum
  | [], _ => ⟨Int.le_refl _, Int.le_refl _⟩
  | s :: l, h => by
    have h1 := sec_nn (h s (.head _))
    have h2 := sums_nn fun x hx => h x (.tail _ hx)
    simp only [List.map_cons, List.sum_cons]
    omega
theorem sum_lh {p : PlanQ} (sec : ∀ s ∈ p.ss, SecOk s) (t j : Nat) : 0 ≤ sumLow p.ss t j ∧ sumLow p.ss t j ≤ sumHigh p.ss t j :=
  sums_nn fun s hs => sec s (List.mem_of_mem_drop (List.mem_of_mem_take hs))
theorem pieces_spec {p : PlanQ} (ok : RulOk p.ru) (sec : ∀ s ∈ p.ss, SecOk s) (t : Nat) {most : Int} (hm : 0 ≤ most) (ms : List Nat) : Pcs p.ru (sumLow p.ss t) (sumHigh p.ss t) most ms (piecesQ p t most ms) := by
  have h0 : Pcs p.ru (sumLow p.ss t) (sumHigh p.ss t) most [] [(0, most)] := {
    srt := srt_nil.cons hm fun y hy => by cases hy
    mem := fun x => by
      rw [memS_one]
      exact ⟨fun h => ⟨h, fun j hj => by cases hj⟩, fun h => h.1⟩
    same := fun s hs x y _ _ j hj => by cases hj
    dif := fun s hs s' hs' x y _ _ _ => by rw [List.mem_singleton.mp hs, List.mem_singleton.mp hs'] }
  exact pcs_go ok hm (sum_lh sec t) ms [] _ h0
/-! ### groups -/
theorem Pads.congr {a b c : Int} {D E : Int → Prop} {x : Int} (h : ∀ y, D y → E y) (p : Pads a b c D x) : Pads a b c E x := fun L l1 l2 => by
  obtain ⟨d, h1, h2, h3⟩ := p L l1 l2
  exact ⟨d, h1, h2, h _ h3⟩
theorem takeWhile_all {α : Type} (q : α → Bool) (l : List α) : ∀ x ∈ l.takeWhile q, q x = true := by
  induction l with
  | nil => intro x h; cases h
  | cons a l ih =>
    intro x h
    rw [List.takeWhile_cons] at h
    by_cases c : q a = true
    · rw [if_pos c] at h
      rcases List.mem_cons.mp h with rfl | h
      · exact c
      · exact ih x h
    · rw [if_neg c] at h
      cases h
theorem dropWhile_head {α : Type} (q : α → Bool) (l : List α) : ∀ x r, l.dropWhile q = x :: r → q x = false := by
  induction l with
  | nil => intro x r h; cases h
  | cons a l ih =>
    intro x r h
    rw [List.dropWhile_cons] at h
    by_cases c : q a = true
    · rw [if_pos c] at h
      exact ih x r h
    · rw [if_neg c] at h
      cases h
      simpa using c
theorem group_spec {a b c : Int} (hab : a ≤ b) (hc : 0 ≤ c) : ∀ (ps rows : List Seg), SrtG 0 ps → SrtG 0 rows → (∀ r ∈ rows, ∃ s ∈ ps, s.1 ≤ r.1 ∧ r.2 ≤ s.2) →
    ∃ G : List Seg, groupGo a b c ps rows = G.map up ∧ (∀ x ∈ G, x.1 ≤ x.2) ∧ (∀ x, memS G x ↔ 0 ≤ x ∧ ∃ s ∈ ps, Pads a b c (fun y => memS rows y ∧ (s.1 ≤ y ∧ y ≤ s.2)) x) ∧ G.length ≤ rows.length
  | [], rows, _, _, _ => ⟨[], rfl, fun _ h => (by cases h), fun x => ⟨fun h => absurd h memS_nil, fun ⟨_, s, hs, _⟩ => by cases hs⟩, Nat.zero_le _⟩
  | s :: ps, rows, hP, hR, hw => by
    have ⟨s1, s2⟩ := hP.head
    have e := List.takeWhile_append_dropWhile (p := fun y : Seg => decide (y.1 ≤ s.2)) (l := rows)
    have ht := takeWhile_all (fun y : Seg => decide (y.1 ≤ s.2)) rows
    have hd := dropWhile_head (fun y : Seg => decide (y.1 ≤ s.2)) rows
    unfold groupGo
    generalize rows.takeWhile (fun y : Seg => decide (y.1 ≤ s.2)) = T at e ht ⊢
    generalize rows.dropWhile (fun y : Seg => decide (y.1 ≤ s.2)) = D at e hd ⊢
    subst e
    obtain ⟨hT, hD, hTD⟩ := srt_app hR
    have inT : ∀ r ∈ T, s.1 ≤ r.1 ∧ r.2 ≤ s.2 := by
      intro r hr
      have h1 : r.1 ≤ s.2 := of_decide_eq_true (ht r hr)
      obtain ⟨s', hs', h2, h3⟩ := hw r (List.mem_append_left _ hr)
      rcases List.mem_cons.mp hs' with rfl | hs'
      · exact ⟨h2, h3⟩
      · have := s2 s' hs'
        omega
    have inD : ∀ r ∈ D, s.2 < r.1 := by
      intro r hr
      cases D with
      | nil => cases hr
      | cons d D =>
        have h1 : ¬ d.1 ≤ s.2 := of_decide_eq_false (hd d D rfl)
        rcases List.mem_cons.mp hr with rfl | hr
        · omega
        · have := hD.head.2 r hr
          have := hD.head.1
          omega
    obtain ⟨C, e1, c1, c2, c3⟩ := pulled_spec hab hc hT
    obtain ⟨G, e2, g1, g2, g3⟩ := group_spec hab hc ps D hP.tail hD fun r hr => by
      obtain ⟨s', hs', h2, h3⟩ := hw r (List.mem_append_right _ hr)
      rcases List.mem_cons.mp hs' with rfl | hs'
      · have := inD r hr
        have := hD.1 r hr
        omega
      · exact ⟨s', hs', h2, h3⟩
    refine ⟨C ++ G, by rw [e1, e2, List.map_append], fun x hx => ?_, fun x => ?_, by rw [List.length_append, List.length_append]; omega⟩
    · rcases List.mem_append.mp hx with hx | hx
      · exact c1.1 x hx
      · exact g1 x hx
    · rw [memS_app, c2, g2]
      have hTs : ∀ y, memS T y ↔ memS (T ++ D) y ∧ (s.1 ≤ y ∧ y ≤ s.2) := by
        intro y
        rw [memS_app]
        constructor
        · rintro ⟨r, hr, k1, k2⟩
          have := inT r hr
          exact ⟨.inl ⟨r, hr, k1, k2⟩, by omega, by omega⟩
        · rintro ⟨h | ⟨r, hr, k1, k2⟩, k3, k4⟩
          · exact h
          · have := inD r hr
            omega
      have hDs : ∀ s' ∈ ps, ∀ y, (memS D y ∧ (s'.1 ≤ y ∧ y ≤ s'.2)) ↔ memS (T ++ D) y ∧ (s'.1 ≤ y ∧ y ≤ s'.2) := by
        intro s' hs' y
        rw [memS_app]
        constructor
        · rintro ⟨h, k⟩
          exact ⟨.inr h, k⟩
        · rintro ⟨⟨r, hr, k1, k2⟩ | h, k⟩
          · have := inT r hr
            have := s2 s' hs'
            omega
          · exact ⟨h, k⟩
      constructor
      · rintro (⟨x0, h⟩ | ⟨x0, s', hs', h⟩)
        · exact ⟨x0, s, .head _, h.congr fun y hy => (hTs y).mp hy⟩
        · exact ⟨x0, s', .tail _ hs', h.congr fun y hy => (hDs s' hs' y).mp hy⟩
      · rintro ⟨x0, s', hs', h⟩
        rcases List.mem_cons.mp hs' with rfl | hs'
        · exact .inl ⟨x0, h.congr fun y hy => (hTs y).mpr hy⟩
        · exact .inr ⟨x0, s', hs', h.congr fun y hy => (hDs s' hs' y).mpr hy⟩
/-! ### one section back -/
/-- the lines at t from which all open marks keep the numbers R -/
def Num (p : PlanQ) (t : Nat) (R : Nat → Int) (y : Int) : Prop := ∀ j ∈ openQ p (t - 1), cellQ p.ru (y + sumLow p.ss t j) = R j ∧ cellQ p.ru (y + sumHigh p.ss t j) = R j
theorem pulledSet_spec {p : PlanQ} (ok : RulOk p.ru) (sec : ∀ s ∈ p.ss, SecOk s) {t : Nat} {a b c : Int} (hs : p.ss[t - 1]? = some (a, b, c)) {most : Int} (hm : 0 ≤ most) {S : List Seg} (hS : SrtG 1 S) :
    ∃ C : List Seg, pulledSet p t S most = C.map up ∧ SrtG 1 C ∧ ∀ x, memS C x ↔ 0 ≤ x ∧ ∃ R, Pads a b c (fun y => (memS S y ∧ 0 ≤ y ∧ y ≤ most) ∧ Num p t R y) x := by
  have hso := sec _ (List.mem_of_getElem? hs)
  have hab : a ≤ b := hso.2.1
  have hc : 0 ≤ c := hso.2.2.1
  have hP := pieces_spec ok sec t hm (openQ p (t - 1))
  unfold pulledSet
  rw [hs]
  show ∃ C : List Seg, arcsUnion (groupGo a b c (piecesQ p t most (openQ p (t - 1))) (downA (arcsMeet (S.map up) ((piecesQ p t most (openQ p (t - 1))).map up)))) [] = C.map up ∧ _
  generalize piecesQ p t most (openQ p (t - 1)) = ps at hP ⊢
  obtain ⟨rows, e1, hr⟩ := meet_spec (Int.le_refl 0) (hS.weak (by omega)) hP.srt
  rw [e1, downA_up]
  obtain ⟨G, e2, g1, g2, g3⟩ := group_spec hab hc ps rows hP.srt hr.srt fun r hr' => by
    obtain ⟨_, _, s, hs, _, _, h1, h2⟩ := hr.sub r hr'
    exact ⟨s, hs, h1, h2⟩
  rw [e2]
  obtain ⟨C, e3, c1, c2, c3⟩ := gather_spec g1
  refine ⟨C, ?_, c1, fun x => ?_⟩
  · unfold arcsUnion
    rw [List.append_nil]
    exact e3
  · rw [c2, g2]
    constructor
    · rintro ⟨x0, s, hs, h⟩
      have hs0 := hP.srt.1 s hs
      refine ⟨x0, fun j => cellQ p.ru (s.1 + sumLow p.ss t j), h.congr fun y ⟨hy, k⟩ => ?_⟩
      rw [hr.mem] at hy
      have hm' := (hP.mem y).mp hy.2
      refine ⟨⟨hy.1, hm'.1⟩, fun j hj => ?_⟩
      have e := hP.same s hs y s.1 k ⟨Int.le_refl _, hs0⟩ j hj
      exact ⟨e, by rw [← hm'.2 j hj]; exact e⟩
    · rintro ⟨x0, R, h⟩
      obtain ⟨d, d1, d2, ⟨⟨d3, d4⟩, d5⟩⟩ := h a (Int.le_refl _) hab
      have inP : ∀ y, ((memS S y ∧ 0 ≤ y ∧ y ≤ most) ∧ Num p t R y) → memS ps y := fun y ⟨⟨_, h1⟩, h2⟩ => (hP.mem y).mpr ⟨h1, fun j hj => by rw [(h2 j hj).1, (h2 j hj).2]⟩
      obtain ⟨s, hs, k⟩ := inP _ ⟨⟨d3, d4⟩, d5⟩
      refine ⟨x0, s, hs, h.congr fun y hy => ?_⟩
      have hyp := inP y hy
      rw [hr.mem]
      refine ⟨⟨hy.1.1, hyp⟩, ?_⟩
      obtain ⟨s', hs', k'⟩ := hyp
      have : s = s' := hP.dif s hs s' hs' _ y k k' fun j hj => by rw [(d5 j hj).1, (hy.2 j hj).1]
      rw [this]
      exact k'
/-! ### the sets -/
/-- u sections ahead of the end -/
def Dn (p : PlanQ) : Nat → Int → Prop
  | 0, x => 0 ≤ x
  | u + 1, x => 0 ≤ x ∧ ∃ a b c, p.ss[p.ss.length - u - 1]? = some (a, b, c) ∧ ∃ R, Pads a b c (fun y => Dn p u y ∧ Num p (p.ss.length - u) R y) x
/-- S_t by its definition -/
def Dq (p : PlanQ) (t : Nat) (x : Int) : Prop := Dn p (p.ss.length - t) x
theorem Dn_nn {p : PlanQ} {u : Nat} {x : Int} (h : Dn p u x) : 0 ≤ x := by
  cases u with
  | zero => exact h
  | succ u => exact h.1
theorem ceil_at : ∀ (e : Int) (ss : List Sec) (t : Nat), t ≤ ss.length → (ceilGo e ss).getD t 0 = e + ((ss.take t).map fun s => s.2.1 + s.2.2).sum
  | e, [], t, h => by
    have : t = 0 := by simpa using h
    subst this
    simp [ceilGo]
  | e, s :: ss, 0, _ => by simp [ceilGo]
  | e, s :: ss, t + 1, h => by
    show (ceilGo (e + s.2.1 + s.2.2) ss).getD t 0 = _
    rw [ceil_at _ ss t (by simpa using h), List.take_succ_cons, List.map_cons, List.sum_cons]
    omega
theorem ceil_step {p : PlanQ} {t : Nat} {a b c : Int} (h : p.ss[t]? = some (a, b, c)) : (ceilsQ p).getD (t + 1) 0 = (ceilsQ p).getD t 0 + b + c := by
  have hl := (List.getElem?_eq_some_iff.mp h).1
  unfold ceilsQ
  rw [ceil_at _ _ _ hl, ceil_at _ _ _ (Nat.le_of_lt hl), List.take_add_one, h, List.map_append, List.sum_append]
  simp
  omega
theorem secs_nn : ∀ {l : List Sec}, (∀ s ∈ l, SecOk s) → 0 ≤ (l.map fun s => s.2.1 + s.2.2).sum
  | [], _ => Int.le_refl _
  | s :: l, h => by
    have h1 := h s (.head _)
    have h2 := secs_nn fun x hx => h x (.tail _ hx)
    unfold SecOk at h1
    simp only [List.map_cons, List.sum_cons]
    omega
theorem top_nn {p : PlanQ} (s0 : 0 ≤ p.s) (sec : ∀ s ∈ p.ss, SecOk s) : 0 ≤ topQ p := by
  unfold topQ
  have := secs_nn sec
  omega
theorem ceil_ge {p : PlanQ} (s0 : 0 ≤ p.s) (sec : ∀ s ∈ p.ss, SecOk s) {t : Nat} (ht : t ≤ p.ss.length) : topQ p ≤ (ceilsQ p).getD t 0 := by
  unfold ceilsQ
  rw [ceil_at _ _ _ ht]
  have := secs_nn (l := p.ss.take t) fun x hx => sec x (List.mem_of_mem_take hx)
  omega
theorem one_srt {g m : Int} (h : 0 ≤ m) : SrtG g [(0, m)] := srt_nil.cons h fun y hy => by cases hy
/-- the set one section back, to its ceiling -/
def backSet (p : PlanQ) (t : Nat) (S : List Seg) : List Seg := downA (arcsMeet (pulledSet p (t + 1) S ((ceilsQ p).getD (t + 1) 0)) [(0, some ((ceilsQ p).getD t 0))])
structure SetAt (p : PlanQ) (t : Nat) (S : List Seg) : Prop where
  can : SrtG 1 S
  mem : ∀ x, memS S x ↔ Dq p t x ∧ x ≤ (ceilsQ p).getD t 0
theorem back_spec {p : PlanQ} (ok : RulOk p.ru) (s0 : 0 ≤ p.s) (sec : ∀ s ∈ p.ss, SecOk s) {t : Nat} (ht : t < p.ss.length) {S : List Seg} (hS : SetAt p (t + 1) S) :
    SetAt p t (backSet p t S) ∧ ∃ C : List Seg, pulledSet p (t + 1) S ((ceilsQ p).getD (t + 1) 0) = C.map up ∧ arcsMeet (C.map up) [(0, some ((ceilsQ p).getD t 0))] = (backSet p t S).map up ∧ (C.length : Int) ≤ (ceilsQ p).getD (t + 1) 0 + 1 := by
  obtain ⟨⟨a, b, c⟩, hs⟩ : ∃ s, p.ss[t]? = some s := ⟨_, List.getElem?_eq_getElem ht⟩
  have hso : SecOk (a, b, c) := sec _ (List.mem_of_getElem? hs)
  have c1 := top_nn s0 sec
  have c2 := ceil_ge s0 sec (show t ≤ p.ss.length by omega)
  have c3 := ceil_step hs
  have hm : 0 ≤ (ceilsQ p).getD (t + 1) 0 := by
    have := ceil_ge s0 sec (show t + 1 ≤ p.ss.length by omega)
    omega
  obtain ⟨C, e, hC, hx⟩ := pulledSet_spec ok sec (t := t + 1) (by rw [Nat.add_sub_cancel]; exact hs) hm hS.can
  obtain ⟨B, e2, hB⟩ := meet_spec (Int.le_of_lt (show (0 : Int) < 1 by omega)) hC (one_srt (show 0 ≤ (ceilsQ p).getD t 0 by omega))
  have e3 : arcsMeet (C.map up) [(0, some ((ceilsQ p).getD t 0))] = B.map up := e2
  have eb : backSet p t S = B := by
    unfold backSet
    rw [e, e3, downA_up]
  rw [eb]
  have hCl := srt_len (Int.le_of_lt (show (0 : Int) < 1 by omega)) hC (lo := 0) (hi := (ceilsQ p).getD (t + 1) 0) fun y hy => by
    have h1 := (hx y.1).mp ⟨y, hy, Int.le_refl _, hC.1 y hy⟩
    obtain ⟨_, R, h2⟩ := (hx y.2).mp ⟨y, hy, hC.1 y hy, Int.le_refl _⟩
    obtain ⟨d, d1, d2, ⟨_, _, h3⟩, _⟩ := h2 a (Int.le_refl _) hso.2.1
    have : 0 ≤ a := hso.1
    exact ⟨h1.1, by omega⟩
  refine ⟨⟨hB.srt, fun x => ?_⟩, C, e, e3, by omega⟩
  rw [hB.mem, memS_one, hx]
  unfold Dq
  rw [show p.ss.length - t = (p.ss.length - (t + 1)) + 1 by omega]
  show _ ↔ (0 ≤ x ∧ ∃ a b c, p.ss[p.ss.length - (p.ss.length - (t + 1)) - 1]? = some (a, b, c) ∧ ∃ R, Pads a b c (fun y => Dn p (p.ss.length - (t + 1)) y ∧ Num p (p.ss.length - (p.ss.length - (t + 1))) R y) x) ∧ _
  rw [show p.ss.length - (p.ss.length - (t + 1)) = t + 1 by omega, show t + 1 - 1 = t by omega, hs]
  constructor
  · rintro ⟨⟨x0, R, h⟩, _, k⟩
    refine ⟨⟨x0, a, b, c, rfl, R, h.congr fun y ⟨⟨h1, _⟩, h2⟩ => ⟨((hS.mem y).mp h1).1, h2⟩⟩, k⟩
  · rintro ⟨⟨x0, a', b', c', e, R, h⟩, k⟩
    cases e
    refine ⟨⟨x0, R, fun L l1 l2 => ?_⟩, x0, k⟩
    obtain ⟨d, d1, d2, h1, h2⟩ := h L l1 l2
    have hd := Dn_nn h1
    have hb : x + L + d ≤ (ceilsQ p).getD (t + 1) 0 := by
      rw [c3]
      have : L ≤ b := l2
      omega
    exact ⟨d, d1, d2, ⟨(hS.mem _).mpr ⟨h1, hb⟩, hd, hb⟩, h2⟩
theorem last_spec {p : PlanQ} (s0 : 0 ≤ p.s) (sec : ∀ s ∈ p.ss, SecOk s) : SetAt p p.ss.length [(0, (ceilsQ p).getD p.ss.length 0)] := by
  have c1 := top_nn s0 sec
  have c2 := ceil_ge s0 sec (Nat.le_refl p.ss.length)
  refine ⟨one_srt (by omega), fun x => ?_⟩
  rw [memS_one]
  unfold Dq
  rw [Nat.sub_self]
  exact Iff.rfl
theorem ceil_len : ∀ (e : Int) (ss : List Sec), (ceilGo e ss).length = ss.length + 1
  | _, [] => rfl
  | e, s :: ss => congrArg (· + 1) (ceil_len _ ss)
theorem ceil_take {p : PlanQ} {i : Nat} (h : i ≤ p.ss.length) : (ceilsQ p).take (i + 1) = (ceilsQ p).take i ++ [(ceilsQ p).getD i 0] := by
  have hl : i < (ceilsQ p).length := by
    unfold ceilsQ
    rw [ceil_len]
    omega
  rw [List.take_succ_eq_append_getElem hl, List.getD_eq_getElem?_getD, List.getElem?_eq_getElem hl]
  rfl
theorem set_bound {p : PlanQ} {t : Nat} {S : List Seg} (h : SetAt p t S) : ∀ x ∈ S, 0 ≤ x.1 ∧ x.2 ≤ (ceilsQ p).getD t 0 := fun x hx =>
  ⟨Dn_nn ((h.mem x.1).mp ⟨x, hx, Int.le_refl _, h.can.1 x hx⟩).1, ((h.mem x.2).mp ⟨x, hx, h.can.1 x hx, Int.le_refl _⟩).2⟩
theorem ceil_mono {p : PlanQ} (sec : ∀ s ∈ p.ss, SecOk s) : ∀ (k t : Nat), t + k ≤ p.ss.length → (ceilsQ p).getD t 0 ≤ (ceilsQ p).getD (t + k) 0
  | 0, _, _ => Int.le_refl _
  | k + 1, t, h => by
    have h1 := ceil_mono sec k t (by omega)
    have h2 := ceil_step (p := p) (t := t + k) (a := p.ss[t + k].1) (b := p.ss[t + k].2.1) (c := p.ss[t + k].2.2) (List.getElem?_eq_getElem (by omega))
    have h3 := sec p.ss[t + k] (List.getElem_mem (by omega))
    unfold SecOk at h3
    rw [← Nat.add_assoc]
    omega
theorem wideGo_next {p : PlanQ} {u : Nat} {S : List Seg} : wideGo p (u + 1) S = backSet p u S :: wideGo p u (backSet p u S) := rfl
end Kq

/-! KQ7: plan_sets as sets; their monotonies. -/
namespace Kq
open PySem Ct Kp

theorem wideGo_spec {p : PlanQ} (ok : RulOk p.ru) (s0 : 0 ≤ p.s) (sec : ∀ s ∈ p.ss, SecOk s) : ∀ (u : Nat) (S : List Seg), u ≤ p.ss.length → SetAt p u S → (wideGo p u S).length = u ∧ ∀ t, t < u → ∃ B, (wideGo p u S)[u - 1 - t]? = some B ∧ SetAt p t B
  | 0, S, _, _ => ⟨rfl, fun t h => absurd h (Nat.not_lt_zero _)⟩
  | u + 1, S, hu, hS => by
    have hB := (back_spec ok s0 sec (show u < p.ss.length by omega) hS).1
    obtain ⟨h1, h2⟩ := wideGo_spec ok s0 sec u (backSet p u S) (by omega) hB
    rw [wideGo_next]
    refine ⟨by rw [List.length_cons, h1], fun t ht => ?_⟩
    by_cases e : t = u
    · subst e
      exact ⟨backSet p t S, by rw [show t + 1 - 1 - t = 0 by omega]; rfl, hB⟩
    · obtain ⟨B, h3, h4⟩ := h2 t (by omega)
      exact ⟨B, by rw [show u + 1 - 1 - t = (u - 1 - t) + 1 by omega]; exact h3, h4⟩
theorem wide_spec {p : PlanQ} (ok : RulOk p.ru) (s0 : 0 ≤ p.s) (sec : ∀ s ∈ p.ss, SecOk s) : (wideQ p).length = p.ss.length + 1 ∧ ∀ t, t ≤ p.ss.length → ∃ B, (wideQ p)[t]? = some B ∧ SetAt p t B := by
  have hS0 := last_spec s0 sec
  obtain ⟨h1, h2⟩ := wideGo_spec ok s0 sec p.ss.length _ (Nat.le_refl _) hS0
  unfold wideQ
  refine ⟨by rw [List.length_reverse, List.length_cons, h1], fun t ht => ?_⟩
  rw [List.getElem?_reverse (by rw [List.length_cons, h1]; omega), List.length_cons, h1]
  by_cases e : t = p.ss.length
  · subst e
    exact ⟨_, by rw [show p.ss.length + 1 - 1 - p.ss.length = 0 by omega]; rfl, hS0⟩
  · obtain ⟨B, h3, h4⟩ := h2 t (by omega)
    exact ⟨B, by rw [show p.ss.length + 1 - 1 - t = (p.ss.length - 1 - t) + 1 by omega]; exact h3, h4⟩
/-- up to the top -/
def capS (top : Int) (S : List Seg) : List Seg := downA (arcsMeet (S.map up) [(0, some top)])
theorem cap_spec {p : PlanQ} (s0 : 0 ≤ p.s) (sec : ∀ s ∈ p.ss, SecOk s) {t : Nat} (ht : t ≤ p.ss.length) {S : List Seg} (hS : SetAt p t S) : arcsMeet (S.map up) [(0, some (topQ p))] = (capS (topQ p) S).map up ∧ SrtG 1 (capS (topQ p) S) ∧ ∀ x, memS (capS (topQ p) S) x ↔ Dq p t x ∧ x ≤ topQ p := by
  have htop := top_nn s0 sec
  have hc := ceil_ge s0 sec ht
  obtain ⟨B, e, hB⟩ := meet_spec (Int.le_of_lt (show (0 : Int) < 1 by omega)) hS.can (one_srt htop)
  have e : arcsMeet (S.map up) [(0, some (topQ p))] = B.map up := e
  have eb : capS (topQ p) S = B := by
    unfold capS
    rw [e, downA_up]
  rw [eb]
  refine ⟨e, hB.srt, fun x => ?_⟩
  rw [hB.mem, hS.mem, memS_one]
  constructor
  · rintro ⟨⟨h1, h2⟩, h3, h4⟩
    exact ⟨h1, h4⟩
  · rintro ⟨h1, h2⟩
    exact ⟨⟨h1, by omega⟩, Dn_nn h1, h2⟩
theorem setsQ_eq (p : PlanQ) : setsQ p = (wideQ p).map (capS (topQ p)) := rfl
theorem sets_spec {p : PlanQ} (ok : RulOk p.ru) (s0 : 0 ≤ p.s) (sec : ∀ s ∈ p.ss, SecOk s) : (setsQ p).length = p.ss.length + 1 ∧ ∀ t, t ≤ p.ss.length → ∃ B, (setsQ p)[t]? = some B ∧ SrtG 1 B ∧ ∀ x, memS B x ↔ Dq p t x ∧ x ≤ topQ p := by
  obtain ⟨h1, h2⟩ := wide_spec ok s0 sec
  rw [setsQ_eq]
  refine ⟨by rw [List.length_map, h1], fun t ht => ?_⟩
  obtain ⟨B, h3, h4⟩ := h2 t ht
  exact ⟨_, by rw [List.getElem?_map, h3]; rfl, (cap_spec s0 sec ht h4).2⟩
/-! ### as data -/
def unP : PyData → Seg
  | .tuple [.int a, .int b] => (a, b)
  | _ => (0, 0)
def unS : PyData → List Seg
  | .list xs => xs.map unP
  | _ => []
theorem unS_e (S : List Seg) : unS (eSegs S) = S := by
  show (S.map pairT).map unP = S
  rw [List.map_map]
  conv => rhs; rw [← List.map_id S]
  exact List.map_congr_left fun x _ => rfl
end Kq

/-! KQ8: more pad, less freedom, fewer tells: no line is lost. -/
namespace Kq
open PySem Kp

/-- the second plan's sections are no harder -/
inductive Es : List Sec → List Sec → Prop
  | nil : Es [] []
  | cons {s s' : Sec} {l l' : List Sec} (h : s.1 = s'.1 ∧ s'.2.1 ≤ s.2.1 ∧ s.2.2 ≤ s'.2.2) (t : Es l l') : Es (s :: l) (s' :: l')
theorem Es.refl : ∀ l : List Sec, Es l l
  | [] => .nil
  | s :: l => .cons ⟨rfl, Int.le_refl _, Int.le_refl _⟩ (Es.refl l)
theorem Es.len : ∀ {l l' : List Sec}, Es l l' → l.length = l'.length
  | _, _, .nil => rfl
  | _, _, .cons _ t => congrArg (· + 1) t.len
theorem Es.get : ∀ {l l' : List Sec} {i : Nat} {s : Sec}, Es l l' → l[i]? = some s → ∃ s', l'[i]? = some s' ∧ s.1 = s'.1 ∧ s'.2.1 ≤ s.2.1 ∧ s.2.2 ≤ s'.2.2
  | _, _, _, _, .nil, h => by simp at h
  | _, _, 0, s, .cons h t, e => by
    simp at e
    subst e
    exact ⟨_, rfl, h⟩
  | _, _, i + 1, s, .cons h t, e => by
    simp at e
    obtain ⟨s', e', k⟩ := t.get e
    exact ⟨s', by simpa using e', k⟩
theorem Es.drop : ∀ {l l' : List Sec} (n : Nat), Es l l' → Es (l.drop n) (l'.drop n)
  | _, _, 0, h => h
  | _, _, n + 1, .nil => by simpa using Es.nil
  | _, _, n + 1, .cons _ t => by simpa using t.drop n
theorem Es.take : ∀ {l l' : List Sec} (n : Nat), Es l l' → Es (l.take n) (l'.take n)
  | _, _, 0, _ => .nil
  | _, _, n + 1, .nil => by simpa using Es.nil
  | _, _, n + 1, .cons h t => by simpa using Es.cons h (t.take n)
theorem Es.sums : ∀ {l l' : List Sec}, Es l l' → (l.map fun s => s.1 + s.2.2).sum ≤ (l'.map fun s => s.1 + s.2.2).sum ∧ (l'.map fun s => s.2.1).sum ≤ (l.map fun s => s.2.1).sum
  | _, _, .nil => ⟨Int.le_refl _, Int.le_refl _⟩
  | _, _, .cons (s := s) (s' := s') h t => by
    have := t.sums
    simp only [List.map_cons, List.sum_cons]
    omega
theorem Es.put {l : List Sec} {i : Nat} {s s' : Sec} (h : l[i]? = some s) (e : s.1 = s'.1 ∧ s'.2.1 ≤ s.2.1 ∧ s.2.2 ≤ s'.2.2) : Es l (l.take i ++ [s'] ++ l.drop (i + 1)) := by
  induction l generalizing i with
  | nil => simp at h
  | cons x l ih =>
    cases i with
    | zero =>
      simp at h
      subst h
      exact .cons e (Es.refl l)
    | succ i =>
      simp at h
      exact .cons ⟨rfl, Int.le_refl _, Int.le_refl _⟩ (ih h)
theorem Dn_mono {p q : PlanQ} (ok : RulOk p.ru) (hru : p.ru = q.ru) (hE : Es p.ss q.ss) (secq : ∀ s ∈ q.ss, SecOk s) (ho : ∀ t, ∀ j ∈ openQ q t, j ∈ openQ p t) : ∀ (u : Nat) (x : Int), Dn p u x → Dn q u x
  | 0, _, h => h
  | u + 1, x, ⟨x0, a, b, c, hs, R, h⟩ => by
    obtain ⟨⟨a', b', c'⟩, hs', e1, e2, e3⟩ := hE.get hs
    dsimp only at e1 e2 e3
    have hl := hE.len
    refine ⟨x0, a', b', c', by rw [← hl]; exact hs', R, fun L l1 l2 => ?_⟩
    obtain ⟨d, d1, d2, h1, h2⟩ := h L (by omega) (by omega)
    refine ⟨d, d1, by omega, Dn_mono ok hru hE secq ho u _ h1, ?_⟩
    rw [← hl]
    intro j hj
    obtain ⟨k1, k2⟩ := h2 j (ho _ j hj)
    generalize p.ss.length - u = t at k1 k2
    have hsum := ((hE.drop t).take (j - t)).sums
    have hlh := sum_lh (p := q) secq t j
    unfold sumLow at k1
    unfold sumHigh at k2
    unfold sumLow sumHigh at hlh ⊢
    generalize (((p.ss.drop t).take (j - t)).map fun s => s.1 + s.2.2).sum = lo at hsum k1
    generalize (((p.ss.drop t).take (j - t)).map fun s => s.2.1).sum = hi at hsum k2
    generalize (((q.ss.drop t).take (j - t)).map fun s => s.1 + s.2.2).sum = lo' at hsum hlh ⊢
    generalize (((q.ss.drop t).take (j - t)).map fun s => s.2.1).sum = hi' at hsum hlh ⊢
    rw [← hru]
    have m1 := cell_mono ok (show x + L + d + lo ≤ x + L + d + lo' by omega)
    have m2 := cell_mono ok (show x + L + d + lo' ≤ x + L + d + hi' by omega)
    have m3 := cell_mono ok (show x + L + d + hi' ≤ x + L + d + hi by omega)
    omega
theorem Dq_mono {p q : PlanQ} (ok : RulOk p.ru) (hru : p.ru = q.ru) (hE : Es p.ss q.ss) (secq : ∀ s ∈ q.ss, SecOk s) (ho : ∀ t, ∀ j ∈ openQ q t, j ∈ openQ p t) (t : Nat) (x : Int) (h : Dq p t x) : Dq q t x := by
  unfold Dq at h ⊢
  rw [← hE.len]
  exact Dn_mono ok hru hE secq ho _ x h
/-- fewer tells: fewer open marks -/
theorem told_mono {ts us : List (Int × Int)} (srt : us.Pairwise fun a b => a.1 < b.1 ∨ (a.1 = b.1 ∧ a.2 < b.2)) (h : ∀ x ∈ ts, x ∈ us) {t : Nat} {j : Int} (hj : toldBy ts t j = true) : toldBy us t j = true := by
  unfold toldBy firstTell at hj ⊢
  cases e : ts.find? (fun x => decide (x.2 = j)) with
  | none =>
    rw [e] at hj
    cases hj
  | some x =>
    rw [e] at hj
    have hx1 : x.1 ≤ (t : Int) := of_decide_eq_true hj
    have hx2 : x.2 = j := by
      have h := List.find?_some e
      exact of_decide_eq_true h
    have hxu := h x (List.mem_of_find?_eq_some e)
    cases e2 : us.find? (fun x => decide (x.2 = j)) with
    | none =>
      have := List.find?_eq_none.mp e2 x hxu
      simp [hx2] at this
    | some y =>
      show decide (y.1 ≤ (t : Int)) = true
      refine decide_eq_true ?_
      -- the first one is the least
      obtain ⟨hy, as, bs, eq, hn⟩ := List.find?_eq_some_iff_append.mp e2
      rw [eq] at hxu srt
      rcases List.mem_append.mp hxu with hx | hx
      · have := hn x hx
        simp [hx2] at this
      · rcases List.mem_cons.mp hx with rfl | hx
        · exact hx1
        · have := (List.pairwise_cons.mp (List.pairwise_append.mp srt).2.1).1 x hx
          omega
theorem open_mono {p q : PlanQ} (hl : p.ss.length = q.ss.length) (srt : p.ts.Pairwise fun a b => a.1 < b.1 ∨ (a.1 = b.1 ∧ a.2 < b.2)) (h : ∀ x ∈ q.ts, x ∈ p.ts) (t : Nat) : ∀ j ∈ openQ q t, j ∈ openQ p t := by
  intro j hj
  unfold openQ at hj ⊢
  rw [List.mem_filter] at hj ⊢
  rw [hl]
  exact ⟨hj.1, told_mono srt h hj.2⟩
end Kq

/-! KQ9: sets of lines as the bits of a whole number. -/
namespace Kq
open PySem Kp

/-- a line's bit -/
def bitS (n : Nat) (x : Int) : Prop := 0 ≤ x ∧ n.testBit x.toNat = true
theorem bitS_nat {n x : Nat} : bitS n (x : Int) ↔ n.testBit x = true := by
  unfold bitS
  rw [Int.toNat_natCast]
  exact ⟨fun h => h.2, fun h => ⟨Int.natCast_nonneg _, h⟩⟩
theorem bitS_nn {n : Nat} {x : Int} (h : bitS n x) : 0 ≤ x := h.1
theorem bitS_zero {x : Int} : ¬ bitS 0 x := fun h => by
  have := h.2
  simp at this
theorem bitS_or {a b : Nat} {x : Int} : bitS (a ||| b) x ↔ bitS a x ∨ bitS b x := by
  unfold bitS
  rw [Nat.testBit_or, Bool.or_eq_true]
  exact ⟨fun ⟨h, k⟩ => k.elim (fun k => .inl ⟨h, k⟩) fun k => .inr ⟨h, k⟩, fun h => h.elim (fun k => ⟨k.1, .inl k.2⟩) fun k => ⟨k.1, .inr k.2⟩⟩
theorem bitS_and {a b : Nat} {x : Int} : bitS (a &&& b) x ↔ bitS a x ∧ bitS b x := by
  unfold bitS
  rw [Nat.testBit_and, Bool.and_eq_true]
  exact ⟨fun ⟨h, k⟩ => ⟨⟨h, k.1⟩, h, k.2⟩, fun ⟨h, k⟩ => ⟨h.1, h.2, k.2⟩⟩
theorem bitS_shr {m k : Nat} {x : Int} : bitS (m / 2 ^ k) x ↔ 0 ≤ x ∧ bitS m (x + k) := by
  unfold bitS
  rw [Nat.testBit_div_two_pow]
  constructor
  · rintro ⟨h, t⟩
    refine ⟨h, by omega, ?_⟩
    rw [show (x + k).toNat = x.toNat + k by omega]
    exact t
  · rintro ⟨h, _, t⟩
    rw [show (x + k).toNat = x.toNat + k by omega] at t
    exact ⟨h, t⟩
theorem bitS_ext {a b : Nat} (h : ∀ x, bitS a x ↔ bitS b x) : a = b := Nat.eq_of_testBit_eq fun i => by
  have := h (i : Int)
  rw [bitS_nat, bitS_nat] at this
  cases e : a.testBit i <;> cases f : b.testBit i <;> simp_all
theorem bitS_lt {n : Nat} {m : Nat} (h : ∀ x, bitS n x → x < m) : n < 2 ^ m := Nat.lt_pow_two_of_testBit n fun i hi => by
  cases e : n.testBit i with
  | false => rfl
  | true => 
    have := h i (bitS_nat.mpr e)
    omega
theorem bitS_hi {n m : Nat} (h : n < 2 ^ m) {x : Int} (hx : bitS n x) : x < m := by
  by_cases e : x < m
  · exact e
  · have := Nat.testBit_lt_two_pow (Nat.lt_of_lt_of_le h (Nat.pow_le_pow_right (by decide) (show m ≤ x.toNat by omega)))
    rw [hx.2] at this
    cases this
/-- the bits of the lines first to last -/
def bitsN (first last : Int) : Nat := if last ≥ first then (2 ^ (last - first + 1).toNat - 1) * 2 ^ first.toNat else 0
theorem bitS_bits {first last : Int} (h : 0 ≤ first) (x : Int) : bitS (bitsN first last) x ↔ first ≤ x ∧ x ≤ last := by
  unfold bitsN
  by_cases e : last ≥ first
  · rw [if_pos e]
    unfold bitS
    rw [Nat.testBit_mul_two_pow, Nat.testBit_two_pow_sub_one, Bool.and_eq_true, decide_eq_true_iff, decide_eq_true_iff]
    omega
  · rw [if_neg e]
    exact ⟨fun h => absurd h bitS_zero, fun h => by omega⟩
theorem bits_int {first last : Int} (h : 0 ≤ first) (e : last ≥ first) : (1 * 2 ^ (last - first + 1).toNat - 1) * 2 ^ first.toNat = ((bitsN first last : Nat) : Int) := by
  unfold bitsN
  rw [if_pos e, Int.one_mul, Int.natCast_mul, Int.natCast_sub (Nat.one_le_two_pow), Int.natCast_pow, Int.natCast_pow]
  rfl
theorem band_neg1 (b : Nat) : Builtin.bitAnd (-1) (b : Int) = (b : Int) := by
  have e1 : decide (0 ≤ (-1 : Int)) = false := by decide
  have e2 : decide (0 ≤ (b : Int)) = true := decide_eq_true (Int.natCast_nonneg _)
  unfold Builtin.bitAnd
  rw [e1, e2]
  show (b : Int) - (((b : Int).toNat &&& (Builtin.bitNot (-1)).toNat : Nat) : Int) = b
  rw [show (Builtin.bitNot (-1)).toNat = 0 from rfl, Nat.and_zero]
  simp
theorem band_nat (a b : Nat) : Builtin.bitAnd (a : Int) (b : Int) = ((a &&& b : Nat) : Int) := by
  have e1 : decide (0 ≤ (a : Int)) = true := decide_eq_true (Int.natCast_nonneg _)
  have e2 : decide (0 ≤ (b : Int)) = true := decide_eq_true (Int.natCast_nonneg _)
  unfold Builtin.bitAnd
  rw [e1, e2]
  simp
theorem shr_nat (a : Nat) {k : Int} (hk : 0 ≤ k) : (a : Int) / 2 ^ k.toNat = ((a / 2 ^ k.toNat : Nat) : Int) := by
  rw [Int.natCast_ediv, Int.natCast_pow]
  rfl
theorem bor_nat (a b : Nat) : Builtin.bitOr (a : Int) (b : Int) = ((a ||| b : Nat) : Int) := by
  rw [L2.bitOr_nn (Int.natCast_nonneg _) (Int.natCast_nonneg _), Int.toNat_natCast, Int.toNat_natCast]
theorem cshl_one {j : Int} (h : 0 ≤ j) (h2 : j ≤ 1000001) : L2.CShl 1 j := by
  obtain ⟨k, rfl⟩ := Int.eq_ofNat_of_zero_le h
  exact L2.shl_ok (n := 1) (by decide) (by omega)
theorem cshl_mask {k j : Int} (h : 0 ≤ k) (h2 : k ≤ 1000001) (h3 : 0 ≤ j) (h4 : j ≤ 1000001) : L2.CShl (1 * 2 ^ k.toNat - 1) j := by
  obtain ⟨a, rfl⟩ := Int.eq_ofNat_of_zero_le h
  obtain ⟨b, rfl⟩ := Int.eq_ofNat_of_zero_le h3
  refine L2.shl_ok (n := a) ?_ (by omega)
  rw [Int.toNat_natCast, Int.one_mul]
  have hp : (1 : Int) ≤ 2 ^ a := by
    have := Nat.one_le_two_pow (n := a)
    have e : ((2 ^ a : Nat) : Int) = (2 : Int) ^ a := by rw [Int.natCast_pow]; rfl
    omega
  have e : ((2 ^ a : Nat) : Int) = (2 : Int) ^ a := by rw [Int.natCast_pow]; rfl
  omega
/-- one line's bit, tested -/
theorem bit_test (n : Nat) {x : Int} (h : 0 ≤ x) : Builtin.bitAnd ((n : Int) / 2 ^ x.toNat) 1 = 1 ↔ bitS n x := by
  rw [shr_nat n h, show (1 : Int) = ((1 : Nat) : Int) from rfl, band_nat, Nat.and_one_is_mod]
  unfold bitS
  rw [Nat.testBit_eq_decide_div_mod_eq, decide_eq_true_iff]
  omega
theorem bits_le {n m : Nat} (h : n < 2 ^ m) : Builtin.Int.intBits (n : Int) ≤ m := PyProof.Rows.intBits_le (by simpa using h)
theorem bits_hi (n : Nat) {x : Int} (hx : bitS n x) : x < (Builtin.Int.intBits (n : Int) : Int) := by
  refine bitS_hi (m := Builtin.Int.intBits (n : Int)) ?_ hx
  have := (intBits_le_iff (m := Builtin.Int.intBits (n : Int)) (x := (n : Int))).mp (Nat.le_refl _)
  simpa using this
end Kq

/-! KQ10: rows of numbers; dicts of bits by row; the law's step is the step of the definition. -/
namespace Kq
open PySem Kp Ct L2

/-- the row of numbers of the marks on a line, if each has one -/
def rowQ (ru : Rul) (lo hi : Nat → Int) (ms : List Nat) (x : Int) : Option (List Int) := if (ms.map fun j => cellQ ru (x + lo j)) = (ms.map fun j => cellQ ru (x + hi j)) then some (ms.map fun j => cellQ ru (x + lo j)) else none
theorem rowQ_some {ru : Rul} {lo hi : Nat → Int} {ms : List Nat} {x : Int} {ks : List Int} : rowQ ru lo hi ms x = some ks ↔ (ms.map fun j => cellQ ru (x + lo j)) = ks ∧ (ms.map fun j => cellQ ru (x + hi j)) = ks := by
  unfold rowQ
  constructor
  · intro h
    split at h
    · rename_i e
      cases h
      exact ⟨rfl, e.symm⟩
    · cases h
  · rintro ⟨h1, h2⟩
    rw [if_pos (h1.trans h2.symm), h1]
/-- the lines that a dict holds under a key -/
def inK (kvs : List (List Int × PyData)) (ks : List Int) (x : Int) : Prop := ∃ n : Nat, valL kvs ks = some (.int (n : Int)) ∧ bitS n x
/-- all values are bits -/
def NV (kvs : List (List Int × PyData)) : Prop := ∀ ks d, valL kvs ks = some d → ∃ n : Nat, d = .int (n : Int)
theorem valL_cons (kv : List Int × PyData) (kvs : List (List Int × PyData)) (k : List Int) : valL (kv :: kvs) k = if kv.1 = k then some kv.2 else valL kvs k := by
  unfold valL
  rw [List.find?_cons]
  by_cases h : kv.1 = k
  · rw [if_pos h, decide_eq_true h]
    rfl
  · rw [if_neg h, decide_eq_false h]
theorem valL_nil (k : List Int) : valL [] k = none := rfl
theorem valL_app (kvs : List (List Int × PyData)) (k k' : List Int) (d : PyData) : valL (kvs ++ [(k, d)]) k' = match valL kvs k' with | some e => some e | none => if k = k' then some d else none := by
  induction kvs with
  | nil => rw [List.nil_append, valL_cons, valL_nil]
  | cons kv kvs ih =>
    rw [List.cons_append, valL_cons, valL_cons]
    by_cases h : kv.1 = k'
    · rw [if_pos h, if_pos h]
    · rw [if_neg h, if_neg h, ih]
theorem valL_map (kvs : List (List Int × PyData)) (k k' : List Int) (d : PyData) : valL (kvs.map fun kv => if kv.1 = k then (kv.1, d) else kv) k' = if k' = k then (valL kvs k).map fun _ => d else valL kvs k' := by
  induction kvs with
  | nil => simp [valL_nil]
  | cons kv kvs ih =>
    rw [List.map_cons, valL_cons, valL_cons, valL_cons]
    by_cases h : kv.1 = k
    · rw [if_pos h, if_pos h]
      by_cases h2 : k' = k
      · subst h2
        simp [h]
      · rw [if_neg h2, ih, if_neg h2]
        have : ¬ kv.1 = k' := fun z => h2 (z.symm.trans h)
        simp [this]
    · rw [if_neg h, if_neg h]
      by_cases h2 : kv.1 = k'
      · rw [if_pos h2, if_neg (fun z => h (h2.trans z)), if_pos h2]
      · rw [if_neg h2, ih, if_neg h2]
theorem valL_put (kvs : List (List Int × PyData)) (k k' : List Int) (d : PyData) : valL (putL kvs k d) k' = if k' = k then some d else valL kvs k' := by
  unfold putL
  by_cases h : (valL kvs k).isSome = true
  · rw [if_pos h, valL_map]
    by_cases e : k' = k
    · rw [if_pos e, if_pos e]
      obtain ⟨v, hv⟩ := Option.isSome_iff_exists.mp h
      rw [hv]
      rfl
    · rw [if_neg e, if_neg e]
  · rw [if_neg h, valL_app]
    have hn : valL kvs k = none := by
      cases e : valL kvs k with
      | none => rfl
      | some v => rw [e] at h; exact absurd rfl h
    by_cases e : k' = k
    · subst e
      rw [hn, if_pos rfl]
    · rw [if_neg e]
      have e2 : ¬ k = k' := fun z => e z.symm
      cases valL kvs k' with
      | none => simp [e2]
      | some v => rfl
theorem putL_len (kvs : List (List Int × PyData)) (k : List Int) (d : PyData) : (putL kvs k d).length ≤ kvs.length + 1 := by
  unfold putL
  split
  · rw [List.length_map]
    omega
  · simp
theorem valL_mem {kvs : List (List Int × PyData)} {ks : List Int} {d : PyData} (h : valL kvs ks = some d) : ∃ i : Nat, kvs[i]? = some (ks, d) := by
  induction kvs with
  | nil => cases h
  | cons kv kvs ih =>
    rw [valL_cons] at h
    by_cases e : kv.1 = ks
    · rw [if_pos e] at h
      cases h
      exact ⟨0, by subst e; rfl⟩
    · rw [if_neg e] at h
      obtain ⟨i, hi⟩ := ih h
      exact ⟨i + 1, by simpa using hi⟩
theorem mem_valL {kvs : List (List Int × PyData)} {i : Nat} {ks : List Int} {d : PyData} (h : kvs[i]? = some (ks, d)) : ∃ e, valL kvs ks = some e := by
  induction kvs generalizing i with
  | nil => simp at h
  | cons kv kvs ih =>
    rw [valL_cons]
    by_cases e : kv.1 = ks
    · rw [if_pos e]
      exact ⟨_, rfl⟩
    · rw [if_neg e]
      cases i with
      | zero =>
        simp at h
        subst h
        exact absurd rfl e
      | succ i => exact ih (by simpa using h)
/-- some more lines under a key -/
theorem put_in {kvs : List (List Int × PyData)} {k : List Int} {n m : Nat} (hn : (valL kvs k).getD (.int 0) = .int (n : Int)) (ks : List Int) (x : Int) : inK (putL kvs k (.int ((n ||| m : Nat) : Int))) ks x ↔ inK kvs ks x ∨ (ks = k ∧ bitS m x) := by
  unfold inK
  rw [valL_put]
  by_cases e : ks = k
  · subst e
    rw [if_pos rfl]
    constructor
    · rintro ⟨z, hz, hx⟩
      have hz : n ||| m = z := by
        injection hz with hz
        injection hz with hz
        exact Int.ofNat.inj hz
      subst hz
      rcases bitS_or.mp hx with hx | hx
      · refine .inl ⟨n, ?_, hx⟩
        cases hv : valL kvs ks with
        | none =>
          rw [hv] at hn
          injection hn with hn
          have : n = 0 := by omega
          subst this
          exact absurd hx bitS_zero
        | some d =>
          rw [hv] at hn
          exact congrArg some hn
      · exact .inr ⟨rfl, hx⟩
    · rintro (⟨z, hz, hx⟩ | ⟨_, hx⟩)
      · rw [hz] at hn
        injection hn with hn
        have hn : z = n := Int.ofNat.inj hn
        subst hn
        exact ⟨_, rfl, bitS_or.mpr (.inl hx)⟩
      · exact ⟨_, rfl, bitS_or.mpr (.inr hx)⟩
  · rw [if_neg e]
    exact ⟨fun h => .inl h, fun h => h.elim id fun z => absurd z.1 e⟩
theorem put_nv {kvs : List (List Int × PyData)} {k : List Int} {n : Nat} (h : NV kvs) : NV (putL kvs k (.int (n : Int))) := fun ks d hd => by
  rw [valL_put] at hd
  by_cases e : ks = k
  · rw [if_pos e] at hd
    exact ⟨n, (Option.some.inj hd).symm⟩
  · rw [if_neg e] at hd
    exact h ks d hd
/-- a set as bits -/
def SetB (p : PlanQ) (t : Nat) (n : Nat) : Prop := ∀ x, bitS n x ↔ Dq p t x ∧ x ≤ (ceilsQ p).getD t 0
theorem sumLow_self (ss : List Sec) (t : Nat) : sumLow ss t t = 0 := by
  unfold sumLow
  rw [Nat.sub_self]
  rfl
theorem sum_step {ss : List Sec} {t j : Nat} {a b c : Int} (hs : ss[t]? = some (a, b, c)) (hj : t < j) : sumLow ss t j = a + c + sumLow ss (t + 1) j ∧ sumHigh ss t j = b + sumHigh ss (t + 1) j := by
  obtain ⟨h, e⟩ := List.getElem?_eq_some_iff.mp hs
  unfold sumLow sumHigh
  rw [List.drop_eq_getElem_cons h, e, show j - t = (j - (t + 1)) + 1 by omega, List.take_succ_cons, List.map_cons, List.map_cons, List.sum_cons, List.sum_cons]
  exact ⟨rfl, rfl⟩
theorem row_num {ru : Rul} {lo hi : Nat → Int} {ms : List Nat} {x : Int} {ks : List Int} (h : rowQ ru lo hi ms x = some ks) (y : Int) (h2 : rowQ ru lo hi ms y = some ks) : ∀ j ∈ ms, cellQ ru (y + lo j) = cellQ ru (x + lo j) ∧ cellQ ru (y + hi j) = cellQ ru (x + lo j) := by
  obtain ⟨a1, a2⟩ := rowQ_some.mp h
  obtain ⟨b1, b2⟩ := rowQ_some.mp h2
  intro j hj
  have e1 := b1.trans a1.symm
  have e2 := b2.trans a1.symm
  exact ⟨List.map_inj_left.mp e1 j hj, List.map_inj_left.mp e2 j hj⟩
theorem law_step {p : PlanQ} (ok : RulOk p.ru) (sec : ∀ s ∈ p.ss, SecOk s) {t : Nat} {a b c : Int} (hs : p.ss[t]? = some (a, b, c)) (x : Int) :
    (∃ ks, (0 ≤ x ∧ x ≤ (ceilsQ p).getD t 0 ∧ rowQ p.ru (sumLow p.ss t) (sumHigh p.ss t) (openQ p t) x = some ks) ∧ 0 ≤ x ∧
      Pads a b c (fun y => (0 ≤ y ∧ y ≤ (ceilsQ p).getD (t + 1) 0 ∧ rowQ p.ru (sumLow p.ss (t + 1)) (sumHigh p.ss (t + 1)) (openQ p t) y = some ks) ∧ Dq p (t + 1) y ∧ y ≤ (ceilsQ p).getD (t + 1) 0) x) ↔ Dq p t x ∧ x ≤ (ceilsQ p).getD t 0 := by
  have ht : t < p.ss.length := (List.getElem?_eq_some_iff.mp hs).1
  have hso : SecOk (a, b, c) := sec _ (List.mem_of_getElem? hs)
  have ha : 0 ≤ a := hso.1
  have hab : a ≤ b := hso.2.1
  have hc : 0 ≤ c := hso.2.2.1
  have c3 := ceil_step hs
  have key : Dq p t x ↔ (0 ≤ x ∧ ∃ R, Pads a b c (fun y => Dq p (t + 1) y ∧ Num p (t + 1) R y) x) := by
    unfold Dq
    rw [show p.ss.length - t = (p.ss.length - (t + 1)) + 1 by omega]
    show (0 ≤ x ∧ ∃ a b c, p.ss[p.ss.length - (p.ss.length - (t + 1)) - 1]? = some (a, b, c) ∧ ∃ R, Pads a b c (fun y => Dn p (p.ss.length - (t + 1)) y ∧ Num p (p.ss.length - (p.ss.length - (t + 1))) R y) x) ↔ _
    rw [show p.ss.length - (p.ss.length - (t + 1)) = t + 1 by omega, show t + 1 - 1 = t by omega, hs]
    exact ⟨fun ⟨h, a', b', c', e, R, q⟩ => by cases e; exact ⟨h, R, q⟩, fun ⟨h, R, q⟩ => ⟨h, a, b, c, rfl, R, q⟩⟩
  rw [key]
  constructor
  · rintro ⟨ks, ⟨x0, x1, hr⟩, _, h⟩
    refine ⟨⟨x0, fun j => cellQ p.ru (x + sumLow p.ss t j), fun L l1 l2 => ?_⟩, x1⟩
    obtain ⟨d, d1, d2, ⟨_, _, h1⟩, h2, _⟩ := h L l1 l2
    refine ⟨d, d1, d2, h2, fun j hj => ?_⟩
    rw [Nat.add_sub_cancel] at hj
    obtain ⟨a1, a2⟩ := rowQ_some.mp hr
    obtain ⟨b1, b2⟩ := rowQ_some.mp h1
    exact ⟨List.map_inj_left.mp (b1.trans a1.symm) j hj, List.map_inj_left.mp (b2.trans a1.symm) j hj⟩
  · rintro ⟨⟨x0, R, h⟩, x1⟩
    have hrow : ∀ y, Num p (t + 1) R y → rowQ p.ru (sumLow p.ss (t + 1)) (sumHigh p.ss (t + 1)) (openQ p t) y = some ((openQ p t).map R) := fun y hy => by
      unfold Num at hy
      rw [Nat.add_sub_cancel] at hy
      exact rowQ_some.mpr ⟨List.map_congr_left fun j hj => (hy j hj).1, List.map_congr_left fun j hj => (hy j hj).2⟩
    have hx : ∀ j ∈ openQ p t, cellQ p.ru (x + sumLow p.ss t j) = R j ∧ cellQ p.ru (x + sumHigh p.ss t j) = R j := fun j hj => by
      have hjt : t < j := by
        unfold openQ at hj
        obtain ⟨hm, _⟩ := List.mem_filter.mp hj
        obtain ⟨i, _, e⟩ := List.mem_map.mp hm
        omega
      obtain ⟨s1, s2⟩ := sum_step hs hjt
      obtain ⟨d, d1, d2, _, h2⟩ := h a (Int.le_refl _) hab
      obtain ⟨d', e1, e2, _, h3⟩ := h b hab (Int.le_refl _)
      unfold Num at h2 h3
      rw [Nat.add_sub_cancel] at h2 h3
      obtain ⟨k1, k2⟩ := h2 j hj
      obtain ⟨m1, m2⟩ := h3 j hj
      have lh := (sum_lh sec t j).2
      rw [s1, s2] at lh ⊢
      have q1 := cell_mono ok (show x + a + d + sumLow p.ss (t + 1) j ≤ x + (a + c + sumLow p.ss (t + 1) j) by omega)
      have q2 := cell_mono ok (show x + (b + sumHigh p.ss (t + 1) j) ≤ x + b + d' + sumHigh p.ss (t + 1) j by omega)
      have q3 := cell_mono ok (show x + (a + c + sumLow p.ss (t + 1) j) ≤ x + (b + sumHigh p.ss (t + 1) j) by omega)
      omega
    refine ⟨(openQ p t).map R, ⟨x0, x1, rowQ_some.mpr ⟨List.map_congr_left fun j hj => (hx j hj).1, List.map_congr_left fun j hj => (hx j hj).2⟩⟩, x0, fun L l1 l2 => ?_⟩
    obtain ⟨d, d1, d2, h1, h2⟩ := h L l1 l2
    have hd := Dn_nn h1
    have hb : x + L + d ≤ (ceilsQ p).getD (t + 1) 0 := by
      rw [c3]
      omega
    exact ⟨d, d1, d2, ⟨hd, hb, hrow _ h2⟩, h1, hb⟩
/-! ### the rows of the lines from 0 on, run by run -/
structure GrpI (R : Int → Option (List Int)) (i : Nat) (kvs : List (List Int × PyData)) (bg : Int) (o : Option (List Int)) : Prop where
  b0 : 0 ≤ bg
  b1 : bg = 0 ∨ bg < i
  len : kvs.length ≤ i
  nv : NV kvs
  ink : ∀ ks x, inK kvs ks x ↔ 0 ≤ x ∧ x < bg ∧ R x = some ks
  run : ∀ x, bg ≤ x → x < (i : Int) → R x = o
section
variable {R : Int → Option (List Int)} {i : Nat} {kvs : List (List Int × PyData)} {bg : Int} {o : Option (List Int)}
theorem inK_nil {ks : List Int} {x : Int} : ¬ inK [] ks x := fun ⟨_, h, _⟩ => by cases h
theorem GrpI.init : GrpI R 0 [] 0 none := ⟨Int.le_refl _, .inl rfl, Nat.le_refl _, fun ks d h => (by cases h), fun ks x => ⟨fun h => absurd h inK_nil, fun h => (by omega)⟩, fun x h1 h2 => (by omega)⟩
theorem GrpI.same (h : GrpI R i kvs bg o) (e : R (i : Int) = o) : GrpI R (i + 1) kvs bg o := by
  have b1 := h.b1
  refine ⟨h.b0, by omega, Nat.le_succ_of_le h.len, h.nv, h.ink, fun x h1 h2 => ?_⟩
  by_cases hx : x = (i : Int)
  · subst hx
    exact e
  · exact h.run x h1 (by omega)
theorem GrpI.skip (h : GrpI R i kvs bg none) : GrpI R (i + 1) kvs i (R i) := by
  have b1 := h.b1
  have b0 := h.b0
  refine ⟨Int.natCast_nonneg _, .inr (by omega), Nat.le_succ_of_le h.len, h.nv, fun ks x => ?_, fun x h1 h2 => by rw [show x = (i : Int) by omega]⟩
  rw [h.ink]
  constructor
  · rintro ⟨x0, x1, hr⟩
    exact ⟨x0, by omega, hr⟩
  · rintro ⟨x0, x1, hr⟩
    by_cases hx : x < bg
    · exact ⟨x0, hx, hr⟩
    · rw [h.run x (by omega) x1] at hr
      cases hr
theorem GrpI.flush {ks0 : List Int} (h : GrpI R i kvs bg (some ks0)) {n : Nat} (hn : (valL kvs ks0).getD (.int 0) = .int (n : Int)) : GrpI R (i + 1) (putL kvs ks0 (.int ((n ||| bitsN bg ((i : Int) - 1) : Nat) : Int))) i (R i) := by
  have b1 := h.b1
  have b0 := h.b0
  refine ⟨Int.natCast_nonneg _, .inr (by omega), Nat.le_trans (putL_len _ _ _) (Nat.succ_le_succ h.len), put_nv h.nv, fun ks x => ?_, fun x h1 h2 => by rw [show x = (i : Int) by omega]⟩
  rw [put_in hn, h.ink, bitS_bits b0]
  constructor
  · rintro (⟨x0, x1, hr⟩ | ⟨rfl, x0, x1⟩)
    · exact ⟨x0, by omega, hr⟩
    · exact ⟨by omega, by omega, h.run x x0 (by omega)⟩
  · rintro ⟨x0, x1, hr⟩
    by_cases hx : x < bg
    · exact .inl ⟨x0, hx, hr⟩
    · rw [h.run x (by omega) x1] at hr
      exact .inr ⟨(Option.some.inj hr).symm, by omega, by omega⟩
theorem GrpI.done {c : Int} (hc : 0 ≤ c) (h : GrpI R (c + 2).toNat kvs bg o) (hR : ∀ x, c < x → R x = none) (ks : List Int) (x : Int) : inK kvs ks x ↔ 0 ≤ x ∧ R x = some ks := by
  have b1 := h.b1
  have ho := h.run (c + 1) (by omega) (by omega)
  rw [hR _ (by omega)] at ho
  rw [h.ink]
  constructor
  · rintro ⟨x0, _, hr⟩
    exact ⟨x0, hr⟩
  · rintro ⟨x0, hr⟩
    refine ⟨x0, ?_, hr⟩
    by_cases hx : x < bg
    · exact hx
    · by_cases hx2 : x < ((c + 2).toNat : Int)
      · rw [h.run x (by omega) hx2, ← ho] at hr
        cases hr
      · rw [hR x (by omega)] at hr
        cases hr
end
theorem nv_get {kvs : List (List Int × PyData)} (h : NV kvs) (ks : List Int) : ∃ n : Nat, (valL kvs ks).getD (.int 0) = .int (n : Int) := by
  cases e : valL kvs ks with
  | none => exact ⟨0, rfl⟩
  | some d => exact h ks d e
theorem ceil_sum {p : PlanQ} (sec : ∀ s ∈ p.ss, SecOk s) {t j : Nat} (htj : t ≤ j) (hj : j ≤ p.ss.length) : (ceilsQ p).getD t 0 + sumHigh p.ss t j ≤ (ceilsQ p).getD p.ss.length 0 := by
  have h1 := ceil_mono sec (p.ss.length - j) j (by omega)
  rw [show j + (p.ss.length - j) = p.ss.length by omega] at h1
  have h2 : (ceilsQ p).getD j 0 = (ceilsQ p).getD t 0 + (((p.ss.drop t).take (j - t)).map fun s => s.2.1 + s.2.2).sum := by
    unfold ceilsQ
    rw [ceil_at _ _ _ hj, ceil_at _ _ _ (show t ≤ p.ss.length by omega)]
    have e : p.ss.take j = p.ss.take t ++ (p.ss.drop t).take (j - t) := by
      conv => lhs; rw [← List.take_append_drop t (p.ss.take j)]
      rw [List.take_take, Nat.min_eq_left htj, List.drop_take]
    rw [e, List.map_append, List.sum_append]
    omega
  have h3 : ∀ l : List Sec, (∀ s ∈ l, SecOk s) → (l.map fun s => s.2.1).sum ≤ (l.map fun s => s.2.1 + s.2.2).sum := by
    intro l
    induction l with
    | nil => intro _; exact Int.le_refl _
    | cons s l ih =>
      intro hs
      have a := ih fun x hx => hs x (.tail _ hx)
      have b : 0 ≤ s.2.2 := (hs s (.head _)).2.2.1
      rw [List.map_cons, List.map_cons, List.sum_cons, List.sum_cons]
      omega
  have h4 := h3 ((p.ss.drop t).take (j - t)) fun s hs => sec s (List.mem_of_mem_drop (List.mem_of_mem_take hs))
  unfold sumHigh
  omega
end Kq


namespace K75
open PySem L2 Ct Kp Kq PyProof.Rows
def topS (i : Nat) : Stmt := PySem.Challenge.pw_comestrue_k75_whole_pads_tells_and_freed.main.body.getD i (.Pass ⟨0, 0, 0, 0⟩)
abbrev kClo : Nat := 3
def c_LENGTHS : Int := 10000
def c_PAGE : Int := 10000
def c_SPREAD : Int := 400
def c_RANGE : Int := 10
def c_LINES : Int := 1000000
def c_SECTIONS : Int := 60
def c_TELLS : Int := 60
def c_CELLS : Int := 64
def c_HEIGHTS : Int := 1000000000
def fl_Plan : List Str := ["start_line", "page_height", "ruler_told", "range_most", "section_rows", "tell_rows"]
def fl_Ruler : List Str := ["height_list", "edge_list"]
structure Zs (mg : Str → Option Value) : Prop where
  len : mg "len" = none
  sorted : mg "sorted" = none
  list_ : mg "list" = none
  max : mg "max" = none
  min : mg "min" = none
  isinstance : mg "isinstance" = none
  range_ : mg "range" = none
  enumerate : mg "enumerate" = none
  int_ : mg "int" = none
  sum : mg "sum" = none
  abs : mg "abs" = none
  bool_ : mg "bool" = none
  tuple_ : mg "tuple" = none
abbrev s_is_whole : Stmt := topS 7
abbrev s_whole_from : Stmt := topS 8
abbrev s_is_row : Stmt := topS 9
abbrev s_check_most : Stmt := topS 20
abbrev s_check_numbers : Stmt := topS 21
abbrev s_arcs_gathered : Stmt := topS 23
abbrev s_arcs_union : Stmt := topS 24
abbrev s_lesser_end : Stmt := topS 25
abbrev s_arcs_meet : Stmt := topS 26
abbrev s_arcs_joined : Stmt := topS 27
abbrev s_arcs_pulled : Stmt := topS 28
abbrev s_arcs_hold : Stmt := topS 29
abbrev s_are_whole : Stmt := topS 33
abbrev s_right_section : Stmt := topS 34
abbrev s_check_lengths_bound : Stmt := topS 35
abbrev s_checked_sections : Stmt := topS 36
abbrev s_checked_tells : Stmt := topS 37
abbrev s_is_pages : Stmt := topS 38
abbrev s_plan_top : Stmt := topS 41
abbrev s_check_spread : Stmt := topS 42
abbrev s_check_single : Stmt := topS 43
abbrev s_cell_window : Stmt := topS 44
abbrev s_windows_to : Stmt := topS 45
abbrev s_cut_pieces : Stmt := topS 47
abbrev s_pulled_set : Stmt := topS 48
abbrev s_wide_sets : Stmt := topS 49
abbrev s_plan_sets : Stmt := topS 50
abbrev s_kept_with : Stmt := topS 51
abbrev s_plan_verdict : Stmt := topS 52
abbrev s__law_purse : Stmt := topS 54
abbrev s__law_draw : Stmt := topS 55
abbrev s__law_cell : Stmt := topS 56
abbrev s__law_bits : Stmt := topS 57
abbrev s__law_plan_cell : Stmt := topS 58
abbrev s__law_sums : Stmt := topS 59
abbrev s__law_pulled : Stmt := topS 60
abbrev s__law_plan_top : Stmt := topS 61
abbrev s__law_first_tell : Stmt := topS 62
abbrev s__law_open : Stmt := topS 63
abbrev s__law_ceilings : Stmt := topS 64
abbrev s__law_cells : Stmt := topS 65
abbrev s__law_groups : Stmt := topS 66
abbrev s__law_wide_sets : Stmt := topS 67
abbrev s__law_plan_sets : Stmt := topS 68
abbrev s__law_arcs_of : Stmt := topS 69
abbrev s__law_bits_of : Stmt := topS 70
abbrev s__law_plan_ruler : Stmt := topS 71
abbrev s__law_made_plan : Stmt := topS 72
abbrev s__law_draw_ruler : Stmt := topS 73
abbrev s__law_draw_section : Stmt := topS 74
abbrev s__law_draw_tells : Stmt := topS 75
abbrev s__law_draw_world : Stmt := topS 76
abbrev s__law_sets_told : Stmt := topS 77
abbrev s__law_section_put : Stmt := topS 78
abbrev s__law_tells_put : Stmt := topS 79
abbrev s__law_new_tells : Stmt := topS 80
abbrev s__law_no_less : Stmt := topS 81
abbrev s_law : Stmt := topS 82
abbrev s_Ruler___init__ : Stmt := inClass (topS 31) 0
abbrev s_Ruler_many : Stmt := inClass (topS 31) 1
abbrev s_Ruler_heights : Stmt := inClass (topS 31) 2
abbrev s_Ruler_cell : Stmt := inClass (topS 31) 4
abbrev s_Ruler_first : Stmt := inClass (topS 31) 5
abbrev s_Ruler_last : Stmt := inClass (topS 31) 6
abbrev s_Ruler_check_cell : Stmt := inClass (topS 31) 7
abbrev s_Plan___init__ : Stmt := inClass (topS 39) 0
abbrev s_Plan_start : Stmt := inClass (topS 39) 1
abbrev s_Plan_ruler : Stmt := inClass (topS 39) 2
abbrev s_Plan_range_cells : Stmt := inClass (topS 39) 3
abbrev s_Plan_sections : Stmt := inClass (topS 39) 4
abbrev s_Plan_tells : Stmt := inClass (topS 39) 5
abbrev s_Plan_many : Stmt := inClass (topS 39) 6
abbrev s_Plan_section : Stmt := inClass (topS 39) 7
abbrev s_Plan_sums : Stmt := inClass (topS 39) 8
abbrev s_Plan_check_mark : Stmt := inClass (topS 39) 9
abbrev s_Plan_cell : Stmt := inClass (topS 39) 10
abbrev s_Plan_has_cell : Stmt := inClass (topS 39) 11
abbrev s_Plan_first : Stmt := inClass (topS 39) 12
abbrev s_Plan_last : Stmt := inClass (topS 39) 13
abbrev s_Plan_open_marks : Stmt := inClass (topS 39) 14
abbrev s_Plan_due : Stmt := inClass (topS 39) 16
abbrev s_Plan_first_tell : Stmt := inClass (topS 39) 17
abbrev s_Plan_without : Stmt := inClass (topS 39) 19
abbrev s_Plan_rows : Stmt := inClass (topS 39) 20
end K75

namespace K75
open PySem L2 Ct Kp Kq PyProof.Rows
/-! is_whole -/
def wholeD : PyData → Bool
  | .int _ => true
  | _ => false
def pre_is_whole : Pre := fun xs st Φ => ∃ d, xs = [.pd d] ∧ (∃ i, d = .int i) ∧ Φ (.pd (.bool true)) st
/-! whole_from -/
def pre_whole_from : Pre := fun xs st Φ => ∃ i j, xs = [.pd (.int i), .pd (.int j)] ∧ Φ (.pd (.bool (decide (j ≤ i)))) st
/-! check_most -/
def pre_check_most : Pre := fun xs st Φ => ∃ w i m, xs = [.pd w, .pd (.int i), .pd (.int m)] ∧ i ≤ m ∧ Φ (.pd .none) st
/-! check_numbers -/
def pre_check_numbers : Pre := fun xs st Φ => ∃ (w : PyData) (ns : List Int) (m : Int) (D : PyData), xs = [.pd w, .pd D, .pd (.int m)] ∧ (D = .list (ns.map PyData.int) ∨ D = .tuple (ns.map PyData.int)) ∧ (∀ n ∈ ns, n ≤ m) ∧ Φ (.pd .none) st
/-! is_row -/
def Row (D : PyData) (ds : List PyData) : Prop := D = .list ds ∨ D = .tuple ds
def pre_is_row (K : PySem.W.Frag) (C_Ruler : Addr) : Pre := fun xs st Φ => (∃ D ds, xs = [.pd D] ∧ Row D ds ∧ Φ (.pd (.bool true)) st) ∨ ∃ hs, xs = [rulerO K C_Ruler hs] ∧ Φ (.pd (.bool false)) st
-- hyps: (it_Ruler : InsTy K C_Ruler)
/-! are_whole -/
def pre_are_whole : Pre := fun xs st Φ => ∃ (D : PyData) (ns : List Int), xs = [.pd D, .pd (.int ((ns.length : Nat) : Int))] ∧ Row D (ns.map PyData.int) ∧ ns.length ≤ 1000 ∧ Φ (.pd (.bool true)) st
theorem inD_false (n : Nat) : inD (.bool false) (List.replicate n (.bool true)) = false := by
  unfold inD
  rw [List.any_eq_false]
  intro x hx
  rw [(List.mem_replicate.mp hx).2]
  simp [PyData.eqv]
/-! right_section -/
def pre_right_section : Pre := fun xs st Φ => ∃ (D : PyData) (a b c : Int), xs = [.pd D] ∧ Row D [.int a, .int b, .int c] ∧ (0 ≤ a ∧ a ≤ b ∧ 0 ≤ c ∧ c ≤ b - a) ∧ Φ (.pd (.bool true)) st
/-! check_lengths_bound -/
def pre_check_lengths_bound : Pre := fun xs st Φ => ∃ ss : List Sec, xs = [.pd (.list (ss.map secD))] ∧ (∀ s ∈ ss, SecOk s) ∧ Φ (.pd .none) st
/-! checked_sections -/
def pre_checked_sections : Pre := fun xs st Φ => ∃ ss : List Sec, xs = [.pd (.list (ss.map secD))] ∧ (∀ s ∈ ss, SecOk s) ∧ ss.length ≤ 1000 ∧ Φ (.pd (.list (ss.map secD))) st
/-! checked_tells -/
abbrev TellsOk (ts : List (Int × Int)) (many : Int) : Prop := (∀ t ∈ ts, 0 ≤ t.1 ∧ t.1 < t.2 ∧ t.2 ≤ many) ∧ ts.Pairwise fun a b => a.1 < b.1 ∨ (a.1 = b.1 ∧ a.2 < b.2)
def pre_checked_tells : Pre := fun xs st Φ => ∃ (ts : List (Int × Int)) (many : Int), xs = [.pd (.list (ts.map pairT)), .pd (.int many)] ∧ TellsOk ts many ∧ ts.length ≤ 1000 ∧ Φ (.pd (.list (ts.map pairT))) st
theorem lexB_iff (p q : Int × Int) : SrtO.lexB p q = true ↔ (p.1 < q.1 ∨ (p.1 = q.1 ∧ p.2 < q.2)) := by
  obtain ⟨a, b⟩ := p
  obtain ⟨c, d⟩ := q
  simp only [SrtO.lexB]
  split <;> simp <;> omega
theorem srt_eq : ∀ {qs ts : List (Int × Int)}, qs.Perm ts → qs.Pairwise (fun p q => SrtO.lexB q p = false) → (ts.Pairwise fun a b => a.1 < b.1 ∨ (a.1 = b.1 ∧ a.2 < b.2)) → qs = ts := by
  intro qs ts hp h1 h2
  refine hp.eq_of_pairwise (le := fun a b => a.1 < b.1 ∨ (a.1 = b.1 ∧ a.2 ≤ b.2)) ?_ ?_ ?_
  · rintro ⟨a, b⟩ ⟨c, d⟩ _ _ h3 h4
    simp only at h3 h4
    refine Prod.ext ?_ ?_ <;> show _ = _ <;> simp only <;> omega
  · refine h1.imp ?_
    rintro ⟨a, b⟩ ⟨c, d⟩ h
    have h : ¬ (c < a ∨ (c = a ∧ d < b)) := fun z => by
      rw [(lexB_iff (c, d) (a, b)).mpr z] at h
      cases h
    show a < c ∨ (a = c ∧ b ≤ d)
    omega
  · refine h2.imp ?_
    rintro ⟨a, b⟩ ⟨c, d⟩ h
    simp only at h ⊢
    omega
/-! _law_purse -/
def pre__law_purse : Pre := fun xs st Φ => ∃ (ns : List Int) (at_ : Int), xs = [.pd (.list (ns.map PyData.int)), .pd (.int at_)] ∧ ns.length ≤ 63 ∧ 0 ≤ at_ ∧ at_ ≤ 1 ∧ ∀ p0 p1 : Int, Φ (.cell st.length) (st ++ [.mu [.int p0, .int p1, .int at_]])
theorem at_int {ns : List Int} {i : Int} (h : 0 ≤ i) (h2 : i < ns.length) : ∃ v, atI (ns.map PyData.int) i = some (.int v) := by
  obtain ⟨j, rfl⟩ : ∃ j : Nat, i = (j : Int) := ⟨i.toNat, by omega⟩
  have hj : j < ns.length := by omega
  refine ⟨ns[j], atI_nat ?_⟩
  rw [List.getElem?_map, List.getElem?_eq_getElem hj]
  rfl
theorem cut_ints (ns : List Int) (lo hi : Option Int) : ∃ ms : List Int, Ct.cutD (ns.map PyData.int) lo hi = ms.map PyData.int ∧ ms.length ≤ ns.length := by
  unfold Ct.cutD
  rw [← List.map_drop, ← List.map_take]
  exact ⟨_, rfl, by rw [List.length_take, List.length_drop]; omega⟩
/-! _law_draw -/
def pre__law_draw : Pre := fun xs st Φ => ∃ (n : Nat) (many : Int), xs = [.cell n, .pd (.int many)] ∧ 0 < many ∧ many < 1000000 ∧ Pur st n ∧ ∀ (v : Int) (st' : Sto), 0 ≤ v → v < many → Only st st' n → Pur st' n → Φ (.pd (.int v)) st'
/-! Plan_start -/
def pre_Plan_start (K : PySem.W.Frag) (C_Plan C_Ruler : Addr) : Pre := fun xs st Φ => ∃ p : PlanQ, xs = [planQ K C_Plan C_Ruler p] ∧ Φ (.pd (.int p.s)) st
/-! Plan_range_cells -/
def pre_Plan_range_cells (K : PySem.W.Frag) (C_Plan C_Ruler : Addr) : Pre := fun xs st Φ => ∃ p : PlanQ, xs = [planQ K C_Plan C_Ruler p] ∧ Φ (.pd (.int p.r)) st
/-! Plan_sections -/
def pre_Plan_sections (K : PySem.W.Frag) (C_Plan C_Ruler : Addr) : Pre := fun xs st Φ => ∃ p : PlanQ, xs = [planQ K C_Plan C_Ruler p] ∧ Φ (.pd (.list (p.ss.map secD))) st
/-! Plan_tells -/
def pre_Plan_tells (K : PySem.W.Frag) (C_Plan C_Ruler : Addr) : Pre := fun xs st Φ => ∃ p : PlanQ, xs = [planQ K C_Plan C_Ruler p] ∧ Φ (.pd (.list (p.ts.map pairT))) st
/-! Plan_many -/
def pre_Plan_many (K : PySem.W.Frag) (C_Plan C_Ruler : Addr) : Pre := fun xs st Φ => ∃ p : PlanQ, xs = [planQ K C_Plan C_Ruler p] ∧ Φ (.pd (.int p.ss.length)) st
/-! Plan_section -/
def pre_Plan_section (K : PySem.W.Frag) (C_Plan C_Ruler : Addr) : Pre := fun xs st Φ => ∃ (p : PlanQ) (i : Nat) (s : Sec), xs = [planQ K C_Plan C_Ruler p, .pd (.int (1 + (i : Int)))] ∧ p.ss[i]? = some s ∧ Φ (.pd (secD s)) st
/-! Plan_check_mark -/
def pre_Plan_check_mark (K : PySem.W.Frag) (C_Plan C_Ruler : Addr) : Pre := fun xs st Φ => ∃ (p : PlanQ) (m : Int), xs = [planQ K C_Plan C_Ruler p, .pd (.int m)] ∧ (0 ≤ m ∧ m ≤ p.ss.length) ∧ Φ (.pd .none) st
/-! Plan_first_tell -/
def oI : Option Int → PyData
  | none => .none
  | some i => .int i
def pre_Plan_first_tell (K : PySem.W.Frag) (C_Plan C_Ruler : Addr) : Pre := fun xs st Φ => ∃ (p : PlanQ) (m : Int), xs = [planQ K C_Plan C_Ruler p, .pd (.int m)] ∧ Φ (.pd (oI (firstTell p.ts m))) st
/-! Ruler_many -/
def pre_Ruler_many (K : PySem.W.Frag) (C_Ruler : Addr) : Pre := fun xs st Φ => ∃ hs : List Int, xs = [rulerO K C_Ruler hs] ∧ Φ (.pd (.int ((hs.length : Int) + 1))) st
/-! Ruler_check_cell -/
def pre_Ruler_check_cell (K : PySem.W.Frag) (C_Ruler : Addr) : Pre := fun xs st Φ => ∃ (hs : List Int) (c : Int), xs = [rulerO K C_Ruler hs, .pd (.int c)] ∧ hasC (.cells hs) c = true ∧ Φ (.pd .none) st
/-! Ruler_cell -/
def pre_Ruler_cell (K : PySem.W.Frag) (C_Ruler : Addr) : Pre := fun xs st Φ => ∃ (hs : List Int) (l : Int), xs = [rulerO K C_Ruler hs, .pd (.int l)] ∧ RulOk (.cells hs) ∧ Φ (.pd (.int (cellQ (.cells hs) l))) st
/-! Ruler_first -/
def pre_Ruler_first (K : PySem.W.Frag) (C_Ruler : Addr) : Pre := fun xs st Φ => ∃ (hs : List Int) (c : Int), xs = [rulerO K C_Ruler hs, .pd (.int c)] ∧ hasC (.cells hs) c = true ∧ Φ (.pd (.int (firstC (.cells hs) c))) st
/-! Ruler_last -/
def pre_Ruler_last (K : PySem.W.Frag) (C_Ruler : Addr) : Pre := fun xs st Φ => ∃ (hs : List Int) (c : Int), xs = [rulerO K C_Ruler hs, .pd (.int c)] ∧ hasC (.cells hs) c = true ∧ Φ (.pd (eOpt (lastC (.cells hs) c))) st
/-! Plan_cell -/
def pre_Plan_cell (K : PySem.W.Frag) (C_Plan C_Ruler : Addr) : Pre := fun xs st Φ => ∃ (p : PlanQ) (l : Int), xs = [planQ K C_Plan C_Ruler p, .pd (.int l)] ∧ 0 ≤ l ∧ RulOk p.ru ∧ Φ (.pd (.int (cellQ p.ru l))) st
/-! Plan_has_cell -/
def pre_Plan_has_cell (K : PySem.W.Frag) (C_Plan C_Ruler : Addr) : Pre := fun xs st Φ => ∃ (p : PlanQ) (c : Int), xs = [planQ K C_Plan C_Ruler p, .pd (.int c)] ∧ Φ (.pd (.bool (hasC p.ru c))) st
/-! Plan_first -/
def pre_Plan_first (K : PySem.W.Frag) (C_Plan C_Ruler : Addr) : Pre := fun xs st Φ => ∃ (p : PlanQ) (c : Int), xs = [planQ K C_Plan C_Ruler p, .pd (.int c)] ∧ RulOk p.ru ∧ hasC p.ru c = true ∧ c ≤ 1000000000 ∧ Φ (.pd (.int (firstC p.ru c))) st
/-! Plan_last -/
def pre_Plan_last (K : PySem.W.Frag) (C_Plan C_Ruler : Addr) : Pre := fun xs st Φ => ∃ (p : PlanQ) (c : Int), xs = [planQ K C_Plan C_Ruler p, .pd (.int c)] ∧ RulOk p.ru ∧ hasC p.ru c = true ∧ c ≤ 1000000000 ∧ Φ (.pd (eOpt (lastC p.ru c))) st
/-! Plan_ruler -/
def pre_Plan_ruler (K : PySem.W.Frag) (C_Plan C_Ruler : Addr) : Pre := fun xs st Φ => ∃ (p : PlanQ), xs = [planQ K C_Plan C_Ruler p] ∧ Φ (rulV K C_Ruler p.ru) st
/-! lesser_end -/
def pre_lesser_end : Pre := fun xs st Φ => ∃ a b, xs = [.pd (eOpt a), .pd (eOpt b)] ∧ Φ (.pd (eOpt (lesserEnd a b))) st
/-! arcs_meet -/
def pre_arcs_meet : Pre := fun xs st Φ => ∃ r s, xs = [.pd (eArcs r), .pd (eArcs s)] ∧ r.length + s.length ≤ 100000 ∧ Φ (.pd (eArcs (arcsMeet r s))) st
theorem snoc_arc (made : List Arc) (f : Int) (l : Option Int) : made.map eArc ++ [.tuple [.int f, eOpt l]] = (made ++ [(f, l)]).map eArc := by rw [List.map_append]; rfl
theorem snoc_arcN (made : List Arc) (f : Int) : made.map eArc ++ [.tuple [.int f, .none]] = (made ++ [(f, none)]).map eArc := by rw [List.map_append]; rfl
theorem snoc_arcS (made : List Arc) (f l : Int) : made.map eArc ++ [.tuple [.int f, .int l]] = (made ++ [(f, some l)]).map eArc := by rw [List.map_append]; rfl
theorem at_arc {r : List Arc} {i : Nat} (h : i < r.length) : atI (r.map eArc) (i : Int) = some (eArc r[i]) := by
  refine atI_nat ?_
  rw [List.getElem?_map, List.getElem?_eq_getElem h]
  rfl
theorem meetN_le : ∀ (n : Nat) (r s : List Arc), (meetN n r s).length ≤ n
  | 0, _, _ => Nat.le_refl _
  | _ + 1, [], _ => Nat.zero_le _
  | _ + 1, _ :: _, [] => Nat.zero_le _
  | n + 1, a :: r, b :: s => by
    unfold meetN
    split
    · simp
    · rename_i l _
      have h1 := meetN_le n r (b :: s)
      have h2 := meetN_le n (a :: r) s
      rw [List.length_append]
      have e1 : ∀ (c : Prop) [Decidable c] (x : Arc), (if c then [x] else []).length ≤ 1 := fun c _ x => by split <;> simp
      have e2 : (if a.2 = some l then meetN n r (b :: s) else meetN n (a :: r) s).length ≤ n := by split <;> assumption
      have := e1 ((if b.1 > a.1 then b.1 else a.1) ≤ l) (if b.1 > a.1 then b.1 else a.1, some l)
      omega
theorem eqv_opt (a : Option Int) (l : Int) : PyData.eqv (eOpt a) (.int l) = decide (a = some l) := by
  cases a with
  | none => simp [eOpt, PyData.eqv]
  | some x => 
    rw [eOpt, eqv_int]
    by_cases h : x = l <;> simp [h]
theorem shaped_opt (a : Option Int) : SeqAt.shaped (eOpt a) = true := by cases a <;> first | exact shaped_none | exact shaped_int _
/-! arcs_gathered -/
/-- the answer as plain data, or as a list that is tracked -/
def Either2 (Φ : Val → Sto → Prop) (st : Sto) (r : List Arc) : Prop := Φ (.pd (eArcs r)) st ∨ ∀ (jk : Sto) (n : Nat), (st ++ jk)[n]? = some (.mu (r.map eArc)) → st.length ≤ n → Φ (.cell n) (st ++ jk)
def pre_arcs_gathered : Pre := fun xs st Φ => ∃ rows : List Arc, xs = [.pd (eArcs rows)] ∧ rows.length ≤ 100000 ∧ Either2 Φ st (arcsGathered rows)
theorem gStep_le (made : List Arc) (a : Arc) : (gStep made a).length ≤ made.length + 1 := by
  unfold gStep
  split
  · simp
  · omega
  · split
    · simp
    · split
      · simp
      · split <;> simp
theorem gFold_le : ∀ (rows made : List Arc), (rows.foldl gStep made).length ≤ made.length + rows.length
  | [], made => Nat.le_refl _
  | a :: rows, made => by
    rw [List.foldl_cons]
    have h1 := gFold_le rows (gStep made a)
    have h2 := gStep_le made a
    rw [List.length_cons]
    omega
theorem sh_arcs (r : List Arc) : SeqAt.shaped (.list (r.map eArc)) = true := Sh.shaped (k := 2) (sh_list fun d hd => by
  obtain ⟨a, _, rfl⟩ := List.mem_map.mp hd
  refine sh_tuple fun e he => ?_
  rcases List.mem_cons.mp he with rfl | he
  · exact sh_int _
  · rw [List.mem_singleton.mp he]
    cases a.2 with
    | none => exact sh_none
    | some i => exact sh_int i)
theorem eqv_isNil (xs : List PyData) : PyData.eqv (.list xs) (.list []) = decide (xs = []) := by
  cases xs <;> simp [PyData.eqv, PyData.eqvAll]
def gRest (ini : List Arc) (b : Int) : Option Int → Option Int → List Arc
  | none, _ => ini ++ [(b, none)]
  | some _, none => ini ++ [(b, none)]
  | some e, some l => if l > e then ini ++ [(b, some l)] else ini ++ [(b, some e)]
theorem gStep_none (ini : List Arc) (b f : Int) (l : Option Int) : gStep (ini ++ [(b, none)]) (f, l) = gRest ini b none l := by
  unfold gStep
  rw [List.getLast?_append]
  rfl
theorem gStep_far (ini : List Arc) (b e f : Int) (l : Option Int) (h : f > e + 1) : gStep (ini ++ [(b, some e)]) (f, l) = ini ++ [(b, some e)] ++ [(f, l)] := by
  unfold gStep
  rw [List.getLast?_append]
  show (if f > e + 1 then _ else _) = _
  rw [if_pos h]
theorem gStep_near (ini : List Arc) (b e f : Int) (l : Option Int) (h : ¬ f > e + 1) : gStep (ini ++ [(b, some e)]) (f, l) = gRest ini b (some e) l := by
  unfold gStep
  rw [List.getLast?_append]
  show (if f > e + 1 then _ else _) = _
  rw [if_neg h]
  cases l with
  | none => exact set_last _ _ _
  | some l =>
    show (if l > e then _ else _) = (if l > e then _ else _)
    split
    · exact set_last _ _ _
    · rfl
theorem eArc_eqv (a b : Arc) : PyData.eqv (eArc a) (eArc b) = decide (a = b) := by
  obtain ⟨x, y⟩ := a
  obtain ⟨z, u⟩ := b
  show PyData.eqv (.tuple [.int x, eOpt y]) (.tuple [.int z, eOpt u]) = _
  rw [eqv_tuple, eqvAll_cons, eqvAll_cons, eqvAll_nil, eqv_int]
  have e : PyData.eqv (eOpt y) (eOpt u) = decide (y = u) := by
    cases y with
    | none => cases u <;> simp [eOpt, PyData.eqv]
    | some y =>
      cases u with
      | none => simp [eOpt, PyData.eqv]
      | some u =>
        show PyData.eqv (.int y) (.int u) = _
        rw [eqv_int]
        by_cases h : y = u <;> simp [h]
  rw [e]
  by_cases h1 : x = z <;> by_cases h2 : y = u <;> simp [h1, h2]
/-! arcs_union -/
def pre_arcs_union : Pre := fun xs st Φ => ∃ r s : List Arc, xs = [.pd (eArcs r), .pd (eArcs s)] ∧ r.length + s.length ≤ 100000 ∧ Φ (.pd (eArcs (arcsUnion r s))) st
/-! arcs_joined -/
theorem seg_at {r : List Seg} {i : Nat} {d : PyData} (h : (r.map pairT)[i]? = some d) : ∃ t, r[i]? = some t ∧ d = pairT t := by
  rw [List.getElem?_map] at h
  cases e : r[i]? with
  | none => rw [e] at h; cases h
  | some t => rw [e] at h; exact ⟨t, rfl, (Option.some.inj h).symm⟩
theorem sh_segs (r : List Seg) : SeqAt.shaped (.list (r.map pairT)) = true := Sh.shaped (k := 2) (sh_list fun d hd => by
  obtain ⟨a, _, rfl⟩ := List.mem_map.mp hd
  refine sh_tuple fun e he => ?_
  rcases List.mem_cons.mp he with rfl | he
  · exact sh_int _
  · rw [List.mem_singleton.mp he]
    exact sh_int _)
theorem snoc_seg (made : List Seg) (f l : Int) : made.map pairT ++ [.tuple [.int f, .int l]] = (made ++ [(f, l)]).map pairT := by rw [List.map_append]; rfl
def pre_arcs_joined : Pre := fun xs st Φ => ∃ (r : List Seg) (pad : Int), xs = [.pd (eSegs r), .pd (.int pad)] ∧ r.length ≤ 100000 ∧ Φ (.pd (eSegs (joined r pad))) st
/-! arcs_hold -/
def pre_arcs_hold : Pre := fun xs st Φ => ∃ (r : List Seg) (x : Int), xs = [.pd (eSegs r), .pd (.int x)] ∧ ∀ b : Bool, (b = true ↔ memS r x) → Φ (.pd (.bool b)) st
/-! plan_top -/
theorem sec_at {r : List Sec} {i : Nat} {d : PyData} (h : (r.map secD)[i]? = some d) : ∃ t, r[i]? = some t ∧ d = secD t := by
  rw [List.getElem?_map] at h
  cases e : r[i]? with
  | none => rw [e] at h; cases h
  | some t => rw [e] at h; exact ⟨t, rfl, (Option.some.inj h).symm⟩
def pre_plan_top (K : PySem.W.Frag) (C_Plan C_Ruler : Addr) : Pre := fun xs st Φ => ∃ (p : PlanQ), xs = [planQ K C_Plan C_Ruler p] ∧ Φ (.pd (.int (topQ p))) st
/-! check_single -/
def pre_check_single (K : PySem.W.Frag) (C_Plan C_Ruler : Addr) : Pre := fun xs st Φ => ∃ (p : PlanQ), xs = [planQ K C_Plan C_Ruler p] ∧ p.r ≤ 1 ∧ Φ (.pd .none) st
/-! check_spread -/
def pre_check_spread (K : PySem.W.Frag) (C_Plan C_Ruler : Addr) : Pre := fun xs st Φ => ∃ (p : PlanQ), xs = [planQ K C_Plan C_Ruler p] ∧ RulOk p.ru ∧ 0 ≤ topQ p ∧ cellQ p.ru (topQ p) ≤ 400 ∧ Φ (.pd .none) st
/-! Plan_sums -/
theorem cut_nat (ds : List PyData) (i j : Nat) (h : j ≤ ds.length) (hij : i ≤ j) : Ct.cutD ds (some (i : Int)) (some (j : Int)) = (ds.drop i).take (j - i) := by
  unfold Ct.cutD
  rw [HT.sIx_nat, HT.sIx_nat, Nat.min_eq_left h, Nat.min_eq_left (Nat.le_trans hij h)]
def pre_Plan_sums (K : PySem.W.Frag) (C_Plan C_Ruler : Addr) : Pre := fun xs st Φ => ∃ (p : PlanQ) (i j : Nat), xs = [planQ K C_Plan C_Ruler p, .pd (.int i), .pd (.int j)] ∧ i ≤ j ∧ j ≤ p.ss.length ∧ Φ (.pd (.tuple [.int (sumLow p.ss i j), .int (sumHigh p.ss i j)])) st
/-! Plan_open_marks -/
theorem filt_rng (n : Nat) (lo : Int) (f : Int → Bool) : ((List.range n).filterMap fun (i : Nat) => if f (lo + (i : Int)) = true then some (PyData.int (lo + (i : Int))) else none) = (((List.range n).map fun (i : Nat) => lo + (i : Int)).filter f).map PyData.int := by
  generalize List.range n = l
  induction l with
  | nil => rfl
  | cons i l ih =>
    rw [List.filterMap_cons, List.map_cons, List.filter_cons, ih]
    by_cases h : f (lo + (i : Int)) = true
    · simp [h]
    · simp [h]
theorem open_eq (p : PlanQ) (t : Nat) : (((List.range (p.ss.length - t)).map fun (i : Nat) => (t : Int) + 1 + (i : Int)).filter (toldBy p.ts t)).map PyData.int = (openQ p t).map fun j : Nat => PyData.int (j : Int) := by
  unfold openQ
  generalize List.range (p.ss.length - t) = l
  induction l with
  | nil => rfl
  | cons i l ih =>
    rw [List.map_cons, List.map_cons, List.filter_cons, List.filter_cons]
    have e : (t : Int) + 1 + (i : Int) = ((t + 1 + i : Nat) : Int) := by omega
    rw [e]
    by_cases h : toldBy p.ts t ((t + 1 + i : Nat) : Int) = true
    · rw [if_pos h, if_pos h, List.map_cons, List.map_cons, ih]
    · rw [if_neg h, if_neg h, ih]
def pre_Plan_open_marks (K : PySem.W.Frag) (C_Plan C_Ruler : Addr) : Pre := fun xs st Φ => ∃ (p : PlanQ) (t : Nat), xs = [planQ K C_Plan C_Ruler p, .pd (.int t)] ∧ t ≤ p.ss.length ∧ p.ss.length ≤ 1000 ∧ Φ (.pd (.list ((openQ p t).map fun j : Nat => PyData.int (j : Int)))) st
/-! cell_window -/
def pre_cell_window (K : PySem.W.Frag) (C_Plan C_Ruler : Addr) : Pre := fun xs st Φ => ∃ (p : PlanQ) (i j : Nat) (c : Int), xs = [planQ K C_Plan C_Ruler p, .pd (.int i), .pd (.int j), .pd (.int c)] ∧ i ≤ j ∧ j ≤ p.ss.length ∧ RulOk p.ru ∧ hasC p.ru c = true ∧ c ≤ 1000000000 ∧
  Φ (.pd (.tuple [.int (max 0 (firstC p.ru c - sumLow p.ss i j)), eOpt ((lastC p.ru c).map (· - sumHigh p.ss i j))])) st
/-! is_pages -/
def pre_is_pages (K : PySem.W.Frag) (C_Ruler : Addr) : Pre := fun xs st Φ => (∃ H : Int, xs = [.pd (pagesD H)] ∧ Φ (.pd (.bool true)) st) ∨ ∃ hs, xs = [rulerO K C_Ruler hs] ∧ Φ (.pd (.bool false)) st
/-! Ruler___init__ -/
theorem set_set {st : Sto} {n : Nat} {a b : Cell} : (st.set n a).set n b = st.set n b := List.set_set ..
theorem set_a {st jk : Sto} {x y : Cell} : (st ++ x :: jk).set st.length y = st ++ y :: jk := by simp
theorem set_b {st jk : Sto} {w x y : Cell} : (st ++ w :: x :: jk).set (st.length + 1) y = st ++ w :: y :: jk := by
  rw [List.set_append_right _ _ (by omega), Nat.add_sub_cancel_left]
  rfl
theorem get_b {st jk : Sto} {w x : Cell} : (st ++ w :: x :: jk)[st.length + 1]? = some x := by simp
def pre_Ruler___init__ (C_Ruler : Addr) : Pre := fun xs st Φ => ∃ (n : Nat) (hs : List Int), xs = [.cell n, .pd (.list (hs.map PyData.int))] ∧ st[n]? = some (.ins C_Ruler []) ∧ RulOk (.cells hs) ∧
  Φ (.pd .none) (st.set n (.ins C_Ruler [("height_list", .cell st.length), ("edge_list", .cell (st.length + 1))]) ++ [.mu (hs.map PyData.int), .mu ((edges hs).map PyData.int)])
theorem edges_take : ∀ (e : Int) (hs : List Int) (i : Nat) (h : i < hs.length), (edgesF e hs).take (i + 1) = (edgesF e hs).take i ++ [e + (hs.take (i + 1)).sum]
  | e, [], i, h => absurd h (Nat.not_lt_zero _)
  | e, x :: hs, 0, _ => by simp [edgesF]
  | e, x :: hs, i + 1, h => by
    show (e + x) :: (edgesF (e + x) hs).take (i + 1) = (e + x) :: (edgesF (e + x) hs).take i ++ [e + (x :: hs.take (i + 1)).sum]
    rw [edges_take (e + x) hs i (Nat.lt_of_succ_lt_succ h), List.sum_cons, Int.add_assoc]
    rfl
/-! Plan___init__ -/
def pre_Plan___init__ (K : PySem.W.Frag) (C_Plan C_Ruler : Addr) : Pre := fun xs st Φ => ∃ (n : Nat) (p : PlanQ), xs = [.cell n, .pd (.int p.s), rulV K C_Ruler p.ru, .pd (.int p.r), .pd (.list (p.ss.map secD)), .pd (.list (p.ts.map pairT))] ∧ st[n]? = some (.ins C_Plan []) ∧ QOk p ∧ Φ (.pd .none) (st.set n (.ins C_Plan (planQF K C_Ruler p)))
-- hyps: (it_Ruler : InsTy K C_Ruler)
/-! arcs_pulled -/
def pre_arcs_pulled : Pre := fun xs st Φ => ∃ (r : List Seg) (a b c : Int), xs = [.pd (eSegs r), .pd (.int a), .pd (.int b), .pd (.int c)] ∧ r.length ≤ 100000 ∧ (joined r c).length ≤ r.length ∧ Either2 Φ st (pulled r a b c)
theorem snocA (made : List Arc) (f l : Int) : made.map eArc ++ [.tuple [.int f, .int l]] = (made ++ [(f, some l)]).map eArc := by rw [List.map_append]; rfl
/-! cut_pieces -/
theorem win_at {r : List (Int × Arc)} {i : Nat} (h : i < r.length) : atI (r.map winD) (i : Int) = some (winD r[i]) := by
  refine atI_nat ?_
  rw [List.getElem?_map, List.getElem?_eq_getElem h]
  rfl
theorem segs_at {r : List Seg} {i : Nat} (h : i < r.length) : atI (r.map pairT) (i : Int) = some (pairT r[i]) := by
  refine atI_nat ?_
  rw [List.getElem?_map, List.getElem?_eq_getElem h]
  rfl
def pre_cut_pieces : Pre := fun xs st Φ => ∃ (ps : List Seg) (W : List (Int × Arc)), xs = [.pd (eSegs ps), .pd (.list (W.map winD))] ∧ ps.length + W.length ≤ 900000 ∧ Φ (.pd (eSegs (cutP ps (W.map Prod.snd)))) st
theorem cutN_le : ∀ (n : Nat) (ps : List Seg) (ws : List Arc), (cutN n ps ws).length ≤ n
  | 0, _, _ => Nat.le_refl _
  | _ + 1, [], _ => Nat.zero_le _
  | _ + 1, _ :: _, [] => Nat.zero_le _
  | n + 1, p :: ps, w :: ws => by
    unfold cutN
    have h1 := cutN_le n ps (w :: ws)
    have h2 := cutN_le n (p :: ps) ws
    rw [List.length_append]
    have e1 : ∀ (c : Prop) [Decidable c] (x : Seg), (if c then [x] else []).length ≤ 1 := fun c _ x => by split <;> simp
    have e2 : ∀ (c : Prop) [Decidable c], (if c then cutN n ps (w :: ws) else cutN n (p :: ps) ws).length ≤ n := fun c _ => by split <;> assumption
    exact Nat.le_trans (Nat.add_le_add (e1 _ _) (e2 _)) (by omega)
/-! windows_to -/
theorem cell_le {ru : Rul} (ok : RulOk ru) {l : Int} (h : 0 ≤ l) : cellQ ru l ≤ l + 1 := by
  have h1 := cell_spec ok h
  have h2 := first_ge ok h1.1
  omega
theorem secs_hi : ∀ {l : List Sec}, (∀ s ∈ l, SecOk s) → (l.map fun s => s.2.1).sum ≤ 10000 * l.length
  | [], _ => Int.le_refl _
  | s :: l, h => by
    have h1 := h s (.head _)
    have h2 := secs_hi fun x hx => h x (.tail _ hx)
    unfold SecOk at h1
    simp only [List.map_cons, List.sum_cons, List.length_cons]
    omega
theorem sum_hi {p : PlanQ} (sec : ∀ s ∈ p.ss, SecOk s) (sn : p.ss.length ≤ 60) (i j : Nat) : sumHigh p.ss i j ≤ 600000 := by
  have h := secs_hi (l := (p.ss.drop i).take (j - i)) fun s hs => sec s (List.mem_of_mem_drop (List.mem_of_mem_take hs))
  unfold sumHigh
  have h2 : ((p.ss.drop i).take (j - i)).length ≤ 60 := by
    rw [List.length_take, List.length_drop]
    omega
  omega
theorem winGo_len (ru : Rul) (low high most : Int) : ∀ (n : Nat) (c : Int), (winGo ru low high most n c).length ≤ n
  | 0, _ => Nat.le_refl _
  | n + 1, c => by
    unfold winGo
    split
    · have : (winRow ru low high c).toList.length ≤ 1 := by cases winRow ru low high c <;> simp
      have := winGo_len ru low high most n (c + 1)
      rw [List.length_append]
      omega
    · exact Nat.zero_le _
theorem snoc_win (made : List (Int × Arc)) (c f : Int) (l : Option Int) : made.map winD ++ [.tuple [.int c, .int f, eOpt l]] = (made ++ [(c, (f, l))]).map winD := by rw [List.map_append]; rfl
def pre_windows_to (K : PySem.W.Frag) (C_Plan C_Ruler : Addr) : Pre := fun xs st Φ => ∃ (p : PlanQ) (i j : Nat) (most : Int), xs = [planQ K C_Plan C_Ruler p, .pd (.int i), .pd (.int j), .pd (.int most)] ∧ i ≤ j ∧ j ≤ p.ss.length ∧ p.ss.length ≤ 60 ∧ RulOk p.ru ∧ (∀ s ∈ p.ss, SecOk s) ∧ (0 ≤ most ∧ most ≤ 100000) ∧
  Φ (.pd (.list ((windowsQ p.ru (sumLow p.ss i j) (sumHigh p.ss i j) most).map winD))) st
/-! pulled_set -/
theorem joinGo_len (c : Int) : ∀ (R J : List Seg), (joinGo c J R).length ≤ J.length + R.length
  | [], J => Nat.le_refl _
  | a :: R, J => by
    rcases List.eq_nil_or_concat J with rfl | ⟨ini, y, rfl⟩
    · have := joinGo_len c R ([] ++ [a])
      show (joinGo c ([] ++ [a]) R).length ≤ _
      simp only [List.length_append, List.length_cons, List.length_nil] at this ⊢
      omega
    · rw [List.concat_eq_append, joinGo_step]
      split
      · have := joinGo_len c R (ini ++ [(y.1, a.2)])
        simp only [List.length_append, List.length_cons, List.length_nil] at this ⊢
        omega
      · have := joinGo_len c R (ini ++ [y] ++ [a])
        simp only [List.length_append, List.length_cons, List.length_nil] at this ⊢
        omega
theorem joined_len (c : Int) (r : List Seg) : (joined r c).length ≤ r.length := by
  have := joinGo_len c r []
  unfold joined
  simpa using this
theorem pulled_len (r : List Seg) (a b c : Int) : (pulled r a b c).length ≤ r.length := by
  have h1 := gFold_le ((pulledRows r a b c).mergeSort arcLe) []
  have h2 := List.length_filterMap_le (pullRow a b c) (joined r c)
  have h3 := joined_len c r
  have h4 := (List.mergeSort_perm (pulledRows r a b c) arcLe).length_eq
  unfold pulled arcsGathered
  unfold pulledRows at h1 h4 ⊢
  simp only [List.length_nil] at h1
  omega
theorem open_mem {p : PlanQ} {t j : Nat} (h : j ∈ openQ p t) : t + 1 ≤ j ∧ j ≤ p.ss.length := by
  unfold openQ at h
  obtain ⟨i, hi, rfl⟩ := List.mem_map.mp (List.mem_filter.mp h).1
  have := List.mem_range.mp hi
  omega
theorem group_next {a b c : Int} {x : Seg} {ps rows : List Seg} : groupGo a b c (x :: ps) rows = pulled (rows.takeWhile fun y => decide (y.1 ≤ x.2)) a b c ++ groupGo a b c ps (rows.dropWhile fun y => decide (y.1 ≤ x.2)) := rfl
def pre_pulled_set (K : PySem.W.Frag) (C_Plan C_Ruler : Addr) : Pre := fun xs st Φ => ∃ (p : PlanQ) (t : Nat) (S : List Seg) (most : Int), xs = [planQ K C_Plan C_Ruler p, .pd (.int ((t + 1 : Nat) : Int)), .pd (eSegs S), .pd (.int most)] ∧ t < p.ss.length ∧ p.ss.length ≤ 60 ∧ RulOk p.ru ∧ (∀ s ∈ p.ss, SecOk s) ∧
  SrtG 1 S ∧ (∀ x ∈ S, 0 ≤ x.1 ∧ x.2 ≤ most) ∧ (0 ≤ most ∧ most ≤ 40000) ∧ Φ (.pd (eArcs (pulledSet p (t + 1) S most))) st
/-! wide_sets -/
theorem get_b2 {st jk : Sto} {w : Cell} {xs : List PyData} : look (.cell (st.length + 1)) (st ++ w :: .mu xs :: jk) = some (.list xs) := by
  show (match (st ++ w :: Cell.mu xs :: jk)[st.length + 1]? with | some (.mu xs) => some (PyData.list xs) | some (.fr xs) => some (PyData.list xs) | some (.pin _ xs) => some (PyData.list xs) | _ => none) = _
  rw [get_b]
theorem look_b {st jk : Sto} {w : Cell} {xs : List PyData} : look (.cell (st.length + 1)) (st ++ w :: .mu xs :: jk) = some (.list xs) := get_b2
def pre_wide_sets (K : PySem.W.Frag) (C_Plan C_Ruler : Addr) : Pre := fun xs st Φ => ∃ (p : PlanQ), xs = [planQ K C_Plan C_Ruler p] ∧ p.ss.length ≤ 60 ∧ 0 ≤ p.s ∧ RulOk p.ru ∧ (∀ s ∈ p.ss, SecOk s) ∧ (ceilsQ p).getD p.ss.length 0 ≤ 40000 ∧ Φ (.pd (.list ((wideQ p).map fun S => eSegs S))) st
/-! plan_sets -/
theorem wide_len {p : PlanQ} (ok : RulOk p.ru) (s0 : 0 ≤ p.s) (sec : ∀ s ∈ p.ss, SecOk s) (hcl : (ceilsQ p).getD p.ss.length 0 ≤ 40000) {i : Nat} {S : List Seg} (h : (wideQ p)[i]? = some S) : i ≤ p.ss.length ∧ SetAt p i S ∧ (S.length : Int) ≤ 40001 := by
  obtain ⟨h1, h2⟩ := wide_spec ok s0 sec
  have hi := (List.getElem?_eq_some_iff.mp h).1
  rw [h1] at hi
  obtain ⟨B, h3, h4⟩ := h2 i (by omega)
  rw [h] at h3
  cases h3
  have hm := ceil_mono sec (p.ss.length - i) i (by omega)
  rw [show i + (p.ss.length - i) = p.ss.length by omega] at hm
  have := srt_len (by omega) h4.can (set_bound h4)
  exact ⟨by omega, h4, by omega⟩
def pre_plan_sets (K : PySem.W.Frag) (C_Plan C_Ruler : Addr) : Pre := fun xs st Φ => ∃ (p : PlanQ), xs = [planQ K C_Plan C_Ruler p] ∧ p.ss.length ≤ 60 ∧ 0 ≤ p.s ∧ p.r ≤ 1 ∧ RulOk p.ru ∧ (∀ s ∈ p.ss, SecOk s) ∧ cellQ p.ru (topQ p) ≤ 400 ∧ (ceilsQ p).getD p.ss.length 0 ≤ 40000 ∧ Φ (.pd (.list ((setsQ p).map fun S => eSegs S))) st
/-! kept_with -/
def cutT (p : PlanQ) (m : Nat) : PlanQ := ⟨p.s, p.ru, 1, p.ss, p.ts.take m⟩
theorem cutT_ok {p : PlanQ} (h : QOk p) (m : Nat) : QOk (cutT p m) := {
  s0 := h.s0
  s1 := h.s1
  ru := h.ru
  r1 := (by show (1 : Int) ≤ 1; omega)
  r2 := (by show (1 : Int) ≤ 10; omega)
  sn := h.sn
  tn := by
    show (p.ts.take m).length ≤ 60
    rw [List.length_take]
    have := h.tn
    omega
  sec := h.sec
  tel := fun t ht => h.tel t (List.mem_of_mem_take ht)
  srt := h.srt.sublist (List.take_sublist _ _) }
def pre_kept_with (K : PySem.W.Frag) (C_Plan C_Ruler : Addr) : Pre := fun xs st Φ => ∃ (p : PlanQ) (m : Nat), xs = [planQ K C_Plan C_Ruler p, .pd (.int m)] ∧ QOk p ∧ (ceilsQ p).getD p.ss.length 0 ≤ 40000 ∧ m ≤ p.ts.length ∧ ∀ b : Bool, (b = true ↔ Dq (cutT p m) 0 p.s) → Φ (.pd (.bool b)) st
theorem frz_plan {K : PySem.W.Frag} {CR : Addr} (p : PlanQ) (st : Sto) : frzF (planQF K CR p) st = some (planQF K CR p, st) := by
  obtain ⟨s, ru, r, ss, ts⟩ := p
  cases ru <;> rfl
theorem start_le {p : PlanQ} (sec : ∀ s ∈ p.ss, SecOk s) : p.s ≤ topQ p := by
  unfold topQ
  have := secs_nn sec
  omega
theorem cut_to (ds : List PyData) (j : Nat) (h : j ≤ ds.length) : Ct.cutD ds none (some (j : Int)) = ds.take j := by
  unfold Ct.cutD
  rw [HT.sIx_nat, HT.sIx_none, Nat.min_eq_left h]
  rfl
/-! plan_verdict -/
def pre_plan_verdict (K : PySem.W.Frag) (C_Plan C_Ruler : Addr) : Pre := fun xs st Φ => ∃ (p : PlanQ), xs = [planQ K C_Plan C_Ruler p] ∧ QOk p ∧ p.r ≤ 1 ∧ cellQ p.ru (topQ p) ≤ 400 ∧ (ceilsQ p).getD p.ss.length 0 ≤ 40000 ∧
  (Dq p 0 p.s → Φ (.pd (.tuple [.str "kept"])) st) ∧ (¬ Dq p 0 p.s → ∀ n : Int, Φ (.pd (.tuple [.str "caught", .int n])) st)
/-! _law_cell -/
def pre__law_cell : Pre := fun xs st Φ => ∃ (hs : List Int) (l : Int), xs = [.pd (.list (hs.map PyData.int)), .pd (.int l)] ∧ Φ (.pd (.int (cellQ (.cells hs) l))) st
/-! _law_plan_cell -/
def pre__law_plan_cell : Pre := fun xs st Φ => ∃ (ru : Rul) (l : Int), xs = [.pd (rulD ru), .pd (.int l)] ∧ RulOk ru ∧ Φ (.pd (.int (cellQ ru l))) st
/-! _law_plan_ruler -/
theorem frz_two {S : Sto} {N : Nat} {a b : Str} {xs ys : List PyData} (h : N = S.length) : frzF [(a, .cell N), (b, .cell (N + 1))] (S ++ [.mu xs, .mu ys]) = some ([(a, .pd (.list xs)), (b, .pd (.list ys))], S ++ [.fr xs, .fr ys]) := by
  subst h
  have e1 : pur (.cell S.length) (S ++ [.mu xs, .mu ys]) = some (.list xs, S ++ [.fr xs, .mu ys]) := pur_end
  have e2 : pur (.cell (S.length + 1)) (S ++ [.fr xs, .mu ys]) = some (.list ys, S ++ [.fr xs, .fr ys]) := by
    have := pur_end (st0 := S ++ [.fr xs]) (jk := []) (xs := ys)
    simpa using this
  have f1 : frzV (.cell S.length) (S ++ [.mu xs, .mu ys]) = some (.pd (.list xs), S ++ [.fr xs, .mu ys]) := by
    show (pur (.cell S.length) (S ++ [.mu xs, .mu ys])).map (fun p => (Val.pd p.1, p.2)) = _
    rw [e1]
    rfl
  have f2 : frzV (.cell (S.length + 1)) (S ++ [.fr xs, .mu ys]) = some (.pd (.list ys), S ++ [.fr xs, .fr ys]) := by
    show (pur (.cell (S.length + 1)) (S ++ [.fr xs, .mu ys])).map (fun p => (Val.pd p.1, p.2)) = _
    rw [e2]
    rfl
  rw [frzF, f1]
  show ((frzV (.cell (S.length + 1)) (S ++ [.fr xs, .mu ys])).bind fun p => (frzF [] p.2).bind fun q => some ((b, p.1) :: q.1, q.2)).bind (fun q => some ((a, Val.pd (.list xs)) :: q.1, q.2)) = _
  rw [f2]
  rfl
def pre__law_plan_ruler (K : PySem.W.Frag) (C_Ruler : Addr) : Pre := fun xs st Φ => ∃ ru : Rul, xs = [.pd (rulD ru)] ∧ RulOk ru ∧ Φ (rulV K C_Ruler ru) st
/-! _law_plan_top -/
def pre__law_plan_top : Pre := fun xs st Φ => ∃ (p : PlanQ), xs = [.pd (worldQ p)] ∧ p.ss.length ≤ 60 ∧ Φ (.pd (.int (topQ p))) st
theorem top_sum (ss : List Sec) (f : PyData → Option PyData) (hf : ∀ s : Sec, f (secD s) = some (.int (s.2.1 + s.2.2))) : (ss.map secD).filterMap f = (ss.map fun s => s.2.1 + s.2.2).map PyData.int := by
  induction ss with
  | nil => rfl
  | cons s ss ih => rw [List.map_cons, List.filterMap_cons, hf, ih]; rfl
/-! _law_made_plan -/
def pre__law_made_plan (K : PySem.W.Frag) (C_Plan C_Ruler : Addr) : Pre := fun xs st Φ => ∃ p : PlanQ, xs = [.pd (worldQ p)] ∧ QOk p ∧ Φ (planQ K C_Plan C_Ruler p) st
/-! _law_ceilings -/
def pre__law_ceilings : Pre := fun xs st Φ => ∃ (p : PlanQ), xs = [.pd (worldQ p)] ∧ p.ss.length ≤ 60 ∧ Φ (.pd (.list ((ceilsQ p).map PyData.int))) st
theorem atI_end (xs : List PyData) (z : PyData) : atI (xs ++ [z]) (((xs ++ [z]).length : Int) - 1) = some z := by
  rw [show (((xs ++ [z]).length : Int) - 1) = ((xs.length : Nat) : Int) by rw [List.length_append]; simp]
  exact atI_nat (by simp)
/-! _law_cells -/
def pre__law_cells : Pre := fun xs st Φ => ∃ (p : PlanQ), xs = [.pd (worldQ p)] ∧ p.ss.length ≤ 60 ∧ RulOk p.ru ∧ (0 ≤ (ceilsQ p).getD p.ss.length 0 ∧ (ceilsQ p).getD p.ss.length 0 ≤ 40000) ∧ Φ (.pd (.list (((List.range ((ceilsQ p).getD p.ss.length 0 + 1).toNat).map fun (i : Nat) => cellQ p.ru (0 + (i : Int))).map PyData.int))) st
theorem filt_all (n : Nat) (f : Nat → Int) : ((List.range n).filterMap fun i => some (PyData.int (f i))) = ((List.range n).map f).map PyData.int := by
  generalize List.range n = l
  induction l with
  | nil => rfl
  | cons i l ih => rw [List.filterMap_cons, List.map_cons, List.map_cons, ih]
/-! _law_first_tell -/
def pre__law_first_tell : Pre := fun xs st Φ => ∃ (p : PlanQ) (m : Int), xs = [.pd (worldQ p), .pd (.int m)] ∧ (p.ts.Pairwise fun a b => a.1 < b.1 ∨ (a.1 = b.1 ∧ a.2 < b.2)) ∧ p.ts.length ≤ 1000 ∧ Φ (.pd (oI (firstTell p.ts m))) st
def tellF (m : Int) : PyData → Option PyData
  | .tuple [.int i, .int j] => if j = m then some (.int i) else none
  | _ => none
theorem tellF_map (m : Int) : ∀ ts : List (Int × Int), (ts.map pairT).filterMap (tellF m) = ((ts.filter fun t => decide (t.2 = m)).map Prod.fst).map PyData.int
  | [] => rfl
  | (i, j) :: ts => by
    rw [List.map_cons, List.filterMap_cons, tellF_map m ts, List.filter_cons]
    by_cases h : j = m
    · rw [show tellF m (pairT (i, j)) = some (.int i) from if_pos h, if_pos (decide_eq_true h)]
      rfl
    · rw [show tellF m (pairT (i, j)) = none from if_neg h, if_neg (by simpa using h)]
theorem first_min {ts : List (Int × Int)} {m x : Int} (hp : ts.Pairwise fun a b => a.1 < b.1 ∨ (a.1 = b.1 ∧ a.2 < b.2)) (hm : x ∈ (ts.filter fun t => decide (t.2 = m)).map Prod.fst) (hl : ∀ y ∈ (ts.filter fun t => decide (t.2 = m)).map Prod.fst, x ≤ y) : firstTell ts m = some x := by
  unfold firstTell
  rw [← List.head?_filter]
  have hp2 := hp.filter (fun t => decide (t.2 = m))
  generalize ts.filter (fun t => decide (t.2 = m)) = l at hm hl hp2
  cases l with
  | nil => simp at hm
  | cons t l =>
    have h1 := hl t.1 (by simp)
    have h2 : t.1 ≤ x := by
      rw [List.map_cons] at hm
      rcases List.mem_cons.mp hm with e | hm
      · omega
      · obtain ⟨u, hu, e⟩ := List.mem_map.mp hm
        have := (List.pairwise_cons.mp hp2).1 u hu
        omega
    show some t.1 = some x
    rw [show t.1 = x by omega]
/-! _law_bits -/
def pre__law_bits : Pre := fun xs st Φ => ∃ (f l : Int), xs = [.pd (.int f), .pd (.int l)] ∧ 0 ≤ f ∧ f ≤ 1000000 ∧ l ≤ 1000000 ∧ Φ (.pd (.int ((bitsN f l : Nat) : Int))) st
/-! _law_sums -/
def pre__law_sums : Pre := fun xs st Φ => ∃ (ss : List Sec) (i j : Nat), xs = [.pd (.list (ss.map secD)), .pd (.int (i : Int)), .pd (.int (j : Int))] ∧ i ≤ j ∧ j ≤ ss.length ∧ ss.length ≤ 1000 ∧ Φ (.pd (.tuple [.int (sumLow ss i j), .int (sumHigh ss i j)])) st
theorem sec_filt (ss : List Sec) (f : PyData → Option PyData) (g : Sec → Int) (hf : ∀ s : Sec, f (secD s) = some (.int (g s))) : (ss.map secD).filterMap f = (ss.map g).map PyData.int := by
  induction ss with
  | nil => rfl
  | cons s ss ih => rw [List.map_cons, List.filterMap_cons, hf, ih]; rfl
def lowF : PyData → Option PyData
  | .tuple [.int a, .int b, .int c] => some (.int (a + c))
  | _ => none
def highF : PyData → Option PyData
  | .tuple [.int a, .int b, .int c] => some (.int b)
  | _ => none
/-! _law_pulled -/
def pre__law_pulled : Pre := fun xs st Φ => ∃ (m : Nat) (a b c : Int), xs = [.pd (.int (m : Int)), .pd (secD (a, b, c))] ∧ SecOk (a, b, c) ∧ ∀ n : Nat, (∀ x, bitS n x ↔ 0 ≤ x ∧ Pads a b c (bitS m) x) → Φ (.pd (.int (n : Int))) st
/-! _law_open -/
def pre__law_open : Pre := fun xs st Φ => ∃ (p : PlanQ) (t : Nat), xs = [.pd (worldQ p), .pd (.int (t : Int))] ∧ (p.ts.Pairwise fun a b => a.1 < b.1 ∨ (a.1 = b.1 ∧ a.2 < b.2)) ∧ p.ts.length ≤ 1000 ∧ t ≤ p.ss.length ∧ p.ss.length ≤ 60 ∧ Φ (.pd (.list ((openQ p t).map fun j : Nat => PyData.int (j : Int)))) st
def openUp (p : PlanQ) (t i : Nat) : List PyData := (((List.range i).map fun k => t + 1 + k).filter fun j : Nat => toldBy p.ts t (j : Int)).map fun j : Nat => PyData.int (j : Int)
theorem openUp_step (p : PlanQ) (t i : Nat) : openUp p t (i + 1) = openUp p t i ++ if toldBy p.ts t ((t + 1 + i : Nat) : Int) = true then [PyData.int ((t + 1 + i : Nat) : Int)] else [] := by
  unfold openUp
  rw [List.range_succ, List.map_append, List.filter_append, List.map_append]
  congr 1
  rw [List.map_cons, List.map_nil, List.filter_cons]
  split
  · rfl
  · rfl
theorem openUp_len (p : PlanQ) (t i : Nat) : (openUp p t i).length ≤ i := by
  unfold openUp
  rw [List.length_map]
  refine Nat.le_trans (List.length_filter_le _ _) ?_
  simp
/-! _law_groups -/
/-- a row of numbers, or None -/
def rowV : Option (List Int) → Val
  | none => .pd .none
  | some ks => .ob (tupO ks)
def rowD : Option (List Int) → PyData
  | none => .none
  | some ks => ksD ks
theorem rowD_eqv (a b : Option (List Int)) : PyData.eqv (rowD a) (rowD b) = decide (a = b) := by
  cases a with
  | none => cases b with
    | none => simp [rowD, PyData.eqv]
    | some y => simp [rowD, PyData.eqv]
  | some x => cases b with
    | none => simp [rowD, PyData.eqv]
    | some y =>
      show PyData.eqv (.tuple (x.map PyData.int)) (.tuple (y.map PyData.int)) = _
      rw [eqv_tuple, eqvAll_map (fun i j => by rw [eqv_int]; rfl)]
      simp
theorem rowD_sh (a : Option (List Int)) : SeqAt.shaped (rowD a) = true := by
  cases a with
  | none => exact shaped_none
  | some x => exact Sh.shaped (k := 1) (sh_tuple fun d hd => by
      obtain ⟨z, _, rfl⟩ := List.mem_map.mp hd
      exact sh_int _)
section
variable {K : PySem.W.Frag} {T : TabI} {st : Sto} {Φ : Val → Sto → Prop}
theorem wr_rowL {r : R2} {a : Option (List Int)} {y : Val} (h : WR K T r (.pd (rowD a)) y st Φ) : WR K T r (rowV a) y st Φ := by
  cases a with
  | none => exact h
  | some ks => exact wr_tupL h
theorem wr_rowR {r : R2} {a : Option (List Int)} {x : Val} (h : WR K T r x (.pd (rowD a)) st Φ) : WR K T r x (rowV a) st Φ := by
  cases a with
  | none => exact h
  | some ks => exact wr_tupR h
theorem wr_rowNe {a b : Option (List Int)} (q : Φ (.pd (.bool (!decide (a = b)))) st) : WR K T (rNeD K) (rowV a) (rowV b) st Φ := wr_rowL (wr_rowR (wr_neD rfl rfl (rowD_sh a) (rowD_sh b) (by rw [rowD_eqv]; exact q)))
theorem wr_rowNot {a : Option (List Int)} (q : Φ (.pd (.bool (!decide (a = none)))) st) : WR K T (fun x y H Q => y = .non ∧ Q (.bl (!decide (x = .non))) H) (rowV a) (.pd .none) st Φ := wr_rowL (wr_notN (by cases a <;> exact q))
end
theorem mark_filt (ms : List Nat) (f : PyData → Option PyData) (g : Nat → PyData) (h : ∀ j : Nat, f (.int (j : Int)) = some (g j)) : (ms.map fun j : Nat => PyData.int (j : Int)).filterMap f = ms.map g := by
  induction ms with
  | nil => rfl
  | cons j ms ih => rw [List.map_cons, List.filterMap_cons, h, ih]; rfl
theorem cells_at {p : PlanQ} {l : Int} (h0 : 0 ≤ l) (h1 : l ≤ (ceilsQ p).getD p.ss.length 0) : atI (((List.range ((ceilsQ p).getD p.ss.length 0 + 1).toNat).map fun (i : Nat) => cellQ p.ru (0 + (i : Int))).map PyData.int) l = some (.int (cellQ p.ru l)) := by
  obtain ⟨k, rfl⟩ := Int.eq_ofNat_of_zero_le h0
  refine atI_nat ?_
  rw [List.getElem?_map, List.getElem?_map, List.getElem?_range (by omega)]
  show some (PyData.int (cellQ p.ru (0 + (k : Int)))) = _
  rw [Int.zero_add]
/-- the marks' sums -/
def sumD (p : PlanQ) (t : Nat) (j : Nat) : PyData := .tuple [.int (sumLow p.ss t j), .int (sumHigh p.ss t j)]
theorem sum_filt (p : PlanQ) (t : Nat) (ms : List Nat) (f : PyData → Option PyData) (g : Nat → Int) (h : ∀ j, f (sumD p t j) = some (.int (g j))) : (ms.map (sumD p t)).filterMap f = (ms.map g).map PyData.int := by
  induction ms with
  | nil => rfl
  | cons j ms ih => rw [List.map_cons, List.filterMap_cons, h, ih]; rfl
def marksD (ms : List Nat) : PyData := .list (ms.map fun j : Nat => PyData.int (j : Int))
def cellsD (p : PlanQ) : PyData := .list (((List.range ((ceilsQ p).getD p.ss.length 0 + 1).toNat).map fun (i : Nat) => cellQ p.ru (0 + (i : Int))).map PyData.int)
def pre__law_groups (K : PySem.W.Frag) : Pre := fun xs st Φ => ∃ (p : PlanQ) (t : Nat) (ms : List Nat), xs = [.pd (worldQ p), .pd (.int (t : Int)), .pd (marksD ms), .pd (.int ((ceilsQ p).getD t 0)), .pd (cellsD p)] ∧
  (t ≤ p.ss.length ∧ p.ss.length ≤ 60) ∧ 0 ≤ p.s ∧ RulOk p.ru ∧ (∀ s ∈ p.ss, SecOk s) ∧ ms.length ≤ 60 ∧ (∀ j ∈ ms, t ≤ j ∧ j ≤ p.ss.length) ∧ (ceilsQ p).getD p.ss.length 0 ≤ 40000 ∧
  ∀ kvs : List (List Int × PyData), NV kvs → (∀ ks x, inK kvs ks x ↔ 0 ≤ x ∧ x ≤ (ceilsQ p).getD t 0 ∧ rowQ p.ru (sumLow p.ss t) (sumHigh p.ss t) ms x = some ks) → Φ (.ob (dicO K kvs)) st
/-! _law_wide_sets -/
def pre__law_wide_sets : Pre := fun xs st Φ => ∃ (p : PlanQ), xs = [.pd (worldQ p)] ∧ p.ss.length ≤ 60 ∧ 0 ≤ p.s ∧ RulOk p.ru ∧ (∀ s ∈ p.ss, SecOk s) ∧ ((p.ts.Pairwise fun a b => a.1 < b.1 ∨ (a.1 = b.1 ∧ a.2 < b.2)) ∧ p.ts.length ≤ 1000) ∧ (ceilsQ p).getD p.ss.length 0 ≤ 40000 ∧
  ∀ ns : List Nat, ns.length = p.ss.length + 1 → (∀ t, t ≤ p.ss.length → ∃ n, ns[t]? = some n ∧ SetB p t n) → Φ (.pd (.list (ns.map fun n : Nat => PyData.int (n : Int)))) st
theorem setB_last {p : PlanQ} (s0 : 0 ≤ p.s) (sec : ∀ s ∈ p.ss, SecOk s) : SetB p p.ss.length (bitsN 0 ((ceilsQ p).getD p.ss.length 0)) := fun x => by
  rw [bitS_bits (Int.le_refl _)]
  unfold Dq
  rw [Nat.sub_self]
  exact Iff.rfl
theorem inK_getD {kvs : List (List Int × PyData)} {ks : List Int} {n : Nat} (h : (valL kvs ks).getD (.int 0) = .int (n : Int)) (x : Int) : inK kvs ks x ↔ bitS n x := by
  unfold inK
  constructor
  · rintro ⟨m, hm, hx⟩
    rw [hm] at h
    injection h with h
    have h : m = n := Int.ofNat.inj h
    rw [← h]
    exact hx
  · intro hx
    cases e : valL kvs ks with
    | none =>
      rw [e] at h
      injection h with h
      have : n = 0 := by omega
      subst this
      exact absurd hx bitS_zero
    | some d =>
      rw [e] at h
      exact ⟨n, congrArg some h, hx⟩
theorem ceil_D (p : PlanQ) {t : Nat} (ht : t ≤ p.ss.length) : atI ((ceilsQ p).map PyData.int) (t : Int) = some (.int ((ceilsQ p).getD t 0)) := by
  refine atI_nat ?_
  have hl : t < (ceilsQ p).length := by
    unfold ceilsQ
    rw [ceil_len]
    omega
  rw [List.getElem?_map, List.getD_eq_getElem?_getD, List.getElem?_eq_getElem hl]
  rfl
/-- what the turns over the rows have gathered -/
def Gat (a b c : Int) (kvs after : List (List Int × PyData)) (n0 : Nat) (i : Nat) (n : Nat) : Prop := ∀ x, bitS n x ↔ ∃ k ks d, k < i ∧ kvs[k]? = some (ks, d) ∧ inK kvs ks x ∧ 0 ≤ x ∧ Pads a b c (fun y => inK after ks y ∧ bitS n0 y) x
theorem gat_zero {a b c : Int} {kvs after : List (List Int × PyData)} {n0 : Nat} : Gat a b c kvs after n0 0 0 := fun x => ⟨fun h => absurd h bitS_zero, fun ⟨k, _, _, h, _⟩ => absurd h (Nat.not_lt_zero _)⟩
theorem gat_done {p : PlanQ} (ok : RulOk p.ru) (sec : ∀ s ∈ p.ss, SecOk s) {t : Nat} {a b c : Int} (hs : p.ss[t]? = some (a, b, c)) {kvs after : List (List Int × PyData)} {n0 n : Nat}
    (h1 : ∀ ks x, inK kvs ks x ↔ 0 ≤ x ∧ x ≤ (ceilsQ p).getD t 0 ∧ rowQ p.ru (sumLow p.ss t) (sumHigh p.ss t) (openQ p t) x = some ks)
    (h2 : ∀ ks x, inK after ks x ↔ 0 ≤ x ∧ x ≤ (ceilsQ p).getD (t + 1) 0 ∧ rowQ p.ru (sumLow p.ss (t + 1)) (sumHigh p.ss (t + 1)) (openQ p t) x = some ks)
    (h3 : SetB p (t + 1) n0) (h : Gat a b c kvs after n0 kvs.length n) : SetB p t n := fun x => by
  rw [h, ← law_step ok sec hs]
  constructor
  · rintro ⟨k, ks, d, _, _, hi, x0, hp⟩
    exact ⟨ks, (h1 ks x).mp hi, x0, hp.congr fun y hy => ⟨(h2 ks y).mp hy.1, (h3 y).mp hy.2⟩⟩
  · rintro ⟨ks, hi, x0, hp⟩
    have hi := (h1 ks x).mpr hi
    obtain ⟨n', hv, _⟩ := id hi
    obtain ⟨k, hk⟩ := valL_mem hv
    exact ⟨k, ks, _, (List.getElem?_eq_some_iff.mp hk).1, hk, hi, x0, hp.congr fun y hy => ⟨(h2 ks y).mpr hy.1, (h3 y).mpr hy.2⟩⟩
/-! _law_plan_sets -/
/-- a set up to the top as bits -/
def SetT (p : PlanQ) (t : Nat) (n : Nat) : Prop := ∀ x, bitS n x ↔ Dq p t x ∧ x ≤ topQ p
def pre__law_plan_sets : Pre := fun xs st Φ => ∃ (p : PlanQ), xs = [.pd (worldQ p)] ∧ p.ss.length ≤ 60 ∧ 0 ≤ p.s ∧ RulOk p.ru ∧ (∀ s ∈ p.ss, SecOk s) ∧ ((p.ts.Pairwise fun a b => a.1 < b.1 ∨ (a.1 = b.1 ∧ a.2 < b.2)) ∧ p.ts.length ≤ 1000) ∧ (ceilsQ p).getD p.ss.length 0 ≤ 40000 ∧
  ∀ ns : List Nat, ns.length = p.ss.length + 1 → (∀ t, t ≤ p.ss.length → ∃ n, ns[t]? = some n ∧ SetT p t n) → Φ (.pd (.list (ns.map fun n : Nat => PyData.int (n : Int)))) st
def natF (f : Nat → Nat) : PyData → Option PyData
  | .int i => some (.int ((f i.toNat : Nat) : Int))
  | _ => none
theorem natF_map (f : Nat → Nat) (ns : List Nat) : (ns.map fun n : Nat => PyData.int (n : Int)).filterMap (natF f) = (ns.map f).map fun n : Nat => PyData.int (n : Int) := by
  induction ns with
  | nil => rfl
  | cons n ns ih => rw [List.map_cons, List.filterMap_cons, ih]; rfl
theorem nat_at {ns : List Nat} {i : Nat} {d : PyData} (h : (ns.map fun n : Nat => PyData.int (n : Int))[i]? = some d) : ∃ n, ns[i]? = some n ∧ d = .int (n : Int) := by
  rw [List.getElem?_map] at h
  cases e : ns[i]? with
  | none => rw [e] at h; cases h
  | some n => rw [e] at h; exact ⟨n, rfl, (Option.some.inj h).symm⟩
/-! _law_arcs_of -/
open Classical in
/-- the canonical arcs of the bits -/
noncomputable def arcsN (n : Nat) : List Seg := if h : ∃ F, SrtG 1 F ∧ ∀ x, memS F x ↔ bitS n x then h.choose else []
theorem arcsN_eq {n : Nat} {F : List Seg} (h1 : SrtG 1 F) (h2 : ∀ x, memS F x ↔ bitS n x) : arcsN n = F := by
  unfold arcsN
  have h : ∃ F, SrtG 1 F ∧ ∀ x, memS F x ↔ bitS n x := ⟨F, h1, h2⟩
  rw [dif_pos h]
  exact can_uniq h.choose_spec.1 h1 fun x => (h.choose_spec.2 x).trans (h2 x).symm
def pre__law_arcs_of : Pre := fun xs st Φ => ∃ n : Nat, xs = [.pd (.int (n : Int))] ∧ n < 2 ^ 100000 ∧ Φ (.pd (eSegs (arcsN n))) st
/-- the arcs of the lines below i; where the open one begins -/
structure ArcI (n : Nat) (i : Nat) (F : List Seg) (b : Option Int) : Prop where
  srt : SrtG 1 F
  len : F.length ≤ i
  no : b = none → (∀ x, memS F x ↔ bitS n x ∧ x < (i : Int)) ∧ ∀ y ∈ F, y.2 + 1 < (i : Int)
  yes : ∀ f, b = some f → (0 ≤ f ∧ f < (i : Int)) ∧ (∀ x, memS F x ↔ bitS n x ∧ x < f) ∧ (∀ y ∈ F, y.2 + 1 < f) ∧ ∀ x, f ≤ x → x < (i : Int) → bitS n x
theorem ArcI.init {n : Nat} : ArcI n 0 [] none := ⟨srt_nil, Nat.le_refl _, fun _ => ⟨fun x => ⟨fun h => absurd h memS_nil, fun h => by have := bitS_nn h.1; omega⟩, fun y hy => (by cases hy)⟩, fun f h => (by cases h)⟩
theorem ArcI.on {n i : Nat} {F : List Seg} (h : ArcI n i F none) (hb : bitS n i) : ArcI n (i + 1) F (some (i : Int)) := by
  obtain ⟨h1, h2⟩ := h.no rfl
  refine ⟨h.srt, Nat.le_succ_of_le h.len, fun e => (by cases e), fun f e => ?_⟩
  cases e
  exact ⟨⟨Int.natCast_nonneg _, by omega⟩, h1, h2, fun x x1 x2 => by rw [show x = (i : Int) by omega]; exact hb⟩
theorem ArcI.stay {n i : Nat} {F : List Seg} (h : ArcI n i F none) (hb : ¬ bitS n i) : ArcI n (i + 1) F none := by
  obtain ⟨h1, h2⟩ := h.no rfl
  refine ⟨h.srt, Nat.le_succ_of_le h.len, fun _ => ⟨fun x => ?_, fun y hy => by have := h2 y hy; omega⟩, fun f e => (by cases e)⟩
  rw [h1]
  constructor
  · rintro ⟨k1, k2⟩
    exact ⟨k1, by omega⟩
  · rintro ⟨k1, k2⟩
    by_cases e : x = (i : Int)
    · subst e
      exact absurd k1 hb
    · exact ⟨k1, by omega⟩
theorem ArcI.more {n i : Nat} {F : List Seg} {f : Int} (h : ArcI n i F (some f)) (hb : bitS n i) : ArcI n (i + 1) F (some f) := by
  obtain ⟨h1, h2, h3, h4⟩ := h.yes f rfl
  refine ⟨h.srt, Nat.le_succ_of_le h.len, fun e => (by cases e), fun f' e => ?_⟩
  cases e
  refine ⟨⟨h1.1, by omega⟩, h2, h3, fun x x1 x2 => ?_⟩
  by_cases e : x = (i : Int)
  · subst e
    exact hb
  · exact h4 x x1 (by omega)
theorem ArcI.off {n i : Nat} {F : List Seg} {f : Int} (h : ArcI n i F (some f)) (hb : ¬ bitS n i) : ArcI n (i + 1) (F ++ [(f, (i : Int) - 1)]) none := by
  obtain ⟨h1, h2, h3, h4⟩ := h.yes f rfl
  refine ⟨srt_snoc h.srt (by show f ≤ (i : Int) - 1; omega) fun y hy => h3 y hy, by rw [List.length_append]; exact Nat.succ_le_succ h.len, fun _ => ⟨fun x => ?_, fun y hy => ?_⟩, fun f' e => (by cases e)⟩
  · rw [memS_app, memS_one, h2]
    constructor
    · rintro (⟨k1, k2⟩ | ⟨k1, k2⟩)
      · exact ⟨k1, by omega⟩
      · have k1 : f ≤ x := k1
        have k2 : x ≤ (i : Int) - 1 := k2
        exact ⟨h4 x k1 (by omega), by omega⟩
    · rintro ⟨k1, k2⟩
      by_cases e : x < f
      · exact .inl ⟨k1, e⟩
      · refine .inr ⟨by show f ≤ x; omega, ?_⟩
        show x ≤ (i : Int) - 1
        by_cases e2 : x = (i : Int)
        · subst e2
          exact absurd k1 hb
        · omega
  · rcases List.mem_append.mp hy with hy | hy
    · have := h3 y hy
      omega
    · rw [List.mem_singleton.mp hy]
      show (i : Int) - 1 + 1 < ((i + 1 : Nat) : Int)
      omega
def oB : Option Int → PyData
  | none => .none
  | some i => .int i
/-! _law_bits_of -/
def bitsOf (F : List Seg) : Nat := F.foldl (fun n y => n ||| bitsN y.1 y.2) 0
theorem bitsOf_go : ∀ (F : List Seg) (n : Nat), (∀ y ∈ F, 0 ≤ y.1) → ∀ x, bitS (F.foldl (fun n y => n ||| bitsN y.1 y.2) n) x ↔ bitS n x ∨ memS F x
  | [], n, _, x => ⟨.inl, fun h => h.elim id fun h => absurd h memS_nil⟩
  | y :: F, n, h, x => by
    rw [List.foldl_cons, bitsOf_go F _ (fun z hz => h z (.tail _ hz)), bitS_or, bitS_bits (h y (.head _)), memS_cons]
    exact ⟨fun h => h.elim (fun h => h.elim .inl fun h => .inr (.inl h)) fun h => .inr (.inr h), fun h => h.elim (fun h => .inl (.inl h)) fun h => h.elim (fun h => .inl (.inr h)) .inr⟩
theorem bitsOf_spec {F : List Seg} (h : ∀ y ∈ F, 0 ≤ y.1) (x : Int) : bitS (bitsOf F) x ↔ memS F x := by
  unfold bitsOf
  rw [bitsOf_go F 0 h x]
  exact ⟨fun h => h.elim (fun h => absurd h bitS_zero) id, .inr⟩
def pre__law_bits_of : Pre := fun xs st Φ => ∃ (F : List Seg) (top : Int), xs = [.pd (eSegs F), .pd (.int top)] ∧ (∀ y ∈ F, 0 ≤ y.1 ∧ y.1 ≤ 1000000 ∧ y.2 ≤ 1000000) ∧ Φ (.pd (.int ((bitsOf F : Nat) : Int))) st
/-! _law_sets_told -/
def pre__law_sets_told : Pre := fun xs st Φ => ∃ (p : PlanQ), xs = [.pd (worldQ p)] ∧ QOk p ∧ p.r ≤ 1 ∧ cellQ p.ru (topQ p) ≤ 400 ∧ (ceilsQ p).getD p.ss.length 0 ≤ 40000 ∧
  ∀ ns : List Nat, ns.length = p.ss.length + 1 → (∀ t, t ≤ p.ss.length → ∃ n, ns[t]? = some n ∧ SetT p t n) → Φ (.pd (.list (ns.map fun n : Nat => PyData.int (n : Int)))) st
noncomputable def arcF : PyData → Option PyData
  | .int i => some (eSegs (arcsN i.toNat))
  | _ => none
theorem arcF_map (ns : List Nat) : (ns.map fun n : Nat => PyData.int (n : Int)).filterMap arcF = (ns.map arcsN).map fun S => eSegs S := by
  induction ns with
  | nil => rfl
  | cons n ns ih => rw [List.map_cons, List.filterMap_cons, ih]; rfl
theorem setT_lt {p : PlanQ} {t n : Nat} (h : SetT p t n) (hc : topQ p ≤ 40000) : n < 2 ^ 100000 := bitS_lt fun x hx => by
  have := ((h x).mp hx).2
  show x < ((100000 : Nat) : Int)
  omega
theorem sets_arcs {p : PlanQ} (ok : RulOk p.ru) (s0 : 0 ≤ p.s) (sec : ∀ s ∈ p.ss, SecOk s) {ns : List Nat} (hl : ns.length = p.ss.length + 1) (h : ∀ t, t ≤ p.ss.length → ∃ n, ns[t]? = some n ∧ SetT p t n) : ns.map arcsN = setsQ p := by
  obtain ⟨h1, h2⟩ := sets_spec ok s0 sec
  refine List.ext_getElem? fun t => ?_
  rw [List.getElem?_map]
  by_cases ht : t ≤ p.ss.length
  · obtain ⟨n, e1, e2⟩ := h t ht
    obtain ⟨B, e3, e4, e5⟩ := h2 t ht
    rw [e1, e3]
    show some (arcsN n) = some B
    rw [arcsN_eq e4 fun x => (e5 x).trans (e2 x).symm]
  · rw [List.getElem?_eq_none (by omega), List.getElem?_eq_none (by omega)]
    rfl
theorem sh_sets (S : List (List Seg)) : Sh 4 (.list (S.map fun S => eSegs S)) := sh_list fun d hd => by
  obtain ⟨z, _, rfl⟩ := List.mem_map.mp hd
  exact sh_list fun e he => by
    obtain ⟨y, _, rfl⟩ := List.mem_map.mp he
    exact sh_tuple fun f hf => by
      simp only [List.mem_cons, List.not_mem_nil, or_false] at hf
      rcases hf with rfl | rfl <;> exact sh_int _
def segsF : PyData → Option PyData := fun d => some (.int ((bitsOf (unS d) : Nat) : Int))
theorem segsF_map (S : List (List Seg)) : (S.map fun S => eSegs S).filterMap segsF = (S.map bitsOf).map fun n : Nat => PyData.int (n : Int) := by
  induction S with
  | nil => rfl
  | cons x S ih =>
    rw [List.map_cons, List.filterMap_cons, ih]
    show PyData.int ((bitsOf (unS (eSegs x)) : Nat) : Int) :: _ = _
    rw [unS_e]
    rfl
theorem none_map (S : List PyData) : S.filterMap (fun _ => (none : Option PyData)) = [] := by
  induction S with
  | nil => rfl
  | cons x S ih => rw [List.filterMap_cons, ih]
theorem segs_bd {p : PlanQ} {t : Nat} {B : List Seg} (h1 : SrtG 1 B) (h2 : ∀ x, memS B x ↔ Dq p t x ∧ x ≤ topQ p) : ∀ y ∈ B, 0 ≤ y.1 ∧ y.1 ≤ y.2 ∧ y.2 ≤ topQ p := fun y hy => by
  have h0 := h1.1 y hy
  have a := (h2 y.1).mp ⟨y, hy, Int.le_refl _, h0⟩
  have b := (h2 y.2).mp ⟨y, hy, h0, Int.le_refl _⟩
  exact ⟨Dn_nn a.1, h0, b.2⟩
theorem sets_at {S : List (List Seg)} {i : Nat} {d : PyData} (h : (S.map fun S => eSegs S)[i]? = some d) : ∃ B, S[i]? = some B ∧ d = eSegs B := by
  rw [List.getElem?_map] at h
  cases e : S[i]? with
  | none => rw [e] at h; cases h
  | some n => rw [e] at h; exact ⟨n, rfl, (Option.some.inj h).symm⟩
/-! _law_draw_ruler -/
structure Grow (st st' : Sto) (n : Nat) : Prop where
  len : st.length ≤ st'.length
  at_ : ∀ k, k < st.length → k ≠ n → st'[k]? = st[k]?
theorem Grow.refl {st : Sto} {n : Nat} : Grow st st n := ⟨Nat.le_refl _, fun _ _ _ => rfl⟩
theorem Grow.trans {a b c : Sto} {n : Nat} (h : Grow a b n) (g : Grow b c n) : Grow a c n := ⟨Nat.le_trans h.len g.len, fun k hk hn => (g.at_ k (Nat.lt_of_lt_of_le hk h.len) hn).trans (h.at_ k hk hn)⟩
theorem only_grow {a b : Sto} {n : Nat} (h : Only a b n) : Grow a b n := ⟨by rw [h.len]; exact Nat.le_refl _, fun k _ hn => h.at_ k hn⟩
theorem Grow.app {st jk : Sto} {n : Nat} : Grow st (st ++ jk) n := ⟨by simp, fun k hk _ => List.getElem?_append_left hk⟩
theorem Grow.set {st : Sto} {n k : Nat} {c : Cell} {st0 : Sto} (g : Grow st0 st n) (h : st0.length ≤ k) : Grow st0 (st.set k c) n := ⟨by rw [List.length_set]; exact g.len, fun i hi hn => by rw [List.getElem?_set_ne (by omega)]; exact g.at_ i hi hn⟩
theorem pur_lt {st : Sto} {n : Nat} (h : Pur st n) : n < st.length := by
  obtain ⟨_, _, _, e⟩ := h
  exact (List.getElem?_eq_some_iff.mp e).1
theorem pur_app {st jk : Sto} {n : Nat} (h : Pur st n) : Pur (st ++ jk) n := by
  obtain ⟨a, b, c, e⟩ := h
  exact ⟨a, b, c, by rw [List.getElem?_append_left (List.getElem?_eq_some_iff.mp e).1]; exact e⟩
theorem pur_set {st : Sto} {n k : Nat} {c : Cell} (h : Pur st n) (hk : k ≠ n) : Pur (st.set k c) n := by
  obtain ⟨x, y, z, e⟩ := h
  exact ⟨x, y, z, by rw [List.getElem?_set_ne hk]; exact e⟩
def RulDr : Rul → Prop
  | .pages H => 3 ≤ H ∧ H ≤ 9
  | .cells hs => hs.length ≤ 4 ∧ ∀ h ∈ hs, 1 ≤ h ∧ h ≤ 8
def pre__law_draw_ruler : Pre := fun xs st Φ => ∃ (n : Nat) (top : Int), xs = [.cell n, .pd (.int top)] ∧ Pur st n ∧ ∀ (ru : Rul) (st' : Sto), RulDr ru → Grow st st' n → Pur st' n → Φ (.pd (rulD ru)) st'
/-! _law_draw_section -/
def pre__law_draw_section : Pre := fun xs st Φ => ∃ (n : Nat) (wide : Int), xs = [.cell n, .pd (.int wide)] ∧ 0 ≤ wide ∧ wide ≤ 4 ∧ Pur st n ∧ ∀ (s : Sec) (st' : Sto), SecOk s → s.2.1 ≤ 8 → Only st st' n → Pur st' n → Φ (.pd (secD s)) st'
/-! _law_draw_tells -/
def pre__law_draw_tells : Pre := fun xs st Φ => ∃ (n : Nat) (many most share : Int), xs = [.cell n, .pd (.int many), .pd (.int most), .pd (.int share)] ∧ (0 ≤ many ∧ many ≤ 50) ∧ (0 < most ∧ most < 1000000) ∧ Pur st n ∧
  ∀ (ts : List (Int × Int)) (st' : Sto), TellsOk ts many → (ts.map Prod.snd).Nodup → (ts.length : Int) ≤ many → Grow st st' n → Pur st' n → Φ (.pd (.list (ts.map pairT))) st'
theorem nodup_of_snd {ts : List (Int × Int)} (h : (ts.map Prod.snd).Nodup) : ts.Nodup := by
  induction ts with
  | nil => exact List.nodup_nil
  | cons t ts ih =>
    rw [List.map_cons, List.nodup_cons] at h
    exact List.nodup_cons.mpr ⟨fun z => h.1 (List.mem_map.mpr ⟨t, z, rfl⟩), ih h.2⟩
theorem srt_lt {qs ts : List (Int × Int)} (hp : qs.Perm ts) (hn : ts.Nodup) (h : qs.Pairwise fun p q => SrtO.lexB q p = false) : qs.Pairwise fun a b => a.1 < b.1 ∨ (a.1 = b.1 ∧ a.2 < b.2) := by
  have h2 : qs.Nodup := hp.nodup_iff.mpr hn
  refine (h.and h2).imp ?_
  rintro ⟨a, b⟩ ⟨c, d⟩ ⟨h, hne⟩
  have h : ¬ (c < a ∨ (c = a ∧ d < b)) := fun z => by
    rw [(lexB_iff (c, d) (a, b)).mpr z] at h
    cases h
  show a < c ∨ (a = c ∧ b < d)
  by_cases e : a = c
  · by_cases e2 : b = d
    · subst e e2
      exact absurd rfl hne
    · omega
  · omega
/-! _law_draw_world -/
theorem rulDr_ok {ru : Rul} (h : RulDr ru) : RulOk ru := by
  cases ru with
  | pages H =>
    obtain ⟨h1, h2⟩ := h
    exact ⟨by omega, by omega⟩
  | cells hs =>
    obtain ⟨h1, h2⟩ := h
    refine ⟨by omega, fun x hx => ?_⟩
    have := h2 x hx
    omega
theorem snd_inj {ts : List (Int × Int)} (h : (ts.map Prod.snd).Nodup) {a b : Int × Int} (ha : a ∈ ts) (hb : b ∈ ts) (e : a.2 = b.2) : a = b := by
  induction ts with
  | nil => cases ha
  | cons t ts ih =>
    rw [List.map_cons, List.nodup_cons] at h
    rcases List.mem_cons.mp ha with ea | ha' <;> rcases List.mem_cons.mp hb with eb | hb'
    · rw [ea, eb]
    · subst ea
      exact absurd (List.mem_map.mpr ⟨b, hb', e.symm⟩) h.1
    · subst eb
      exact absurd (List.mem_map.mpr ⟨a, ha', e⟩) h.1
    · exact ih h.2 ha' hb'
/-- what is drawn -/
structure Drawn (p : PlanQ) (many : Int) : Prop where
  ok : QOk p
  r : p.r = 1
  len : (p.ss.length : Int) = many
  s : p.s ≤ 11
  ru : RulDr p.ru
  sec : ∀ s ∈ p.ss, s.2.1 ≤ 8
  tn : (p.ts.length : Int) ≤ many + 1
def pre__law_draw_world : Pre := fun xs st Φ => ∃ (n : Nat) (many : Int), xs = [.cell n, .pd (.int many)] ∧ (0 ≤ many ∧ many ≤ 50) ∧ Pur st n ∧ ∀ (p : PlanQ) (st' : Sto), Drawn p many → Grow st st' n → Pur st' n → Φ (.pd (worldQ p)) st'
end K75

namespace K75
open PySem L2 Ct Kp Kq PyProof.Rows
/-! _law_section_put -/
def putS (p : PlanQ) (i : Nat) (s : Sec) : PlanQ := ⟨p.s, p.ru, 1, p.ss.take i ++ [s] ++ p.ss.drop (i + 1), p.ts⟩
def pre__law_section_put : Pre := fun xs st Φ => ∃ (p : PlanQ) (i : Nat) (s : Sec), xs = [.pd (worldQ p), .pd (.int (i : Int)), .pd (secD s)] ∧ i < p.ss.length ∧ p.ss.length ≤ 60 ∧ Φ (.pd (worldQ (putS p i s))) st
theorem cut_from (ds : List PyData) (j : Nat) (h : j ≤ ds.length) : Ct.cutD ds (some (j : Int)) none = ds.drop j := by
  unfold Ct.cutD
  rw [HT.sIx_nat, HT.sIx_none, Nat.min_eq_left h]
  exact List.take_of_length_le (by rw [List.length_drop]; exact Nat.le_refl _)
/-! _law_tells_put -/
def putT (p : PlanQ) (us : List (Int × Int)) : PlanQ := ⟨p.s, p.ru, 1, p.ss, us⟩
def pre__law_tells_put : Pre := fun xs st Φ => ∃ (p : PlanQ) (us : List (Int × Int)), xs = [.pd (worldQ p), .pd (.list (us.map pairT))] ∧ us.Nodup ∧ us.length ≤ 1000 ∧ ∀ qs : List (Int × Int), qs.Perm us → (qs.Pairwise fun a b => a.1 < b.1 ∨ (a.1 = b.1 ∧ a.2 < b.2)) → Φ (.pd (worldQ (putT p qs))) st
/-! _law_new_tells -/
def pre__law_new_tells : Pre := fun xs st Φ => ∃ (p : PlanQ), xs = [.pd (worldQ p)] ∧ p.ss.length ≤ 60 ∧ p.ts.length ≤ 1000 ∧ ∀ us : List (Int × Int), us.length ≤ 3600 → (∀ t ∈ us, 0 ≤ t.1 ∧ t.1 < t.2 ∧ t.2 ≤ p.ss.length ∧ t ∉ p.ts) → Φ (.pd (.list (us.map pairT))) st
theorem pair_eqv (a b : Int × Int) : PyData.eqv (pairT a) (pairT b) = decide (a = b) := by
  obtain ⟨a1, a2⟩ := a
  obtain ⟨b1, b2⟩ := b
  show PyData.eqv (.tuple [.int a1, .int a2]) (.tuple [.int b1, .int b2]) = _
  rw [eqv_tuple, eqvAll_cons, eqvAll_cons, eqvAll_nil, eqv_int, eqv_int, Bool.and_true]
  by_cases h1 : a1 = b1 <;> by_cases h2 : a2 = b2 <;> simp [h1, h2]
theorem pair_any (ts : List (Int × Int)) (t : Int × Int) : ((ts.map pairT).any fun z => PyData.eqv z (pairT t)) = decide (t ∈ ts) := by
  induction ts with
  | nil => rfl
  | cons x ts ih =>
    rw [List.map_cons, List.any_cons, ih, pair_eqv]
    by_cases h : x = t
    · subst h
      simp
    · have h2 : ¬ t = x := fun z => h z.symm
      simp [h, h2]
def newF (p : PlanQ) (i : Nat) : List (Int × Int) := (((List.range (p.ss.length - i)).map fun k : Nat => ((i : Int), ((i + 1 + k : Nat) : Int))).filter fun t => !decide (t ∈ p.ts))
theorem newF_map (p : PlanQ) (i : Nat) : ((List.range (p.ss.length - i)).filterMap fun k => if decide (((i : Int), ((i + 1 + k : Nat) : Int)) ∈ p.ts) = true then none else some (pairT ((i : Int), ((i + 1 + k : Nat) : Int)))) = (newF p i).map pairT := by
  unfold newF
  generalize List.range (p.ss.length - i) = l
  induction l with
  | nil => rfl
  | cons k l ih =>
    rw [List.filterMap_cons, List.map_cons, List.filter_cons, ih]
    by_cases h : ((i : Int), ((i + 1 + k : Nat) : Int)) ∈ p.ts
    · rw [decide_eq_true h]
      rfl
    · rw [decide_eq_false h]
      rfl
theorem newF_spec {p : PlanQ} {i : Nat} : ∀ t ∈ newF p i, 0 ≤ t.1 ∧ t.1 < t.2 ∧ t.2 ≤ p.ss.length ∧ t ∉ p.ts := fun t ht => by
  unfold newF at ht
  obtain ⟨h1, h2⟩ := List.mem_filter.mp ht
  obtain ⟨k, hk, rfl⟩ := List.mem_map.mp h1
  have := List.mem_range.mp hk
  refine ⟨by dsimp only; omega, by dsimp only; omega, by dsimp only; omega, ?_⟩
  simpa using h2
theorem newF_len {p : PlanQ} {i : Nat} : (newF p i).length ≤ p.ss.length := by
  unfold newF
  refine Nat.le_trans (List.length_filter_le _ _) ?_
  simp
/-! _law_no_less -/
def pre__law_no_less : Pre := fun xs st Φ => ∃ (gs ns : List Nat) (top : Int), xs = [.pd (.list (gs.map fun n : Nat => PyData.int (n : Int))), .pd (.list (ns.map fun n : Nat => PyData.int (n : Int))), .pd (.int top)] ∧ (0 ≤ top ∧ top ≤ 1000000) ∧ ns.length = gs.length ∧ ns.length ≤ 1000 ∧
  (∀ (t n m : Nat), ns[t]? = some n → gs[t]? = some m → ∀ x, bitS n x → x ≤ top → bitS m x) ∧ Φ (.pd (.bool true)) st
/-! law -/
def pre_law : Pre := fun xs st Φ => ∃ ns : List Int, xs = [.pd (.list (ns.map PyData.int))] ∧ ns.length ≤ 63 ∧ ∀ st', Φ (.pd (.bool true)) st'
theorem purse_pur {st : Sto} {n : Nat} {a b c : Int} (h : st[n]? = some (.mu [.int a, .int b, .int c])) : Pur st n := ⟨a, b, c, h⟩
theorem put_mem {l : List Sec} {i : Nat} {s x : Sec} (h : x ∈ l.take i ++ [s] ++ l.drop (i + 1)) : x = s ∨ x ∈ l := by
  rcases List.mem_append.mp h with h | h
  · rcases List.mem_append.mp h with h | h
    · exact .inr (List.mem_of_mem_take h)
    · exact .inl (List.mem_singleton.mp h)
  · exact .inr (List.mem_of_mem_drop h)
theorem put_len {l : List Sec} {i : Nat} {s : Sec} (h : i < l.length) : (l.take i ++ [s] ++ l.drop (i + 1)).length = l.length := by
  simp
  omega
theorem put_sum {l : List Sec} {i : Nat} {s s' : Sec} (h : l[i]? = some s) (f : Sec → Int) : ((l.take i ++ [s'] ++ l.drop (i + 1)).map f).sum = (l.map f).sum - f s + f s' := by
  obtain ⟨hi, e⟩ := List.getElem?_eq_some_iff.mp h
  have e2 : l = l.take i ++ [s] ++ l.drop (i + 1) := by
    conv => lhs; rw [← List.take_append_drop i l]
    rw [List.drop_eq_getElem_cons hi, e]
    simp
  have e3 : (l.map f).sum = ((l.take i ++ [s] ++ l.drop (i + 1)).map f).sum := by rw [← e2]
  rw [e3]
  simp only [List.map_append, List.sum_append, List.map_cons, List.map_nil, List.sum_cons, List.sum_nil]
  omega
theorem putS_ok {p : PlanQ} (ok : QOk p) {i : Nat} {s : Sec} (hi : i < p.ss.length) (hs : SecOk s) : QOk (putS p i s) := {
  s0 := ok.s0
  s1 := ok.s1
  ru := ok.ru
  r1 := (by show (1 : Int) ≤ 1; omega)
  r2 := (by show (1 : Int) ≤ 10; omega)
  sn := (by show (p.ss.take i ++ [s] ++ p.ss.drop (i + 1)).length ≤ 60; rw [put_len hi]; exact ok.sn)
  tn := ok.tn
  sec := fun x hx => (put_mem hx).elim (fun e => by rw [e]; exact hs) (ok.sec x)
  tel := fun t ht => by
    show 0 ≤ t.1 ∧ t.1 < t.2 ∧ t.2 ≤ ((p.ss.take i ++ [s] ++ p.ss.drop (i + 1)).length : Int)
    rw [put_len hi]
    exact ok.tel t ht
  srt := ok.srt }
theorem putT_ok {p : PlanQ} (ok : QOk p) {us : List (Int × Int)} (h1 : us.length ≤ 60) (h2 : ∀ t ∈ us, 0 ≤ t.1 ∧ t.1 < t.2 ∧ t.2 ≤ p.ss.length) (h3 : us.Pairwise fun a b => a.1 < b.1 ∨ (a.1 = b.1 ∧ a.2 < b.2)) : QOk (putT p us) := {
  s0 := ok.s0
  s1 := ok.s1
  ru := ok.ru
  r1 := (by show (1 : Int) ≤ 1; omega)
  r2 := (by show (1 : Int) ≤ 10; omega)
  sn := ok.sn
  tn := h1
  sec := ok.sec
  tel := h2
  srt := h3 }
theorem nine_sum : ∀ {l : List Sec}, (∀ s ∈ l, SecOk s ∧ s.2.1 ≤ 9) → (l.map fun s => s.2.1 + s.2.2).sum ≤ 18 * (l.length : Int)
  | [], _ => by simp
  | s :: l, h => by
    have ih := nine_sum (l := l) fun x hx => h x (.tail _ hx)
    obtain ⟨⟨h1, h2, h3, h4, h5⟩, h6⟩ := h s (.head _)
    rw [List.map_cons, List.sum_cons, List.length_cons]
    omega
theorem small_bd {p : PlanQ} (ok : QOk p) (hs : p.s ≤ 11) (hn : p.ss.length ≤ 10) (h9 : ∀ s ∈ p.ss, s.2.1 ≤ 9) : cellQ p.ru (topQ p) ≤ 400 ∧ (ceilsQ p).getD p.ss.length 0 ≤ 40000 ∧ topQ p ≤ 200 := by
  have h1 := nine_sum (l := p.ss) fun s hm => ⟨ok.sec s hm, h9 s hm⟩
  have h0 := top_nn ok.s0 ok.sec
  have ht : topQ p ≤ 191 := by
    unfold topQ
    omega
  have hc := cell_le ok.ru h0
  have e : (ceilsQ p).getD p.ss.length 0 = topQ p + (p.ss.map fun s => s.2.1 + s.2.2).sum := by
    unfold ceilsQ
    rw [ceil_at _ _ _ (Nat.le_refl _), List.take_length]
  omega
theorem top_putS {p : PlanQ} {i : Nat} {s s' : Sec} (h : p.ss[i]? = some s) : topQ (putS p i s') = topQ p - (s.2.1 + s.2.2) + (s'.2.1 + s'.2.2) := by
  unfold topQ putS
  dsimp only
  rw [put_sum h]
  omega
theorem open_putS {p : PlanQ} {i : Nat} {s : Sec} (hi : i < p.ss.length) (t : Nat) : openQ (putS p i s) t = openQ p t := by
  unfold openQ putS
  dsimp only
  rw [put_len hi]
theorem Es.put' {l : List Sec} {i : Nat} {s s' : Sec} (h : l[i]? = some s) (e : s'.1 = s.1 ∧ s.2.1 ≤ s'.2.1 ∧ s'.2.2 ≤ s.2.2) : Es (l.take i ++ [s'] ++ l.drop (i + 1)) l := by
  induction l generalizing i with
  | nil => simp at h
  | cons x l ih =>
    cases i with
    | zero =>
      simp at h
      subst h
      exact .cons e (Es.refl l)
    | succ i =>
      simp at h
      exact .cons ⟨rfl, Int.le_refl _, Int.le_refl _⟩ (ih h)
theorem mono_pad {p : PlanQ} (ok : QOk p) {i : Nat} {a b c : Int} (hs : p.ss[i]? = some (a, b, c)) (hso : SecOk (a, b, c + 1)) {t : Nat} {x : Int} (h : Dq p t x) : Dq (putS p i (a, b, c + 1)) t x :=
  have hi := (List.getElem?_eq_some_iff.mp hs).1
  Dq_mono (p := p) (q := putS p i (a, b, c + 1)) ok.ru rfl (Es.put hs ⟨rfl, Int.le_refl _, by show c ≤ c + 1; omega⟩) (putS_ok ok hi hso).sec (fun t j hj => by rw [open_putS hi] at hj; exact hj) t x h
theorem mono_free {p : PlanQ} (ok : QOk p) {i : Nat} {a b c : Int} (hs : p.ss[i]? = some (a, b, c)) {t : Nat} {x : Int} (h : Dq (putS p i (a, b + 1, c)) t x) : Dq p t x :=
  have hi := (List.getElem?_eq_some_iff.mp hs).1
  Dq_mono (p := putS p i (a, b + 1, c)) (q := p) ok.ru rfl (Es.put' hs ⟨rfl, by show b ≤ b + 1; omega, Int.le_refl _⟩) ok.sec (fun t j hj => by rw [open_putS hi]; exact hj) t x h
theorem mono_less {p : PlanQ} (ok : QOk p) {us : List (Int × Int)} (h : ∀ u ∈ us, u ∈ p.ts) {t : Nat} {x : Int} (hx : Dq p t x) : Dq (putT p us) t x :=
  Dq_mono (p := p) (q := putT p us) ok.ru rfl (Es.refl _) ok.sec (fun t => open_mono (p := p) (q := putT p us) rfl ok.srt h t) t x hx
theorem mono_more {p : PlanQ} (ok : QOk p) {us : List (Int × Int)} (srt : us.Pairwise fun a b => a.1 < b.1 ∨ (a.1 = b.1 ∧ a.2 < b.2)) (h : ∀ u ∈ p.ts, u ∈ us) {t : Nat} {x : Int} (hx : Dq (putT p us) t x) : Dq p t x :=
  Dq_mono (p := putT p us) (q := p) ok.ru rfl (Es.refl _) ok.sec (fun t => open_mono (p := putT p us) (q := p) rfl srt h t) t x hx
/-- sets of two plans, told one by one -/
structure SetsOf (p : PlanQ) (ns : List Nat) : Prop where
  len : ns.length = p.ss.length + 1
  at_ : ∀ t, t ≤ p.ss.length → ∃ n, ns[t]? = some n ∧ SetT p t n
theorem sets_le {p q : PlanQ} {ms gs : List Nat} (hm : SetsOf p ms) (hg : SetsOf q gs) (hl : p.ss.length = q.ss.length) {top : Int} (h : ∀ t x, Dq p t x → x ≤ topQ p → x ≤ top → Dq q t x ∧ x ≤ topQ q) (t n m : Nat) (hn : ms[t]? = some n) (hmm : gs[t]? = some m) (x : Int) (hx : bitS n x) (ht : x ≤ top) : bitS m x := by
  have htl : t ≤ p.ss.length := by
    have := (List.getElem?_eq_some_iff.mp hn).1
    have := hm.len
    omega
  obtain ⟨n', e1, h1⟩ := hm.at_ t htl
  obtain ⟨m', e2, h2⟩ := hg.at_ t (by omega)
  rw [hn] at e1
  rw [hmm] at e2
  cases e1
  cases e2
  obtain ⟨k1, k2⟩ := (h1 x).mp hx
  exact (h2 x).mpr (h t x k1 k2 ht)
/-- the sections that may have a line more of pad -/
def wideB (p : PlanQ) (i : Nat) : Bool := match p.ss[i]? with | some s => decide (s.2.2 < s.2.1 - s.1) | none => false
def wideI (p : PlanQ) : List Nat := (List.range p.ss.length).filter (wideB p)
theorem filt_if {α β : Type} (b : α → Bool) (g : α → β) (l : List α) : (l.filterMap fun i => if b i = true then some (g i) else none) = (l.filter b).map g := by
  induction l with
  | nil => rfl
  | cons i l ih =>
    rw [List.filterMap_cons, List.filter_cons, ih]
    by_cases h : b i = true
    · rw [if_pos h, if_pos h]
      rfl
    · rw [if_neg h, if_neg h]
theorem wideI_spec {p : PlanQ} {i : Nat} (h : i ∈ wideI p) : ∃ s, p.ss[i]? = some s ∧ s.2.2 < s.2.1 - s.1 := by
  unfold wideI at h
  have h := (List.mem_filter.mp h).2
  unfold wideB at h
  cases e : p.ss[i]? with
  | none => rw [e] at h; cases h
  | some s =>
    rw [e] at h
    exact ⟨s, rfl, of_decide_eq_true h⟩
theorem wideI_len (p : PlanQ) : (wideI p).length ≤ p.ss.length := by
  unfold wideI
  refine Nat.le_trans (List.length_filter_le _ _) ?_
  simp
theorem sh_nats (ns : List Nat) : SeqAt.shaped (.list (ns.map fun n : Nat => PyData.int (n : Int))) = true := Sh.shaped (k := 1) (sh_list fun d hd => by
  obtain ⟨z, _, rfl⟩ := List.mem_map.mp hd
  exact sh_int _)
end K75

namespace K75
open PySem L2 Ct Kp Kq PyProof.Rows
section
variable {P : Program} {w : World} {K : PySem.W.Frag} {mg : Str → Option Value} {base : Heap} {T : TabI} {TN : List NdefX.NTab} {C_Plan C_Play C_Ruler : Addr}
local macro_rules | `(tactic| walk_at "we") => `(tactic| first
  | (with_reducible refine we_var (by with_unfolding_all rfl) ?_) | (with_reducible refine we_c (by with_unfolding_all rfl) ?_) | (with_reducible refine we_op ?_) | (with_reducible refine we_un ?_) | (with_reducible refine we_call ?_) | (with_reducible refine we_cb ?_) | (with_reducible refine we_tup ?_)
  | (with_reducible refine we_if ?_) | (with_reducible refine we_chain ?_) | (with_reducible refine we_andV ?_) | (with_reducible refine we_orV ?_) | (with_reducible refine we_notV ?_) | (with_reducible refine we_lst ?_) | (with_reducible refine we_slL ?_) | (with_reducible refine we_ty ?_))
local macro_rules | `(tactic| walk_at "wr") => `(tactic| first
  | (with_reducible refine wr_ixuT (by with_unfolding_all rfl) ?_) | (with_reducible refine wr_ixuL (by first | exact look_end | with_unfolding_all rfl) (by with_unfolding_all rfl) ?_) | (with_reducible refine wr_addI ?_) | (with_reducible refine wr_sub ?_) | (with_reducible refine wr_lt ?_) | (with_reducible refine wr_le ?_)
  | (with_reducible refine wr_mod (by omega) ?_) | (with_reducible refine wr_div (by omega) ?_) | (with_reducible refine wr_mul (by unfold CMul; omega) ?_) | (with_reducible refine wr_eqInt ?_) | (with_reducible refine wr_neInt ?_) | (with_reducible refine wr_eqStr (by decide +kernel) (by decide +kernel) ?_)
  | (with_reducible refine wr_neStr (by decide +kernel) (by decide +kernel) ?_) | (with_reducible refine wr_ip ?_) | (with_reducible refine wr_I0 (by with_unfolding_all rfl) ?_) | (with_reducible refine wr_isN ?_) | (with_reducible refine wr_notN ?_))
local macro_rules | `(tactic| walk_at "ws") => `(tactic| first
  | (with_reducible refine ws_sA ?_) | (with_reducible refine ws_sD ?_) | (with_reducible refine ws_sG (by with_unfolding_all rfl) ?_) | (with_reducible refine ws_sS ?_) | (with_reducible refine ws_asg ?_) | (with_reducible refine ws_retEnd (by with_unfolding_all rfl) ?_) | (with_reducible refine ws_ret ?_) | (with_reducible refine ws_if ?_)
  | (with_reducible refine ws_appEnd (by with_unfolding_all rfl) (by first | omega | (simp only [List.length_map, List.length_append, List.length_cons, List.length_nil] <;> omega)) ?_) | (with_reducible refine ws_drop ?_) | (with_reducible refine ws_next ?_) | (with_reducible refine ws_brk ?_) | (with_reducible refine ws_cont ?_) | (with_reducible refine ws_aug (by with_unfolding_all rfl) ?_))
local macro_rules | `(tactic| walk_at "wt") => `(tactic| first
  | (with_reducible refine wt_test ?_) | (with_reducible refine wt_B ?_) | (with_reducible refine wt_and ?_) | (with_reducible refine wt_or ?_) | (with_reducible refine wt_not ?_) | (with_reducible refine wt_yes ?_))
local macro_rules | `(tactic| walk_at "wc") => `(tactic| first
  | (with_reducible refine wc_abs ?_) | (with_reducible refine wc_int ?_) | (with_reducible refine wc_max2 ?_) | (with_reducible refine wc_min2 ?_) | (with_reducible refine wc_len (by first | exact look_end | with_unfolding_all rfl) ?_))
local macro_rules | `(tactic| walk_at "wg") => `(tactic| first
  | (with_reducible refine wg_name ?_) | (with_reducible refine wg_tup (by with_unfolding_all rfl) ?_) | (with_reducible refine wg_orT (by with_unfolding_all rfl) ?_) | (with_reducible refine wg_orL (by with_unfolding_all rfl) ?_))
local macro_rules | `(tactic| walk_at "wx") => `(tactic| first
  | (with_reducible refine ⟨_, _, (by (repeat apply purs_cons); exact purs_nil), (by simp only [List.length_cons, List.length_nil]; decide +kernel), ?_⟩)
  | (with_reducible refine ⟨_, (by with_unfolding_all rfl), ?_⟩) | (with_reducible refine ⟨_, _, (by with_unfolding_all rfl), (by with_unfolding_all rfl), ?_⟩))
local macro_rules | `(tactic| walk_at "e") => `(tactic| first
  | ((with_reducible show Ct.WE _ _ _ _ _ _); walk_at "we") | ((with_reducible show Ct.WR _ _ _ _ _ _ _); walk_at "wr") | ((with_reducible show Ct.WA _ _ _ _ _ _); first | (with_reducible refine wa_cons ?_) | (with_reducible refine wa_nil ?_))
  | ((with_reducible show Ct.WS _ _ _ _ _ _); walk_at "ws") | ((with_reducible show Ct.WT _ _ _ _ _ _); walk_at "wt") | ((with_reducible show Ct.WC _ _ _ _ _ _); walk_at "wc") | ((with_reducible show Ct.WG _ _ _ _ _ _ _); walk_at "wg")
  | ((with_reducible show Ct.WGs _ _ _ _ _ _ _); first | (with_reducible refine wgs_consM ?_) | (with_reducible refine wgs_nilM ?_)) | ((with_reducible show Ct.WO _ _ _ _ _ _); first | (with_reducible refine wo_none ?_) | (with_reducible refine wo_part ?_))
  | (with_reducible refine wu_neg ?_) | ((with_reducible show Exists _); walk_at "wx"))
local macro_rules | `(tactic| walk_at "s") => `(tactic| repeat walk_at "e")
local macro_rules | `(tactic| walk_at "f") => `(tactic| (refine ws_seq ?_; repeat walk_at "e"))
local macro_rules | `(tactic| walk_at "c") => `(tactic| ((refine ws_seq (ws_asg (we_lstC ?_))); (repeat walk_at "e")))
local macro_rules | `(tactic| walk_at "g") => `(tactic| repeat (first | walk_at "e" | (with_reducible refine ws_seq (ws_if ?_))))
local macro_rules | `(tactic| walk_at "n") => `(tactic| ((repeat (with_reducible refine putG_lt ?_)); exact Nat.zero_lt_succ _))
/-! ### is_whole -/
abbrev N_is_whole : List Str := ["value"]
theorem sc_is_whole : FnScope N_is_whole ["value"] (defScope s_is_whole) := ⟨rfl, rfl, rfl, by decide +kernel, rfl, by decide +kernel, by decide +kernel⟩
theorem ok_is_whole (Z : Zs mg) (dd : Df K mg "is_whole" s_is_whole) : Cal P w K mg base 1 "is_whole" ["value"] (spP K T 1 pre_is_whole) := by
  refine dd.cal (fun f fd F => F.ok sc_is_whole (fun vs H Q E h => spP_len h) fun cdv A outer s H vs Q E hr h => ?_) (fun _ _ _ _ _ _ us hl => match us, hl with | [_], _ => rfl)
  have nd := sc_is_whole.nd
  have hu := room_u hr
  refine ⟨_, (pss_one (ps_ret (pe_and (pe_callB (call_isiK (K := K) rfl) (by rfl) Z.isinstance boot_isinstance (pa_cons (pv 0) (pa_cons (pe_tyN (by rfl) Z.int_ boot_int) pa_nil))) (pe_one (pe_not (pe_callB (call_isiK (K := K) rfl) (by rfl) Z.isinstance boot_isinstance (pa_cons (pv 0) (pa_cons (pe_tyN (by rfl) Z.bool_ boot_bool) pa_nil)))))))), fn_run h ?_⟩
  intro xs st Φ hl hp
  clear hl h hu hr nd
  try dsimp only [L2.cxOf, NdefX.ncx]
  obtain ⟨d, rfl, ⟨i, rfl⟩, q⟩ := hp
  refine ws_ret (we_andV (we_cb (wa_cons (we_var rfl (wa_cons (we_ty (wa_nil (wc_isi rfl rfl ?_))))))))
  refine ⟨_, rfl, fun _ => we_notV (we_cb (wa_cons (we_var rfl (wa_cons (we_ty (wa_nil (wc_isi rfl rfl ?_))))))), fun h => by cases h⟩
  exact ⟨_, rfl, fin_pd (by simp) q⟩
/-! ### whole_from -/
abbrev N_whole_from : List Str := ["value", "least"]
theorem sc_whole_from : FnScope N_whole_from ["value", "least"] (defScope s_whole_from) := ⟨rfl, rfl, rfl, by decide +kernel, rfl, by decide +kernel, by decide +kernel⟩
theorem ok_whole_from (c_is_whole : Cal P w K mg base 1 "is_whole" ["value"] (spP K T 1 pre_is_whole)) (dd : Df K mg "whole_from" s_whole_from) : Cal P w K mg base 2 "whole_from" ["value", "least"] (spP K T 2 pre_whole_from) := by
  refine dd.cal (fun f fd F => F.ok sc_whole_from (fun vs H Q E h => spP_len h) fun cdv A outer s H vs Q E hr h => ?_) (fun _ _ _ _ _ _ us hl => match us, hl with | [_, _], _ => rfl)
  have nd := sc_whole_from.nd
  have hu := room_u hr
  refine ⟨_, (pss_one (ps_ret (pe_and (pe_callC c_is_whole (hr.mono (by decide)) (by rfl) (pa_cons (pv 0) pa_nil)) (pe_one (pe_cmpR op_ge (pv 0) (pv 1) (nomark _)))))), fn_run h ?_⟩
  intro xs st Φ hl hp
  clear hl h hu hr nd
  try dsimp only [L2.cxOf, NdefX.ncx]
  obtain ⟨i, j, rfl, q⟩ := hp
  refine ws_ret (we_andV (we_call (wa_cons (we_var rfl (wa_nil ⟨rfl, _, rfl, ⟨_, rfl⟩, ?_⟩)))))
  refine ⟨_, rfl, fun _ => we_op (we_var rfl (we_var rfl (wr_I0 rfl ?_))), fun h => by cases h⟩
  exact fin_pd (by simp) q
/-! ### check_most -/
abbrev N_check_most : List Str := ["what", "many", "most"]
theorem sc_check_most : FnScope N_check_most ["what", "many", "most"] (defScope s_check_most) := ⟨rfl, rfl, rfl, by decide +kernel, rfl, by decide +kernel, by decide +kernel⟩
theorem ok_check_most (c_is_whole : Cal P w K mg base 1 "is_whole" ["value"] (spP K T 1 pre_is_whole)) (dd : Df K mg "check_most" s_check_most) : Cal P w K mg base 2 "check_most" ["what", "many", "most"] (spP K T 3 pre_check_most) := by
  refine dd.cal (fun f fd F => F.ok sc_check_most (fun vs H Q E h => spP_len h) fun cdv A outer s H vs Q E hr h => ?_) (fun _ _ _ _ _ _ us hl => match us, hl with | [_, _, _], _ => rfl)
  have nd := sc_check_most.nd
  have hu := room_u hr
  refine ⟨_, (pss_one (ps_if (PW.pt (pw_and (pt_val (pe_callC c_is_whole (hr.mono (by decide)) (by rfl) (pa_cons (pv 1) pa_nil))) (pw_and1 (pt_cmpR op_gt (pv 1) (pv 2) (nomark _))))) (pss_one ps_never) pss_nil)), fn_run h ?_⟩
  intro xs st Φ hl hp
  clear hl h hu hr nd
  try dsimp only [L2.cxOf, NdefX.ncx]
  obtain ⟨v, i, m, rfl, hi, q⟩ := hp
  walk_at "s"
  refine ⟨by rfl, _, rfl, ⟨_, rfl⟩, ?_⟩
  walk_at "s"
  refine ⟨fun _ => ?_, fun h => by cases h⟩
  walk_at "s"
  refine ⟨fun h => absurd (of_decide_eq_true h) (by omega), fun _ => ?_⟩
  walk_at "s"
  exact fin_pd (by simp) q
/-! ### check_numbers -/
abbrev N_check_numbers : List Str := ["what", "numbers", "most", "number"]
theorem sc_check_numbers : FnScope N_check_numbers ["what", "numbers", "most"] (defScope s_check_numbers) := ⟨rfl, rfl, rfl, by decide +kernel, rfl, by decide +kernel, by decide +kernel⟩
theorem ok_check_numbers (c_check_most : Cal P w K mg base 2 "check_most" ["what", "many", "most"] (spP K T 3 pre_check_most)) (dd : Df K mg "check_numbers" s_check_numbers) : Cal P w K mg base 3 "check_numbers" ["what", "numbers", "most"] (spP K T 3 pre_check_numbers) := by
  refine dd.cal (fun f fd F => F.ok sc_check_numbers (fun vs H Q E h => spP_len h) fun cdv A outer s H vs Q E hr h => ?_) (fun _ _ _ _ _ _ us hl => match us, hl with | [_, _, _], _ => rfl)
  have nd := sc_check_numbers.nd
  have hu := room_u hr
  refine ⟨_, (pss_one (ps_for PassesOwn.never rfl (pi_or (pi_list (pv 1)) (pi_tup (pv 1))) (pg_name (i := 3) nd rfl (.inl rfl)) (pss_one (ps_expr (pe_callC c_check_most (hr.mono (by decide)) (by rfl) (pa_cons (pv 0) (pa_cons (pv 3) (pa_cons (pv 2) pa_nil)))))))), fn_run h ?_⟩
  intro xs st Φ hl hp
  clear hl h hu hr nd
  try dsimp only [L2.cxOf, NdefX.ncx]
  obtain ⟨v, ns, m, D, rfl, hD, hb, q⟩ := hp
  have hmem : ∀ (i : Nat) (d : PyData), (ns.map PyData.int)[i]? = some d → ∃ n, n ∈ ns ∧ d = .int n := fun i d hd => by
    obtain ⟨n, hn, e⟩ := List.mem_map.mp (List.mem_of_getElem? hd)
    exact ⟨n, hn, e.symm⟩
  rcases hD with rfl | rfl
  · refine ws_forO1 (ws_forL (we_var rfl ?_))
    refine ⟨ns.map .int, rfl, fun i ss' st' => st' = st ∧ ∃ y, ss' = [some (.pd v), some (.pd (.list (ns.map .int))), some (.pd (.int m)), y], ⟨rfl, _, rfl⟩, ?_, ?_⟩
    · rintro i d ss' st' hd ⟨rfl, y, rfl⟩
      obtain ⟨n, hn, rfl⟩ := hmem i d hd
      walk_at "s"
      refine ⟨by rfl, _, _, _, rfl, hb n hn, ?_⟩
      exact ⟨rfl, _, rfl⟩
    · rintro ss' st' ⟨rfl, y, rfl⟩
      exact fin_pd (by simp) q
  · refine ws_forO2 (ws_forT (we_var rfl ?_))
    refine ⟨ns.map .int, rfl, fun i ss' st' => st' = st ∧ ∃ y, ss' = [some (.pd v), some (.pd (.tuple (ns.map .int))), some (.pd (.int m)), y], ⟨rfl, _, rfl⟩, ?_, ?_⟩
    · rintro i d ss' st' hd ⟨rfl, y, rfl⟩
      obtain ⟨n, hn, rfl⟩ := hmem i d hd
      walk_at "s"
      refine ⟨by rfl, _, _, _, rfl, hb n hn, ?_⟩
      exact ⟨rfl, _, rfl⟩
    · rintro ss' st' ⟨rfl, y, rfl⟩
      exact fin_pd (by simp) q
/-! ### is_row -/
abbrev N_is_row : List Str := ["value"]
theorem sc_is_row : FnScope N_is_row ["value"] (defScope s_is_row) := ⟨rfl, rfl, rfl, by decide +kernel, rfl, by decide +kernel, by decide +kernel⟩
theorem ok_is_row (Z : Zs mg) (it_Ruler : InsTy K C_Ruler) (dd : Df K mg "is_row" s_is_row) : Cal P w K mg base 1 "is_row" ["value"] (spP K T 1 (pre_is_row K C_Ruler)) := by
  refine dd.cal (fun f fd F => F.ok sc_is_row (fun vs H Q E h => spP_len h) fun cdv A outer s H vs Q E hr h => ?_) (fun _ _ _ _ _ _ us hl => match us, hl with | [_], _ => rfl)
  have nd := sc_is_row.nd
  have hu := room_u hr
  refine ⟨_, (pss_one (ps_ret (pe_callB (call_isiTK (K := K) rfl) (by rfl) Z.isinstance boot_isinstance (pa_cons (pv 0) (pa_cons (pe_tup (pa_cons (pe_tyN (by rfl) Z.list_ boot_list) (pa_cons (pe_tyN (by rfl) Z.tuple_ boot_tuple) pa_nil))) pa_nil))))), fn_run h ?_⟩
  intro xs st Φ hl hp
  clear hl h hu hr nd
  try dsimp only [L2.cxOf, NdefX.ncx]
  rcases hp with ⟨D, ds, rfl, hD, q⟩ | ⟨hs, rfl, q⟩
  · refine ws_ret (we_isiT (we_var rfl ⟨D, true, rfl, ?_, ?_⟩))
    · rcases hD with rfl | rfl <;> rfl
    · exact fin_pd (by simp) q
  · refine ws_ret (we_isiTO it_Ruler it_Ruler.row (we_var rfl ⟨rfl, ?_⟩))
    exact fin_pd (by simp) q
/-! ### are_whole -/
abbrev N_are_whole : List Str := ["row", "many", "one"]
theorem sc_are_whole : FnScope N_are_whole ["row", "many"] (defScope s_are_whole) := ⟨rfl, rfl, rfl, by decide +kernel, rfl, by decide +kernel, by decide +kernel⟩
theorem ok_are_whole (c_is_whole : Cal P w K mg base 1 "is_whole" ["value"] (spP K T 1 pre_is_whole)) (c_is_row : Cal P w K mg base 1 "is_row" ["value"] (spP K T 1 (pre_is_row K C_Ruler))) (Z : Zs mg) (dd : Df K mg "are_whole" s_are_whole) : Cal P w K mg base 2 "are_whole" ["row", "many"] (spP K T 2 pre_are_whole) := by
  refine dd.cal (fun f fd F => F.ok sc_are_whole (fun vs H Q E h => spP_len h) fun cdv A outer s H vs Q E hr h => ?_) (fun _ _ _ _ _ _ us hl => match us, hl with | [_, _], _ => rfl)
  have nd := sc_are_whole.nd
  have hu := room_u hr
  refine ⟨_, (pss_one (ps_ret (pe_and (pe_callC c_is_row (hr.mono (by decide)) (by rfl) (pa_cons (pv 0) pa_nil)) (pe_and (pe_cmpR (op_eqK (K := K) rfl hu) (pe_callB (call_lenK (K := K) rfl) (by rfl) Z.len PySem.boot_len (pa_cons (pv 0) pa_nil)) (pv 1) (nomark _)) (pe_one (pe_cmpR (op_notInK (K := K) rfl) pe_bl (pe_lc (own := [("one", 2)]) (g := gName 2) (tt := tYes) rfl nd (pi_or (pi_list (pv 0)) (pi_tup (pv 0))) (blkOk_by (N := N_are_whole) (sc := defScope s_are_whole) (by decide +kernel)) (fun _ _ _ _ _ => (pg_name (i := 2) nd rfl (.inl rfl))) (fun _ _ _ _ _ => pts_nil) (fun _ _ _ _ _ => (pe_callC c_is_whole (hr.mono (by decide)) (by rfl) (pa_cons (pv 2) pa_nil)))) (by rfl))))))), fn_run h ?_⟩
  intro xs st Φ hl hp
  clear hl h hu hr nd
  try dsimp only [L2.cxOf, NdefX.ncx]
  obtain ⟨D, ns, rfl, hD, hl, q⟩ := hp
  have hq : Ct.Fin st Φ (.pd (.bool true)) st := fin_pd (by simp) q
  have hfm : ∀ ns : List Int, (ns.map PyData.int).filterMap (fun _ => some (PyData.bool true)) = List.replicate ns.length (PyData.bool true) := by
    intro ns
    induction ns with
    | nil => rfl
    | cons n t ih => rw [List.map_cons, List.filterMap_cons, ih]; rfl
  have hfl : (List.replicate ns.length (PyData.bool true)).all flatD = true := List.all_eq_true.mpr fun x hx => by
    rw [(List.mem_replicate.mp hx).2]
    rfl
  refine ws_ret (we_andV ?_)
  walk_at "s"
  refine ⟨by rfl, .inl ⟨D, _, rfl, hD, ?_⟩⟩
  refine ⟨_, rfl, fun _ => ?_, fun h => (by cases h)⟩
  refine we_andV ?_
  rcases hD with rfl | rfl
  · walk_at "s"
    refine ⟨fun _ => ?_, fun h => absurd (of_decide_eq_false h) (by simp)⟩
    refine we_op (we_c rfl ?_)
    refine we_lcO1 (we_lcL (gw_name (by simp)) ?_)
    walk_at "s"
    refine ⟨by rw [List.length_map]; exact big_lt (by omega), fun _ => some (.bool true), ?_, ?_⟩
    · intro i d acc hd
      obtain ⟨n, _, rfl⟩ := List.mem_map.mp (List.mem_of_getElem? hd)
      walk_at "s"
      refine ⟨fun _ => ?_, fun h => (by cases h)⟩
      walk_at "s"
      refine ⟨by rfl, _, rfl, ⟨_, rfl⟩, ?_⟩
      exact ⟨_, _, rfl, take_snoc, rfl⟩
    rw [hfm]
    refine wr_nin rfl rfl hfl ?_
    rw [inD_false]
    exact hq
  · refine we_op (we_cb (wa_cons (we_var rfl (wa_nil (wc_lenT ?_)))))
    walk_at "s"
    refine ⟨fun _ => ?_, fun h => absurd (of_decide_eq_false h) (by simp)⟩
    refine we_op (we_c rfl ?_)
    refine we_lcO2 (we_lcT (gw_name (by simp)) ?_)
    walk_at "s"
    refine ⟨by rw [List.length_map]; exact big_lt (by omega), fun _ => some (.bool true), ?_, ?_⟩
    · intro i d acc hd
      obtain ⟨n, _, rfl⟩ := List.mem_map.mp (List.mem_of_getElem? hd)
      walk_at "s"
      refine ⟨fun _ => ?_, fun h => (by cases h)⟩
      walk_at "s"
      refine ⟨by rfl, _, rfl, ⟨_, rfl⟩, ?_⟩
      exact ⟨_, _, rfl, take_snoc, rfl⟩
    rw [hfm]
    refine wr_nin rfl rfl hfl ?_
    rw [inD_false]
    exact hq
/-! ### right_section -/
abbrev N_right_section : List Str := ["section"]
theorem sc_right_section : FnScope N_right_section ["section"] (defScope s_right_section) := ⟨rfl, rfl, rfl, by decide +kernel, rfl, by decide +kernel, by decide +kernel⟩
theorem ok_right_section (c_are_whole : Cal P w K mg base 2 "are_whole" ["row", "many"] (spP K T 2 pre_are_whole)) (dd : Df K mg "right_section" s_right_section) : Cal P w K mg base 3 "right_section" ["section"] (spP K T 1 pre_right_section) := by
  refine dd.cal (fun f fd F => F.ok sc_right_section (fun vs H Q E h => spP_len h) fun cdv A outer s H vs Q E hr h => ?_) (fun _ _ _ _ _ _ us hl => match us, hl with | [_], _ => rfl)
  have nd := sc_right_section.nd
  have hu := room_u hr
  refine ⟨_, (pss_cons (ps_if (pt_not (pt_val (pe_callC c_are_whole (hr.mono (by decide)) (by rfl) (pa_cons (pv 0) (pa_cons pe_int pa_nil))))) (pss_one (ps_ret pe_bl)) pss_nil) (pss_one (ps_ret (pe_and (pe_chain op_le op_le pe_int (pe_ix (ix_seqK (K := K) rfl) (pv 0) pe_int (fun _ _ => rfl)) (pe_ix (ix_seqK (K := K) rfl) (pv 0) pe_int (fun _ _ => rfl))) (pe_one (pe_chain op_le op_le pe_int (pe_ix (ix_seqK (K := K) rfl) (pv 0) pe_int (fun _ _ => rfl)) (pe_op op_sub (pe_ix (ix_seqK (K := K) rfl) (pv 0) pe_int (fun _ _ => rfl)) (pe_ix (ix_seqK (K := K) rfl) (pv 0) pe_int (fun _ _ => rfl))))))))), fn_run h ?_⟩
  intro xs st Φ hl hp
  clear hl h hu hr nd
  try dsimp only [L2.cxOf, NdefX.ncx]
  obtain ⟨D, a, b, c, rfl, hD, ⟨h1, h2, h3, h4⟩, q⟩ := hp
  have hq : Ct.Fin st Φ (.pd (.bool true)) st := fin_pd (by simp) q
  walk_at "f"
  refine ⟨by rfl, D, [a, b, c], rfl, hD, by simp, ?_⟩
  refine ⟨_, rfl, fun h => (by cases h), fun _ => ?_⟩
  refine ws_next ?_
  rcases hD with rfl | rfl
  · walk_at "s"
    refine ⟨fun _ => ?_, fun h => absurd (of_decide_eq_false h) (by omega)⟩
    walk_at "s"
    refine ⟨fun _ => ?_, fun h => absurd (of_decide_eq_false h) (by omega)⟩
    walk_at "s"
    refine ⟨fun _ => ?_, fun h => absurd (of_decide_eq_false h) (by omega)⟩
    walk_at "s"
    rw [decide_eq_true h4]
    exact hq
  · walk_at "s"
    refine ⟨fun _ => ?_, fun h => absurd (of_decide_eq_false h) (by omega)⟩
    walk_at "s"
    refine ⟨fun _ => ?_, fun h => absurd (of_decide_eq_false h) (by omega)⟩
    walk_at "s"
    refine ⟨fun _ => ?_, fun h => absurd (of_decide_eq_false h) (by omega)⟩
    walk_at "s"
    rw [decide_eq_true h4]
    exact hq
/-! ### check_lengths_bound -/
abbrev N_check_lengths_bound : List Str := ["rows", "row"]
theorem sc_check_lengths_bound : FnScope N_check_lengths_bound ["rows"] (defScope s_check_lengths_bound) := ⟨rfl, rfl, rfl, by decide +kernel, rfl, by decide +kernel, by decide +kernel⟩
theorem ok_check_lengths_bound (c_is_row : Cal P w K mg base 1 "is_row" ["value"] (spP K T 1 (pre_is_row K C_Ruler))) (c_check_numbers : Cal P w K mg base 3 "check_numbers" ["what", "numbers", "most"] (spP K T 3 pre_check_numbers)) (x_LENGTHS : ∃ t, mg "LENGTHS" = some (.int c_LENGTHS t)) (dd : Df K mg "check_lengths_bound" s_check_lengths_bound) : Cal P w K mg base 4 "check_lengths_bound" ["rows"] (spP K T 1 pre_check_lengths_bound) := by
  obtain ⟨_, h_LENGTHS⟩ := x_LENGTHS
  refine dd.cal (fun f fd F => F.ok sc_check_lengths_bound (fun vs H Q E h => spP_len h) fun cdv A outer s H vs Q E hr h => ?_) (fun _ _ _ _ _ _ us hl => match us, hl with | [_], _ => rfl)
  have nd := sc_check_lengths_bound.nd
  have hu := room_u hr
  refine ⟨_, (pss_one (ps_for PassesOwn.never rfl (pi_list (pv 0)) (pg_name (i := 1) nd rfl (.inl rfl)) (pss_one (ps_if (pt_val (pe_callC c_is_row (hr.mono (by decide)) (by rfl) (pa_cons (pv 1) pa_nil))) (pss_one (ps_expr (pe_callC c_check_numbers (hr.mono (by decide)) (by rfl) (pa_cons pe_str (pa_cons (pv 1) (pa_cons (pe_glob (v := .int c_LENGTHS) rfl h_LENGTHS ⟨_, rfl⟩) pa_nil)))))) pss_nil)))), fn_run h ?_⟩
  intro xs st Φ hl hp
  clear hl h hu hr nd
  try dsimp only [L2.cxOf, NdefX.ncx]
  obtain ⟨ss, rfl, hS, q⟩ := hp
  refine ws_forL (we_var rfl ?_)
  refine ⟨_, rfl, fun i ss' st' => st' = st ∧ ∃ y, ss' = [some (.pd (.list (ss.map secD))), y], ⟨rfl, _, rfl⟩, ?_, ?_⟩
  · rintro i d ss' st' hd ⟨rfl, y, rfl⟩
    obtain ⟨s, hs, rfl⟩ := List.mem_map.mp (List.mem_of_getElem? hd)
    obtain ⟨a, b, c⟩ := s
    obtain ⟨h1, h2, h3, h4, h5⟩ := hS _ hs
    dsimp only at h1 h2 h3 h4 h5
    walk_at "s"
    refine ⟨by rfl, .inl ⟨_, [.int a, .int b, .int c], rfl, .inr rfl, ?_⟩⟩
    refine ⟨_, rfl, fun _ => ?_, fun h => (by cases h)⟩
    walk_at "s"
    refine ⟨by rfl, _, [a, b, c], _, _, rfl, .inr rfl, ?_, ?_⟩
    · intro n hn
      simp at hn
      show n ≤ 10000
      omega
    exact ⟨rfl, _, rfl⟩
  · rintro ss' st' ⟨rfl, y, rfl⟩
    exact fin_pd (by simp) q
/-! ### checked_sections -/
abbrev N_checked_sections : List Str := ["sections", "made", "place", "section"]
theorem sc_checked_sections : FnScope N_checked_sections ["sections"] (defScope s_checked_sections) := ⟨rfl, rfl, rfl, by decide +kernel, rfl, by decide +kernel, by decide +kernel⟩
theorem ok_checked_sections (c_right_section : Cal P w K mg base 3 "right_section" ["section"] (spP K T 1 pre_right_section)) (Z : Zs mg) (dd : Df K mg "checked_sections" s_checked_sections) : Cal P w K mg base 4 "checked_sections" ["sections"] (spP K T 1 pre_checked_sections) := by
  refine dd.cal (fun f fd F => F.ok sc_checked_sections (fun vs H Q E h => spP_len h) fun cdv A outer s H vs Q E hr h => ?_) (fun _ _ _ _ _ _ us hl => match us, hl with | [_], _ => rfl)
  have nd := sc_checked_sections.nd
  have hu := room_u hr
  refine ⟨_, (pss_cons (ps_asg (pe_lst pa_nil) (pg_name (i := 1) nd rfl (.inl rfl))) (pss_cons (ps_for PassesOwn.never rfl (pi_enum (by rfl) Z.enumerate (pa_cons (pv 0) pa_nil)) (pg_tup (n := 2) rfl (pgs_cons (pg_name (i := 2) nd rfl (.inl rfl)) (pgs_cons (pg_name (i := 3) nd rfl (.inl rfl)) pgs_nil))) (pss_cons (ps_if (pt_not (pt_val (pe_callC c_right_section (hr.mono (by decide)) (by rfl) (pa_cons (pv 3) pa_nil)))) (pss_one ps_never) pss_nil) (pss_one (ps_expr (pe_bm PySem.F.plainAttrs_list PySem.F.slot_list_append PySem.F.type_list_append mt_append (pv 1) (pa_cons (pe_callTy (call_tupleK (K := K) rfl) (by rfl) Z.tuple_ boot_tuple (pa_cons (pv 3) pa_nil)) pa_nil)))))) (pss_one (ps_ret (pv 1))))), fn_run h ?_⟩
  intro xs st Φ hl hp
  clear hl h hu hr nd
  try dsimp only [L2.cxOf, NdefX.ncx]
  obtain ⟨ss, rfl, hS, hl, q⟩ := hp
  walk_at "c"
  refine ws_seq (ws_forE (wa_cons (we_var rfl (wa_nil ⟨_, rfl, fun i ss' st' => st' = st ++ [.mu ((ss.take i).map secD)] ∧ ∃ y2 y3 : Option Val, ss' = [vL (ss.map secD), vC st.length, y2, y3], ⟨rfl, _, _, rfl⟩, ?_, ?_⟩))))
  · rintro i d ss' st' hd ⟨rfl, y2, y3, rfl⟩
    have hi := (List.getElem?_eq_some_iff.mp hd).1
    rw [List.length_map] at hi
    have hdd := (List.getElem?_eq_some_iff.mp hd).2
    rw [List.getElem_map] at hdd
    have hs := hS _ (List.getElem_mem hi)
    have hnext : (ss.take (i + 1)).map secD = (ss.take i).map secD ++ [secD ss[i]] := by rw [List.take_succ_eq_append_getElem hi, List.map_append]; rfl
    have hti : (ss.take i).length ≤ i := by rw [List.length_take]; omega
    generalize ss[i] = s at hs hdd hnext ⊢
    subst hdd
    obtain ⟨a, b, c⟩ := s
    obtain ⟨h1, h2, h3, h4, h5⟩ := hs
    dsimp only at h1 h2 h3 h4 h5
    walk_at "s"
    walk_at "f"
    refine ⟨by rfl, _, a, b, c, rfl, .inr rfl, ⟨h1, h2, h3, h4⟩, ?_⟩
    refine ⟨_, rfl, fun h => (by cases h), fun _ => ?_⟩
    refine ws_next ?_
    walk_at "s"
    refine wc_tupT ?_
    exact ⟨_, _, rfl, rfl, by rw [hnext], _, _, rfl⟩
  · rintro ss' st' ⟨rfl, y2, y3, rfl⟩
    rw [List.length_map, List.take_length]
    walk_at "s"
    exact fin_end q
/-! ### checked_tells -/
abbrev N_checked_tells : List Str := ["tells", "many", "made", "place", "tell"]
theorem sc_checked_tells : FnScope N_checked_tells ["tells", "many"] (defScope s_checked_tells) := ⟨rfl, rfl, rfl, by decide +kernel, rfl, by decide +kernel, by decide +kernel⟩
theorem ok_checked_tells (c_are_whole : Cal P w K mg base 2 "are_whole" ["row", "many"] (spP K T 2 pre_are_whole)) (Z : Zs mg) (dd : Df K mg "checked_tells" s_checked_tells) : Cal P w K mg base 3 "checked_tells" ["tells", "many"] (spP K T 2 pre_checked_tells) := by
  refine dd.cal (fun f fd F => F.ok sc_checked_tells (fun vs H Q E h => spP_len h) fun cdv A outer s H vs Q E hr h => ?_) (fun _ _ _ _ _ _ us hl => match us, hl with | [_, _], _ => rfl)
  have nd := sc_checked_tells.nd
  have hu := room_u hr
  refine ⟨_, (pss_cons (ps_asg (pe_lst pa_nil) (pg_name (i := 2) nd rfl (.inl rfl))) (pss_cons (ps_for PassesOwn.never rfl (pi_enum (by rfl) Z.enumerate (pa_cons (pv 0) pa_nil)) (pg_tup (n := 2) rfl (pgs_cons (pg_name (i := 3) nd rfl (.inl rfl)) (pgs_cons (pg_name (i := 4) nd rfl (.inl rfl)) pgs_nil))) (pss_cons (ps_if (PW.pt (pw_or (pt_not (pt_val (pe_callC c_are_whole (hr.mono (by decide)) (by rfl) (pa_cons (pv 4) (pa_cons pe_int pa_nil))))) (pw_or (pt_not (pt_chain3 op_le op_lt op_le pe_int (pe_ix (ix_seqK (K := K) rfl) (pv 4) pe_int (fun _ _ => rfl)) (pe_ix (ix_seqK (K := K) rfl) (pv 4) pe_int (fun _ _ => rfl)) (pv 1))) (pw_or1 (pt_cmpR (op_inDK (K := K) rfl (room_u65 hr)) (pe_callTy (call_tupleK (K := K) rfl) (by rfl) Z.tuple_ boot_tuple (pa_cons (pv 4) pa_nil)) (pv 2) (by rfl)))))) (pss_one ps_never) pss_nil) (pss_one (ps_expr (pe_bm PySem.F.plainAttrs_list PySem.F.slot_list_append PySem.F.type_list_append mt_append (pv 2) (pa_cons (pe_callTy (call_tupleK (K := K) rfl) (by rfl) Z.tuple_ boot_tuple (pa_cons (pv 4) pa_nil)) pa_nil)))))) (pss_one (ps_ret (pe_callB (cr_sortedK (K := K) rfl rfl) (by rfl) Z.sorted boot_sorted (pa_cons (pv 2) pa_nil)))))), fn_run h ?_⟩
  intro xs st Φ hl hp
  clear hl h hu hr nd
  try dsimp only [L2.cxOf, NdefX.ncx]
  obtain ⟨ts, many, rfl, ⟨hT, hP⟩, hl, q⟩ := hp
  walk_at "c"
  refine ws_seq (ws_forE (wa_cons (we_var rfl (wa_nil ⟨_, rfl, fun i ss' st' => st' = st ++ [.mu ((ts.take i).map pairT)] ∧ ∃ y3 y4 : Option Val, ss' = [vL (ts.map pairT), vI many, vC st.length, y3, y4], ⟨rfl, _, _, rfl⟩, ?_, ?_⟩))))
  · rintro i d ss' st' hd ⟨rfl, y3, y4, rfl⟩
    have hi := (List.getElem?_eq_some_iff.mp hd).1
    rw [List.length_map] at hi
    have hdd := (List.getElem?_eq_some_iff.mp hd).2
    rw [List.getElem_map] at hdd
    have hs := hT _ (List.getElem_mem hi)
    have hnext : (ts.take (i + 1)).map pairT = (ts.take i).map pairT ++ [pairT ts[i]] := by rw [List.take_succ_eq_append_getElem hi, List.map_append]; rfl
    have hno : ¬ ts[i] ∈ ts.take i := fun hm => by
      obtain ⟨j, hj, e⟩ := List.mem_iff_getElem.mp hm
      rw [List.length_take] at hj
      have := (List.pairwise_iff_getElem.mp hP) j i (by omega) hi (by omega)
      rw [List.getElem_take] at e
      rw [e] at this
      omega
    have hti : (ts.take i).length ≤ i := by rw [List.length_take]; omega
    generalize ts[i] = s at hs hdd hno hnext ⊢
    subst hdd
    obtain ⟨a, b⟩ := s
    obtain ⟨h1, h2, h3⟩ := hs
    dsimp only at h1 h2 h3
    walk_at "s"
    walk_at "f"
    refine ⟨by rfl, _, [a, b], rfl, .inr rfl, by simp, ?_⟩
    refine ⟨_, rfl, fun h => (by cases h), fun _ => ?_⟩
    walk_at "s"
    refine we_chain3 ?_
    walk_at "s"
    refine ⟨fun _ => ?_, fun h => absurd (of_decide_eq_false h) (by omega)⟩
    walk_at "s"
    refine ⟨fun _ => ?_, fun h => absurd (of_decide_eq_false h) (by omega)⟩
    walk_at "s"
    refine ⟨fun h => absurd h (by simp; omega), fun _ => ?_⟩
    walk_at "s"
    refine wc_tupT ?_
    walk_at "s"
    refine wr_inD rfl look_end (sh_pair (k := 0) (a, b)).shaped (sh_pairs (k := 0) _).shaped ?_
    rw [any_pair, decide_eq_false hno]
    walk_at "s"
    refine ⟨fun h => (by cases h), fun _ => ?_⟩
    refine ws_next ?_
    walk_at "s"
    refine wc_tupT ?_
    exact ⟨_, _, rfl, rfl, by rw [hnext], _, _, rfl⟩
  · rintro ss' st' ⟨rfl, y3, y4, rfl⟩
    rw [List.length_map, List.take_length]
    refine ws_ret (we_cb (wa_cons (we_var rfl (wa_nil (wc_sortP look_end fun qs hp hs => ?_)))))
    rw [srt_eq hp hs hP]
    exact fin_end q
/-! ### _law_purse -/
abbrev N__law_purse : List Str := ["script", "at", "cell", "size", "one"]
theorem sc__law_purse : FnScope N__law_purse ["script", "at"] (defScope s__law_purse) := ⟨rfl, rfl, rfl, by decide +kernel, rfl, by decide +kernel, by decide +kernel⟩
theorem ok__law_purse (Z : Zs mg) (dd : Df K mg "_law_purse" s__law_purse) : Cal P w K mg base 1 "_law_purse" ["script", "at"] (spP K T 2 pre__law_purse) := by
  refine dd.cal (fun f fd F => F.ok sc__law_purse (fun vs H Q E h => spP_len h) fun cdv A outer s H vs Q E hr h => ?_) (fun _ _ _ _ _ _ us hl => match us, hl with | [_, _], _ => rfl)
  have nd := sc__law_purse.nd
  have hu := room_u hr
  refine ⟨_, (pss_cons (ps_asg (pe_ifExp (pt_cmpR op_lt (pv 1) (pe_callB (call_lenK (K := K) rfl) (by rfl) Z.len PySem.boot_len (pa_cons (pv 0) pa_nil)) (nomark _)) (pe_callTy call_int1 (by rfl) Z.int_ boot_int (pa_cons (pe_ix (ix_seqK (K := K) rfl) (pv 0) (pv 1) (fun _ _ => rfl)) pa_nil)) (pe_op op_mul pe_int (pe_callB (cr_sumK (K := K) rfl rfl) (by rfl) Z.sum boot_sum (pa_cons (pe_lc (own := [("one", 4)]) (g := gName 4) (tt := tYes) rfl nd (pi_list (pe_slice (sl_listK (K := K) rfl) (pv 0) po_none (po_some pe_int))) (blkOk_by (N := N__law_purse) (sc := defScope s__law_purse) (by decide +kernel)) (fun _ _ _ _ _ => (pg_name (i := 4) nd rfl (.inl rfl))) (fun _ _ _ _ _ => pts_nil) (fun _ _ _ _ _ => (pe_callTy call_int1 (by rfl) Z.int_ boot_int (pa_cons (pv 4) pa_nil)))) pa_nil)))) (pg_name (i := 2) nd rfl (.inl rfl))) (pss_cons (ps_asg (pe_op (op_addK (K := K) rfl) (pe_op op_mul pe_int (pe_callB call_abs (by rfl) Z.abs boot_abs (pa_cons (pv 2) pa_nil))) (pe_ifExp (pt_cmpR op_lt (pv 2) pe_int (nomark _)) pe_int pe_int)) (pg_name (i := 3) nd rfl (.inl rfl))) (pss_one (ps_ret (pe_lst (pa_cons (pe_ifExp (pt_cmpR op_ge (pv 3) (pe_op op_pow pe_int pe_int) (nomark _)) (pv 3) pe_int) (pa_cons (pe_op op_mod (pe_callTy call_int1 (by rfl) Z.int_ boot_int (pa_cons (pe_op (op_addK (K := K) rfl) (pe_op (op_addK (K := K) rfl) (pv 3) (pe_op op_mul (pv 1) pe_int)) pe_int) pa_nil)) pe_int) (pa_cons (pv 1) pa_nil)))))))), fn_run h ?_⟩
  intro xs st Φ hl hp
  clear hl h hu hr nd
  try dsimp only [L2.cxOf, NdefX.ncx]
  obtain ⟨ns, at_, rfl, hl, h0, h1, q⟩ := hp
  refine ws_mid (fun ss' st' => st' = st ∧ ∃ v : Int, ss' = [some (.pd (.list (ns.map PyData.int))), some (.pd (.int at_)), some (.pd (.int v)), none, none]) ?_ ?_
  · walk_at "s"
    refine ⟨fun h => ?_, fun h => ?_⟩
    · have h := of_decide_eq_true h
      rw [List.length_map] at h
      obtain ⟨v, hv⟩ := at_int h0 h
      walk_at "s"
      refine wr_ixuL rfl hv ?_
      walk_at "s"
      exact ⟨rfl, v, rfl⟩
    · walk_at "s"
      refine we_lcL (gw_name (by simp)) ?_
      walk_at "s"
      obtain ⟨ms, em, hm⟩ := cut_ints ns none (some 4)
      rw [em]
      refine ⟨by rw [List.length_map]; exact big_lt (by omega), fun d => some d, ?_, ?_⟩
      · intro i d acc hd
        obtain ⟨z, hz, rfl⟩ := List.mem_map.mp (List.mem_of_getElem? hd)
        walk_at "s"
        refine ⟨fun _ => ?_, fun h => (by cases h)⟩
        walk_at "s"
        exact ⟨_, _, rfl, take_snoc, rfl⟩
      rw [show (ms.map PyData.int).filterMap (fun d => some d) = ms.map PyData.int by rw [List.filterMap_some]]
      walk_at "s"
      refine wc_sum rfl ?_
      walk_at "s"
      exact ⟨rfl, _, rfl⟩
  · rintro ss' st' ⟨rfl, v, rfl⟩
    refine ws_mid (fun ss' st'' => st'' = st' ∧ ∃ z : Int, ss' = [some (.pd (.list (ns.map PyData.int))), some (.pd (.int at_)), some (.pd (.int v)), some (.pd (.int z)), none]) ?_ ?_
    · walk_at "s"
      refine ⟨fun h => ?_, fun h => ?_⟩
      · walk_at "s"
        exact ⟨rfl, _, rfl⟩
      · walk_at "s"
        exact ⟨rfl, _, rfl⟩
    · rintro ss' st'' ⟨rfl, z, rfl⟩
      refine ws_ret (we_lstC ?_)
      walk_at "s"
      refine wr_pow (by unfold CPow; omega) ?_
      walk_at "s"
      have fin : ∀ p0 p1 : Int, Ct.Fin st'' Φ (.cell st''.length) (st'' ++ [.mu [.int p0, .int p1, .int at_]]) := fun p0 p1 => fin_all (q p0 p1)
      refine ⟨fun h => ?_, fun h => ?_⟩
      · walk_at "s"
        exact fin _ _
      · walk_at "s"
        exact fin _ _
/-! ### _law_draw -/
abbrev N__law_draw : List Str := ["purse", "many", "found"]
theorem sc__law_draw : FnScope N__law_draw ["purse", "many"] (defScope s__law_draw) := ⟨rfl, rfl, rfl, by decide +kernel, rfl, by decide +kernel, by decide +kernel⟩
theorem ok__law_draw (Z : Zs mg) (dd : Df K mg "_law_draw" s__law_draw) : Cal P w K mg base 1 "_law_draw" ["purse", "many"] (spP K T 2 pre__law_draw) := by
  refine dd.cal (fun f fd F => F.ok sc__law_draw (fun vs H Q E h => spP_len h) fun cdv A outer s H vs Q E hr h => ?_) (fun _ _ _ _ _ _ us hl => match us, hl with | [_, _], _ => rfl)
  have nd := sc__law_draw.nd
  have hu := room_u hr
  refine ⟨_, (pss_cons (ps_if (pt_cmpR op_gt (pe_ix (ix_seqK (K := K) rfl) (pv 0) pe_int (fun _ _ => rfl)) pe_int (nomark _)) (pss_cons (ps_asg (pe_op op_mod (pe_callTy call_int1 (by rfl) Z.int_ boot_int (pa_cons (pe_ix (ix_seqK (K := K) rfl) (pv 0) pe_int (fun _ _ => rfl)) pa_nil)) (pv 1)) (pg_name (i := 2) nd rfl (.inl rfl))) (pss_cons (ps_asg (pe_op op_fdiv (pe_ix (ix_seqK (K := K) rfl) (pv 0) pe_int (fun _ _ => rfl)) (pv 1)) (pg_sub (pv 0) pe_int set_list)) (pss_one (ps_ret (pv 2))))) pss_nil) (pss_cons (ps_augS (pv 0) pe_int get_list pe_int ip_add set_list) (pss_cons (ps_asg (pe_op op_mod (pe_callTy call_int1 (by rfl) Z.int_ boot_int (pa_cons (pe_op (op_addK (K := K) rfl) (pe_op op_mul (pe_ix (ix_seqK (K := K) rfl) (pv 0) pe_int (fun _ _ => rfl)) pe_int) (pe_op op_mul (pe_ix (ix_seqK (K := K) rfl) (pv 0) pe_int (fun _ _ => rfl)) pe_int)) pa_nil)) pe_int) (pg_sub (pv 0) pe_int set_list)) (pss_one (ps_ret (pe_op op_mod (pe_op op_fdiv (pe_op op_mod (pe_callTy call_int1 (by rfl) Z.int_ boot_int (pa_cons (pe_op (op_addK (K := K) rfl) (pe_op op_mul (pe_ix (ix_seqK (K := K) rfl) (pv 0) pe_int (fun _ _ => rfl)) pe_int) (pe_op op_mul (pe_ix (ix_seqK (K := K) rfl) (pv 0) pe_int (fun _ _ => rfl)) pe_int)) pa_nil)) pe_int) pe_int) (pv 1))))))), fn_run h ?_⟩
  intro xs st Φ hl hp
  clear hl h hu hr nd
  try dsimp only [L2.cxOf, NdefX.ncx]
  obtain ⟨n, many, rfl, h1, h2, ⟨p0, p1, p2, e⟩, q⟩ := hp
  walk_at "f"
  refine wr_ixuL (look_mu e) rfl ?_
  walk_at "s"
  refine ⟨fun _ => ?_, fun _ => ?_⟩
  · walk_at "s"
    refine wr_ixuL (look_mu e) rfl ?_
    walk_at "s"
    refine wr_ixuL (look_mu e) rfl ?_
    walk_at "s"
    refine wg_sub ?_
    walk_at "s"
    refine wx_list e rfl ?_
    walk_at "s"
    exact fin_same List.length_set (q _ _ (Int.emod_nonneg _ (by omega)) (Int.emod_lt_of_pos _ h1) Only.set ⟨_, _, _, get_setSelf e⟩)
  · refine ws_next ?_
    refine ws_sS (ws_augS ?_)
    walk_at "s"
    refine wr_ixL (look_mu e) rfl ?_
    walk_at "s"
    refine wx_list e rfl ?_
    have e2 := get_setSelf (c' := .mu ([.int p0, .int p1, .int p2].set (Int.toNat 2) (.int (p2 + 1)))) e
    have o2 : Only st (st.set n (.mu ([.int p0, .int p1, .int p2].set (Int.toNat 2) (.int (p2 + 1))))) n := Only.set
    generalize st.set n (.mu ([.int p0, .int p1, .int p2].set (Int.toNat 2) (.int (p2 + 1)))) = st2 at e2 o2 ⊢
    walk_at "s"
    refine wr_ixuL (look_mu e2) rfl ?_
    walk_at "s"
    refine wr_ixuL (look_mu e2) rfl ?_
    walk_at "s"
    refine wg_sub ?_
    walk_at "s"
    refine wx_list e2 rfl ?_
    have e3 := get_setSelf (c' := .mu (([.int p0, .int p1, .int p2].set (Int.toNat 2) (.int (p2 + 1))).set (Int.toNat 1) (.int ((p1 * 48271 + (p2 + 1) * 69621) % 2147483647)))) e2
    have o3 : Only st (st2.set n (.mu (([.int p0, .int p1, .int p2].set (Int.toNat 2) (.int (p2 + 1))).set (Int.toNat 1) (.int ((p1 * 48271 + (p2 + 1) * 69621) % 2147483647))))) n := o2.trans Only.set
    generalize st2.set n (.mu (([.int p0, .int p1, .int p2].set (Int.toNat 2) (.int (p2 + 1))).set (Int.toNat 1) (.int ((p1 * 48271 + (p2 + 1) * 69621) % 2147483647)))) = st3 at e3 o3 ⊢
    walk_at "s"
    refine wr_ixuL (look_mu e3) rfl ?_
    walk_at "s"
    refine wr_ixuL (look_mu e3) rfl ?_
    walk_at "s"
    exact fin_same o3.len (q _ _ (Int.emod_nonneg _ (by omega)) (Int.emod_lt_of_pos _ h1) o3 ⟨_, _, _, e3⟩)
/-! ### Plan_start -/
abbrev N_Plan_start : List Str := ["self"]
theorem sc_Plan_start : FnScope N_Plan_start ["self"] (defScope s_Plan_start) := ⟨rfl, rfl, rfl, by decide +kernel, rfl, by decide +kernel, by decide +kernel⟩
theorem ok_Plan_start (h_Plan : Cls K C_Plan) (na_Plan : ∀ f ∈ fl_Plan, NoAttr K C_Plan f) (dd : Dm K C_Plan "start" "Plan.start" s_Plan_start) : CalM P w K mg base 1 C_Plan "start" ["self"] (spP K T 1 (pre_Plan_start K C_Plan C_Ruler)) := by
  refine dd.cal (fun f fd F => F.ok sc_Plan_start (fun vs H Q E h => spP_len h) fun cdv A outer s H vs Q E hr h => ?_) (fun _ _ _ _ _ _ us hl => match us, hl with | [_], _ => rfl)
  have nd := sc_Plan_start.nd
  have hu := room_u hr
  refine ⟨_, (pss_one (ps_ret (pe_fld (pv 0) rfl))), fn_run h ?_⟩
  intro xs st Φ hl hp
  clear hl h hu hr nd
  try dsimp only [L2.cxOf, NdefX.ncx]
  obtain ⟨p, rfl, q⟩ := hp
  refine ws_ret (we_fld (we_var rfl ⟨_, _, _, .ob, h_Plan, na_Plan _ (by decide), rfl, ?_⟩))
  exact fin_pd (by simp) q
/-! ### Plan_range_cells -/
abbrev N_Plan_range_cells : List Str := ["self"]
theorem sc_Plan_range_cells : FnScope N_Plan_range_cells ["self"] (defScope s_Plan_range_cells) := ⟨rfl, rfl, rfl, by decide +kernel, rfl, by decide +kernel, by decide +kernel⟩
theorem ok_Plan_range_cells (h_Plan : Cls K C_Plan) (na_Plan : ∀ f ∈ fl_Plan, NoAttr K C_Plan f) (dd : Dm K C_Plan "range_cells" "Plan.range_cells" s_Plan_range_cells) : CalM P w K mg base 1 C_Plan "range_cells" ["self"] (spP K T 1 (pre_Plan_range_cells K C_Plan C_Ruler)) := by
  refine dd.cal (fun f fd F => F.ok sc_Plan_range_cells (fun vs H Q E h => spP_len h) fun cdv A outer s H vs Q E hr h => ?_) (fun _ _ _ _ _ _ us hl => match us, hl with | [_], _ => rfl)
  have nd := sc_Plan_range_cells.nd
  have hu := room_u hr
  refine ⟨_, (pss_one (ps_ret (pe_fld (pv 0) rfl))), fn_run h ?_⟩
  intro xs st Φ hl hp
  clear hl h hu hr nd
  try dsimp only [L2.cxOf, NdefX.ncx]
  obtain ⟨p, rfl, q⟩ := hp
  refine ws_ret (we_fld (we_var rfl ⟨_, _, _, .ob, h_Plan, na_Plan _ (by decide), rfl, ?_⟩))
  exact fin_pd (by simp) q
/-! ### Plan_sections -/
abbrev N_Plan_sections : List Str := ["self"]
theorem sc_Plan_sections : FnScope N_Plan_sections ["self"] (defScope s_Plan_sections) := ⟨rfl, rfl, rfl, by decide +kernel, rfl, by decide +kernel, by decide +kernel⟩
theorem ok_Plan_sections (Z : Zs mg) (h_Plan : Cls K C_Plan) (na_Plan : ∀ f ∈ fl_Plan, NoAttr K C_Plan f) (dd : Dm K C_Plan "sections" "Plan.sections" s_Plan_sections) : CalM P w K mg base 1 C_Plan "sections" ["self"] (spP K T 1 (pre_Plan_sections K C_Plan C_Ruler)) := by
  refine dd.cal (fun f fd F => F.ok sc_Plan_sections (fun vs H Q E h => spP_len h) fun cdv A outer s H vs Q E hr h => ?_) (fun _ _ _ _ _ _ us hl => match us, hl with | [_], _ => rfl)
  have nd := sc_Plan_sections.nd
  have hu := room_u hr
  refine ⟨_, (pss_one (ps_ret (pe_callTy (call_listK (K := K) rfl) (by rfl) Z.list_ boot_list (pa_cons (pe_fld (pv 0) rfl) pa_nil)))), fn_run h ?_⟩
  intro xs st Φ hl hp
  clear hl h hu hr nd
  try dsimp only [L2.cxOf, NdefX.ncx]
  obtain ⟨p, rfl, q⟩ := hp
  refine ws_ret (we_pur (we_cb (wa_cons (we_fld (we_var rfl ⟨_, _, _, .ob, h_Plan, na_Plan _ (by decide), rfl, wa_nil (wc_listC rfl ?_)⟩)))))
  exact ⟨_, _, pur_end, fin_end q⟩
/-! ### Plan_tells -/
abbrev N_Plan_tells : List Str := ["self"]
theorem sc_Plan_tells : FnScope N_Plan_tells ["self"] (defScope s_Plan_tells) := ⟨rfl, rfl, rfl, by decide +kernel, rfl, by decide +kernel, by decide +kernel⟩
theorem ok_Plan_tells (Z : Zs mg) (h_Plan : Cls K C_Plan) (na_Plan : ∀ f ∈ fl_Plan, NoAttr K C_Plan f) (dd : Dm K C_Plan "tells" "Plan.tells" s_Plan_tells) : CalM P w K mg base 1 C_Plan "tells" ["self"] (spP K T 1 (pre_Plan_tells K C_Plan C_Ruler)) := by
  refine dd.cal (fun f fd F => F.ok sc_Plan_tells (fun vs H Q E h => spP_len h) fun cdv A outer s H vs Q E hr h => ?_) (fun _ _ _ _ _ _ us hl => match us, hl with | [_], _ => rfl)
  have nd := sc_Plan_tells.nd
  have hu := room_u hr
  refine ⟨_, (pss_one (ps_ret (pe_callTy (call_listK (K := K) rfl) (by rfl) Z.list_ boot_list (pa_cons (pe_fld (pv 0) rfl) pa_nil)))), fn_run h ?_⟩
  intro xs st Φ hl hp
  clear hl h hu hr nd
  try dsimp only [L2.cxOf, NdefX.ncx]
  obtain ⟨p, rfl, q⟩ := hp
  refine ws_ret (we_pur (we_cb (wa_cons (we_fld (we_var rfl ⟨_, _, _, .ob, h_Plan, na_Plan _ (by decide), rfl, wa_nil (wc_listC rfl ?_)⟩)))))
  exact ⟨_, _, pur_end, fin_end q⟩
/-! ### Plan_many -/
abbrev N_Plan_many : List Str := ["self"]
theorem sc_Plan_many : FnScope N_Plan_many ["self"] (defScope s_Plan_many) := ⟨rfl, rfl, rfl, by decide +kernel, rfl, by decide +kernel, by decide +kernel⟩
theorem ok_Plan_many (Z : Zs mg) (h_Plan : Cls K C_Plan) (na_Plan : ∀ f ∈ fl_Plan, NoAttr K C_Plan f) (dd : Dm K C_Plan "many" "Plan.many" s_Plan_many) : CalM P w K mg base 1 C_Plan "many" ["self"] (spP K T 1 (pre_Plan_many K C_Plan C_Ruler)) := by
  refine dd.cal (fun f fd F => F.ok sc_Plan_many (fun vs H Q E h => spP_len h) fun cdv A outer s H vs Q E hr h => ?_) (fun _ _ _ _ _ _ us hl => match us, hl with | [_], _ => rfl)
  have nd := sc_Plan_many.nd
  have hu := room_u hr
  refine ⟨_, (pss_one (ps_ret (pe_callB (call_lenK (K := K) rfl) (by rfl) Z.len PySem.boot_len (pa_cons (pe_fld (pv 0) rfl) pa_nil)))), fn_run h ?_⟩
  intro xs st Φ hl hp
  clear hl h hu hr nd
  try dsimp only [L2.cxOf, NdefX.ncx]
  obtain ⟨p, rfl, q⟩ := hp
  refine ws_ret (we_cb (wa_cons (we_fld (we_var rfl ⟨_, _, _, .ob, h_Plan, na_Plan _ (by decide), rfl, wa_nil (wc_len rfl ?_)⟩))))
  rw [List.length_map]
  exact fin_pd (by simp) q
/-! ### Plan_section -/
abbrev N_Plan_section : List Str := ["self", "k"]
theorem sc_Plan_section : FnScope N_Plan_section ["self", "k"] (defScope s_Plan_section) := ⟨rfl, rfl, rfl, by decide +kernel, rfl, by decide +kernel, by decide +kernel⟩
theorem ok_Plan_section (Z : Zs mg) (h_Plan : Cls K C_Plan) (na_Plan : ∀ f ∈ fl_Plan, NoAttr K C_Plan f) (dd : Dm K C_Plan "section" "Plan.section" s_Plan_section) : CalM P w K mg base 1 C_Plan "section" ["self", "k"] (spP K T 2 (pre_Plan_section K C_Plan C_Ruler)) := by
  refine dd.cal (fun f fd F => F.ok sc_Plan_section (fun vs H Q E h => spP_len h) fun cdv A outer s H vs Q E hr h => ?_) (fun _ _ _ _ _ _ us hl => match us, hl with | [_, _], _ => rfl)
  have nd := sc_Plan_section.nd
  have hu := room_u hr
  refine ⟨_, (pss_cons (ps_if (pt_not (pt_chain op_le op_le pe_int (pv 1) (pe_callB (call_lenK (K := K) rfl) (by rfl) Z.len PySem.boot_len (pa_cons (pe_fld (pv 0) rfl) pa_nil)))) (pss_one ps_never) pss_nil) (pss_one (ps_ret (pe_ix (ix_seqK (K := K) rfl) (pe_fld (pv 0) rfl) (pe_op op_sub (pv 1) pe_int) (fun _ _ => rfl))))), fn_run h ?_⟩
  intro xs st Φ hl hp
  clear hl h hu hr nd
  try dsimp only [L2.cxOf, NdefX.ncx]
  obtain ⟨p, i, s, rfl, hs, q⟩ := hp
  have hi := (List.getElem?_eq_some_iff.mp hs).1
  walk_at "f"
  refine ⟨fun _ => ?_, fun h => absurd (of_decide_eq_false h) (by omega)⟩
  walk_at "s"
  refine we_fld (we_var rfl ⟨_, _, _, .ob, h_Plan, na_Plan _ (by decide), rfl, ?_⟩)
  walk_at "s"
  rw [List.length_map]
  refine ⟨fun h => absurd h (by simp; omega), fun _ => ?_⟩
  refine ws_next ?_
  refine ws_ret (we_op (we_fld (we_var rfl ⟨_, _, _, .ob, h_Plan, na_Plan _ (by decide), rfl, ?_⟩)))
  walk_at "s"
  refine wr_ixuL rfl (d := secD s) ?_ (fin_pd (by simp) q)
  rw [show (1 + (i : Int)) - 1 = ((i : Nat) : Int) by omega]
  exact atI_nat (by rw [List.getElem?_map, hs]; rfl)
/-! ### Plan_check_mark -/
abbrev N_Plan_check_mark : List Str := ["self", "mark"]
theorem sc_Plan_check_mark : FnScope N_Plan_check_mark ["self", "mark"] (defScope s_Plan_check_mark) := ⟨rfl, rfl, rfl, by decide +kernel, rfl, by decide +kernel, by decide +kernel⟩
theorem ok_Plan_check_mark (Z : Zs mg) (h_Plan : Cls K C_Plan) (na_Plan : ∀ f ∈ fl_Plan, NoAttr K C_Plan f) (dd : Dm K C_Plan "check_mark" "Plan.check_mark" s_Plan_check_mark) : CalM P w K mg base 1 C_Plan "check_mark" ["self", "mark"] (spP K T 2 (pre_Plan_check_mark K C_Plan C_Ruler)) := by
  refine dd.cal (fun f fd F => F.ok sc_Plan_check_mark (fun vs H Q E h => spP_len h) fun cdv A outer s H vs Q E hr h => ?_) (fun _ _ _ _ _ _ us hl => match us, hl with | [_, _], _ => rfl)
  have nd := sc_Plan_check_mark.nd
  have hu := room_u hr
  refine ⟨_, (pss_one (ps_if (pt_not (pt_chain op_le op_le pe_int (pv 1) (pe_callB (call_lenK (K := K) rfl) (by rfl) Z.len PySem.boot_len (pa_cons (pe_fld (pv 0) rfl) pa_nil)))) (pss_one ps_never) pss_nil)), fn_run h ?_⟩
  intro xs st Φ hl hp
  clear hl h hu hr nd
  try dsimp only [L2.cxOf, NdefX.ncx]
  obtain ⟨p, m, rfl, ⟨h1, h2⟩, q⟩ := hp
  walk_at "s"
  refine ⟨fun _ => ?_, fun h => absurd (of_decide_eq_false h) (by omega)⟩
  walk_at "s"
  refine we_fld (we_var rfl ⟨_, _, _, .ob, h_Plan, na_Plan _ (by decide), rfl, ?_⟩)
  walk_at "s"
  rw [List.length_map]
  refine ⟨fun h => absurd h (by simp; omega), fun _ => ?_⟩
  walk_at "s"
  exact fin_pd (by simp) q
/-! ### Plan_first_tell -/
abbrev N_Plan_first_tell : List Str := ["self", "mark", "i", "j"]
theorem sc_Plan_first_tell : FnScope N_Plan_first_tell ["self", "mark"] (defScope s_Plan_first_tell) := ⟨rfl, rfl, rfl, by decide +kernel, rfl, by decide +kernel, by decide +kernel⟩
theorem ok_Plan_first_tell (h_Plan : Cls K C_Plan) (na_Plan : ∀ f ∈ fl_Plan, NoAttr K C_Plan f) (dd : Dm K C_Plan "first_tell" "Plan.first_tell" s_Plan_first_tell) : CalM P w K mg base 1 C_Plan "first_tell" ["self", "mark"] (spP K T 2 (pre_Plan_first_tell K C_Plan C_Ruler)) := by
  refine dd.cal (fun f fd F => F.ok sc_Plan_first_tell (fun vs H Q E h => spP_len h) fun cdv A outer s H vs Q E hr h => ?_) (fun _ _ _ _ _ _ us hl => match us, hl with | [_, _], _ => rfl)
  have nd := sc_Plan_first_tell.nd
  have hu := room_u hr
  refine ⟨_, (pss_cons (ps_for PassesOwn.never rfl (pi_list (pe_fld (pv 0) rfl)) (pg_tup (n := 2) rfl (pgs_cons (pg_name (i := 2) nd rfl (.inl rfl)) (pgs_cons (pg_name (i := 3) nd rfl (.inl rfl)) pgs_nil))) (pss_one (ps_if (pt_cmpR (op_eqK (K := K) rfl hu) (pv 3) (pv 1) (nomark _)) (pss_one (ps_ret (pv 2))) pss_nil))) (pss_one (ps_ret pe_non))), fn_run h ?_⟩
  intro xs st Φ hl hp
  clear hl h hu hr nd
  try dsimp only [L2.cxOf, NdefX.ncx]
  obtain ⟨p, m, rfl, q⟩ := hp
  refine ws_seq (ws_forL (we_fld (we_var rfl ⟨_, _, _, .ob, h_Plan, na_Plan _ (by decide), rfl, ?_⟩)))
  refine ⟨_, rfl, fun i ss' st' => st' = st ∧ firstTell p.ts m = firstTell (p.ts.drop i) m ∧ ∃ y2 y3 : Option Val, ss' = [some (planQ K C_Plan C_Ruler p), vI m, y2, y3], ⟨rfl, rfl, _, _, rfl⟩, ?_, ?_⟩
  · rintro i d ss' st' hd ⟨rfl, hf, y2, y3, rfl⟩
    obtain ⟨t, ht, rfl⟩ : ∃ t, p.ts[i]? = some t ∧ d = pairT t := by
      rw [List.getElem?_map] at hd
      cases e : p.ts[i]? with
      | none => rw [e] at hd; cases hd
      | some t => rw [e] at hd; exact ⟨t, rfl, (Option.some.inj hd).symm⟩
    obtain ⟨hi, e⟩ := List.getElem?_eq_some_iff.mp ht
    rw [List.drop_eq_getElem_cons hi, e] at hf
    unfold firstTell at hf
    rw [List.find?_cons] at hf
    obtain ⟨a, b⟩ := t
    walk_at "s"
    refine ⟨fun h => ?_, fun h => ?_⟩
    · have hf : firstTell p.ts m = some a := by
        unfold firstTell
        rw [hf]
        simp only [h]
        rfl
      rw [hf] at q
      walk_at "s"
      exact fin_pd (by simp) q
    · walk_at "s"
      refine ⟨rfl, ?_, _, _, rfl⟩
      unfold firstTell
      rw [hf]
      simp only [h]
  · rintro ss' st' ⟨rfl, hf, y2, y3, rfl⟩
    rw [List.length_map, List.drop_length] at hf
    rw [hf] at q
    walk_at "s"
    exact fin_pd (by simp) q
/-! ### Ruler_many -/
abbrev N_Ruler_many : List Str := ["self"]
theorem sc_Ruler_many : FnScope N_Ruler_many ["self"] (defScope s_Ruler_many) := ⟨rfl, rfl, rfl, by decide +kernel, rfl, by decide +kernel, by decide +kernel⟩
theorem ok_Ruler_many (Z : Zs mg) (h_Ruler : Cls K C_Ruler) (na_Ruler : ∀ f ∈ fl_Ruler, NoAttr K C_Ruler f) (dd : Dm K C_Ruler "many" "Ruler.many" s_Ruler_many) : CalM P w K mg base 1 C_Ruler "many" ["self"] (spP K T 1 (pre_Ruler_many K C_Ruler)) := by
  refine dd.cal (fun f fd F => F.ok sc_Ruler_many (fun vs H Q E h => spP_len h) fun cdv A outer s H vs Q E hr h => ?_) (fun _ _ _ _ _ _ us hl => match us, hl with | [_], _ => rfl)
  have nd := sc_Ruler_many.nd
  have hu := room_u hr
  refine ⟨_, (pss_one (ps_ret (pe_op (op_addK (K := K) rfl) (pe_callB (call_lenK (K := K) rfl) (by rfl) Z.len PySem.boot_len (pa_cons (pe_fld (pv 0) rfl) pa_nil)) pe_int))), fn_run h ?_⟩
  intro xs st Φ hl hp
  clear hl h hu hr nd
  try dsimp only [L2.cxOf, NdefX.ncx]
  obtain ⟨hs, rfl, q⟩ := hp
  walk_at "s"
  refine we_fld (we_var rfl ⟨_, _, _, .ob, h_Ruler, na_Ruler _ (by decide), rfl, ?_⟩)
  walk_at "s"
  rw [List.length_map]
  exact fin_pd (by simp) q
/-! ### Ruler_check_cell -/
abbrev N_Ruler_check_cell : List Str := ["self", "cell"]
theorem sc_Ruler_check_cell : FnScope N_Ruler_check_cell ["self", "cell"] (defScope s_Ruler_check_cell) := ⟨rfl, rfl, rfl, by decide +kernel, rfl, by decide +kernel, by decide +kernel⟩
theorem ok_Ruler_check_cell (c_Ruler_many : CalM P w K mg base 1 C_Ruler "many" ["self"] (spP K T 1 (pre_Ruler_many K C_Ruler))) (h_Ruler : Cls K C_Ruler) (na_Ruler : ∀ f ∈ fl_Ruler, NoAttr K C_Ruler f) (dd : Dm K C_Ruler "check_cell" "Ruler.check_cell" s_Ruler_check_cell) : CalM P w K mg base 2 C_Ruler "check_cell" ["self", "cell"] (spP K T 2 (pre_Ruler_check_cell K C_Ruler)) := by
  refine dd.cal (fun f fd F => F.ok sc_Ruler_check_cell (fun vs H Q E h => spP_len h) fun cdv A outer s H vs Q E hr h => ?_) (fun _ _ _ _ _ _ us hl => match us, hl with | [_, _], _ => rfl)
  have nd := sc_Ruler_check_cell.nd
  have hu := room_u hr
  refine ⟨_, (pss_one (ps_if (pt_not (pt_chain op_le op_le pe_int (pv 1) (pe_methC0 c_Ruler_many h_Ruler (hr.mono (by decide)) (pv 0)))) (pss_one ps_never) pss_nil)), fn_run h ?_⟩
  intro xs st Φ hl hp
  clear hl h hu hr nd
  try dsimp only [L2.cxOf, NdefX.ncx]
  obtain ⟨hs, c, rfl, hc, q⟩ := hp
  have hc : 1 ≤ c ∧ c ≤ hs.length + 1 := of_decide_eq_true hc
  walk_at "s"
  refine ⟨fun _ => ?_, fun h => absurd (of_decide_eq_false h) (by omega)⟩
  refine we_meth (we_var rfl ⟨_, .ob, rfl, ?_⟩)
  walk_at "s"
  refine ⟨by rfl, hs, rfl, ?_⟩
  walk_at "s"
  refine ⟨fun h => absurd h (by simp; omega), fun _ => ?_⟩
  walk_at "s"
  exact fin_pd (by simp) q
/-! ### Ruler_cell -/
abbrev N_Ruler_cell : List Str := ["self", "line", "low", "high", "middle"]
theorem sc_Ruler_cell : FnScope N_Ruler_cell ["self", "line"] (defScope s_Ruler_cell) := ⟨rfl, rfl, rfl, by decide +kernel, rfl, by decide +kernel, by decide +kernel⟩
theorem ok_Ruler_cell (Z : Zs mg) (h_Ruler : Cls K C_Ruler) (na_Ruler : ∀ f ∈ fl_Ruler, NoAttr K C_Ruler f) (dd : Dm K C_Ruler "cell" "Ruler.cell" s_Ruler_cell) : CalM P w K mg base 1 C_Ruler "cell" ["self", "line"] (spP K T 2 (pre_Ruler_cell K C_Ruler)) := by
  refine dd.cal (fun f fd F => F.ok sc_Ruler_cell (fun vs H Q E h => spP_len h) fun cdv A outer s H vs Q E hr h => ?_) (fun _ _ _ _ _ _ us hl => match us, hl with | [_, _], _ => rfl)
  have nd := sc_Ruler_cell.nd
  have hu := room_u hr
  refine ⟨_, (pss_cons (ps_asg pe_int (pg_name (i := 2) nd rfl (.inl rfl))) (pss_cons (ps_asg (pe_callB (call_lenK (K := K) rfl) (by rfl) Z.len PySem.boot_len (pa_cons (pe_fld (pv 0) rfl) pa_nil)) (pg_name (i := 3) nd rfl (.inl rfl))) (pss_cons (ps_while PassesOwn.never (pt_cmpR op_lt (pv 2) (pv 3) (nomark _)) (pss_cons (ps_asg (pe_op op_fdiv (pe_op (op_addK (K := K) rfl) (pv 2) (pv 3)) pe_int) (pg_name (i := 4) nd rfl (.inl rfl))) (pss_one (ps_if (pt_cmpR op_le (pe_ix (ix_seqK (K := K) rfl) (pe_fld (pv 0) rfl) (pv 4) (fun _ _ => rfl)) (pv 1) (nomark _)) (pss_one (ps_asg (pe_op (op_addK (K := K) rfl) (pv 4) pe_int) (pg_name (i := 2) nd rfl (.inl rfl)))) (pss_one (ps_asg (pv 4) (pg_name (i := 3) nd rfl (.inl rfl)))))))) (pss_one (ps_ret (pe_op (op_addK (K := K) rfl) (pv 2) pe_int)))))), fn_run h ?_⟩
  intro xs st Φ hl hp
  clear hl h hu hr nd
  try dsimp only [L2.cxOf, NdefX.ncx]
  obtain ⟨hs, l, rfl, ok, q⟩ := hp
  have ok' : ∀ h ∈ hs, 1 ≤ h := fun h hh => (ok.2 h hh).1
  have hlen := edges_len hs
  walk_at "s"
  refine we_fld (we_var rfl ⟨_, _, _, .ob, h_Ruler, na_Ruler _ (by decide), rfl, ?_⟩)
  walk_at "s"
  rw [List.length_map]
  refine ws_seq (ws_while (fun m ss' st' => st' = st ∧ ∃ (lo hi : Nat) (y : Option Val), ss' = [some (rulerO K C_Ruler hs), vI l, vI lo, vI hi, y] ∧ lo ≤ hi ∧ hi ≤ (edges hs).length ∧ m = hi - lo ∧
    (∀ (i : Nat) (h : i < (edges hs).length), i < lo → (edges hs)[i] ≤ l) ∧ ∀ (i : Nat) (h : i < (edges hs).length), hi ≤ i → l < (edges hs)[i])
    ⟨_, rfl, 0, (edges hs).length, none, rfl, Nat.zero_le _, Nat.le_refl _, rfl, fun i _ h => absurd h (Nat.not_lt_zero _), fun i h1 h2 => by omega⟩ ?_)
  rintro m ss' st' ⟨rfl, lo, hi, y, rfl, h1, h2, rfl, h3, h4⟩
  walk_at "s"
  refine ⟨fun hb => ?_, fun hb => ?_⟩
  · have hb : lo < hi := by
      have := of_decide_eq_true hb
      omega
    walk_at "s"
    refine we_fld (we_var rfl ⟨_, _, _, .ob, h_Ruler, na_Ruler _ (by decide), rfl, ?_⟩)
    walk_at "s"
    have em : ((lo : Int) + (hi : Int)) / 2 = (((lo + hi) / 2 : Nat) : Int) := by omega
    rw [em]
    have hm : (lo + hi) / 2 < (edges hs).length := by omega
    refine wr_ixuL rfl (d := .int (edges hs)[(lo + hi) / 2]) (atI_nat (by rw [List.getElem?_map, List.getElem?_eq_getElem hm]; rfl)) ?_
    walk_at "s"
    refine ⟨fun hx => ?_, fun hx => ?_⟩
    · have hx := of_decide_eq_true hx
      walk_at "s"
      refine ⟨hi - ((lo + hi) / 2 + 1), by omega, rfl, (lo + hi) / 2 + 1, hi, _, rfl, by omega, h2, rfl, fun i h h5 => ?_, h4⟩
      have := edges_le ok' h hm (by omega)
      omega
    · have hx := of_decide_eq_false hx
      walk_at "s"
      refine ⟨(lo + hi) / 2 - lo, by omega, rfl, lo, (lo + hi) / 2, _, rfl, by omega, by omega, rfl, h3, fun i h h5 => ?_⟩
      have := edges_le ok' hm h (by omega)
      omega
  · have hb : lo = hi := by
      have := of_decide_eq_false hb
      omega
    subst hb
    walk_at "s"
    rw [cells_eq h2 h3 h4] at q
    exact fin_pd (by simp) q
/-! ### Ruler_first -/
abbrev N_Ruler_first : List Str := ["self", "cell"]
theorem sc_Ruler_first : FnScope N_Ruler_first ["self", "cell"] (defScope s_Ruler_first) := ⟨rfl, rfl, rfl, by decide +kernel, rfl, by decide +kernel, by decide +kernel⟩
theorem ok_Ruler_first (c_Ruler_check_cell : CalM P w K mg base 2 C_Ruler "check_cell" ["self", "cell"] (spP K T 2 (pre_Ruler_check_cell K C_Ruler))) (h_Ruler : Cls K C_Ruler) (na_Ruler : ∀ f ∈ fl_Ruler, NoAttr K C_Ruler f) (dd : Dm K C_Ruler "first" "Ruler.first" s_Ruler_first) : CalM P w K mg base 3 C_Ruler "first" ["self", "cell"] (spP K T 2 (pre_Ruler_first K C_Ruler)) := by
  refine dd.cal (fun f fd F => F.ok sc_Ruler_first (fun vs H Q E h => spP_len h) fun cdv A outer s H vs Q E hr h => ?_) (fun _ _ _ _ _ _ us hl => match us, hl with | [_, _], _ => rfl)
  have nd := sc_Ruler_first.nd
  have hu := room_u hr
  refine ⟨_, (pss_cons (ps_expr (pe_methC c_Ruler_check_cell h_Ruler (hr.mono (by decide)) (pv 0) (pa_cons (pv 1) pa_nil))) (pss_one (ps_ret (pe_ifExp (pt_cmpR (op_eqK (K := K) rfl hu) (pv 1) pe_int (nomark _)) pe_int (pe_ix (ix_seqK (K := K) rfl) (pe_fld (pv 0) rfl) (pe_op op_sub (pv 1) pe_int) (fun _ _ => rfl)))))), fn_run h ?_⟩
  intro xs st Φ hl hp
  clear hl h hu hr nd
  try dsimp only [L2.cxOf, NdefX.ncx]
  obtain ⟨hs, c, rfl, hc, q⟩ := hp
  have hc2 : 1 ≤ c ∧ c ≤ hs.length + 1 := of_decide_eq_true hc
  have hlen := edges_len hs
  refine ws_seq (ws_drop (we_meth (we_var rfl ⟨_, .ob, rfl, ?_⟩)))
  walk_at "s"
  refine ⟨by rfl, hs, c, rfl, hc, ?_⟩
  refine ws_ret (we_if ?_)
  walk_at "s"
  have q : Φ (.pd (.int (if c = 1 then 0 else (edges hs).getD (c - 2).toNat 0))) st := q
  refine ⟨fun h => ?_, fun h => ?_⟩
  · rw [if_pos (of_decide_eq_true h)] at q
    walk_at "s"
    exact fin_pd (by simp) q
  · have h := of_decide_eq_false h
    rw [if_neg h, gD_at (show (c - 2).toNat < (edges hs).length by omega)] at q
    walk_at "s"
    refine we_fld (we_var rfl ⟨_, _, _, .ob, h_Ruler, na_Ruler _ (by decide), rfl, ?_⟩)
    walk_at "s"
    rw [show c - 2 = (((c - 2).toNat : Nat) : Int) by omega]
    refine wr_ixuL rfl (atI_nat (by rw [List.getElem?_map, List.getElem?_eq_getElem (show (c - 2).toNat < (edges hs).length by omega)]; rfl)) ?_
    exact fin_pd (by simp) q
/-! ### Ruler_last -/
abbrev N_Ruler_last : List Str := ["self", "cell"]
theorem sc_Ruler_last : FnScope N_Ruler_last ["self", "cell"] (defScope s_Ruler_last) := ⟨rfl, rfl, rfl, by decide +kernel, rfl, by decide +kernel, by decide +kernel⟩
theorem ok_Ruler_last (c_Ruler_many : CalM P w K mg base 1 C_Ruler "many" ["self"] (spP K T 1 (pre_Ruler_many K C_Ruler))) (c_Ruler_check_cell : CalM P w K mg base 2 C_Ruler "check_cell" ["self", "cell"] (spP K T 2 (pre_Ruler_check_cell K C_Ruler))) (h_Ruler : Cls K C_Ruler) (na_Ruler : ∀ f ∈ fl_Ruler, NoAttr K C_Ruler f) (dd : Dm K C_Ruler "last" "Ruler.last" s_Ruler_last) : CalM P w K mg base 3 C_Ruler "last" ["self", "cell"] (spP K T 2 (pre_Ruler_last K C_Ruler)) := by
  refine dd.cal (fun f fd F => F.ok sc_Ruler_last (fun vs H Q E h => spP_len h) fun cdv A outer s H vs Q E hr h => ?_) (fun _ _ _ _ _ _ us hl => match us, hl with | [_, _], _ => rfl)
  have nd := sc_Ruler_last.nd
  have hu := room_u hr
  refine ⟨_, (pss_cons (ps_expr (pe_methC c_Ruler_check_cell h_Ruler (hr.mono (by decide)) (pv 0) (pa_cons (pv 1) pa_nil))) (pss_one (ps_ret (pe_ifExp (pt_cmpR (op_eqK (K := K) rfl hu) (pv 1) (pe_methC0 c_Ruler_many h_Ruler (hr.mono (by decide)) (pv 0)) (nomark _)) pe_non (pe_op op_sub (pe_ix (ix_seqK (K := K) rfl) (pe_fld (pv 0) rfl) (pe_op op_sub (pv 1) pe_int) (fun _ _ => rfl)) pe_int))))), fn_run h ?_⟩
  intro xs st Φ hl hp
  clear hl h hu hr nd
  try dsimp only [L2.cxOf, NdefX.ncx]
  obtain ⟨hs, c, rfl, hc, q⟩ := hp
  have hc2 : 1 ≤ c ∧ c ≤ hs.length + 1 := of_decide_eq_true hc
  have hlen := edges_len hs
  refine ws_seq (ws_drop (we_meth (we_var rfl ⟨_, .ob, rfl, ?_⟩)))
  walk_at "s"
  refine ⟨by rfl, hs, c, rfl, hc, ?_⟩
  refine ws_ret (we_if ?_)
  walk_at "s"
  refine we_meth (we_var rfl ⟨_, .ob, rfl, ?_⟩)
  walk_at "s"
  refine ⟨by rfl, hs, rfl, ?_⟩
  walk_at "s"
  have q : Φ (.pd (eOpt (if c = hs.length + 1 then none else some ((edges hs).getD (c - 1).toNat 0 - 1)))) st := q
  refine ⟨fun h => ?_, fun h => ?_⟩
  · rw [if_pos (of_decide_eq_true h)] at q
    walk_at "s"
    exact fin_pd (by simp) q
  · have h := of_decide_eq_false h
    rw [if_neg h, gD_at (show (c - 1).toNat < (edges hs).length by omega)] at q
    walk_at "s"
    refine we_fld (we_var rfl ⟨_, _, _, .ob, h_Ruler, na_Ruler _ (by decide), rfl, ?_⟩)
    walk_at "s"
    rw [show c - 1 = (((c - 1).toNat : Nat) : Int) by omega]
    refine wr_ixuL rfl (atI_nat (by rw [List.getElem?_map, List.getElem?_eq_getElem (show (c - 1).toNat < (edges hs).length by omega)]; rfl)) ?_
    walk_at "s"
    exact fin_pd (by simp) q
/-! ### Plan_cell -/
abbrev N_Plan_cell : List Str := ["self", "line"]
theorem sc_Plan_cell : FnScope N_Plan_cell ["self", "line"] (defScope s_Plan_cell) := ⟨rfl, rfl, rfl, by decide +kernel, rfl, by decide +kernel, by decide +kernel⟩
theorem ok_Plan_cell (c_Ruler_cell : CalM P w K mg base 1 C_Ruler "cell" ["self", "line"] (spP K T 2 (pre_Ruler_cell K C_Ruler))) (h_Plan : Cls K C_Plan) (h_Ruler : Cls K C_Ruler) (na_Plan : ∀ f ∈ fl_Plan, NoAttr K C_Plan f) (na_Ruler : ∀ f ∈ fl_Ruler, NoAttr K C_Ruler f) (dd : Dm K C_Plan "cell" "Plan.cell" s_Plan_cell) : CalM P w K mg base 2 C_Plan "cell" ["self", "line"] (spP K T 2 (pre_Plan_cell K C_Plan C_Ruler)) := by
  refine dd.cal (fun f fd F => F.ok sc_Plan_cell (fun vs H Q E h => spP_len h) fun cdv A outer s H vs Q E hr h => ?_) (fun _ _ _ _ _ _ us hl => match us, hl with | [_, _], _ => rfl)
  have nd := sc_Plan_cell.nd
  have hu := room_u hr
  refine ⟨_, (pss_cons (ps_if (pt_cmpR op_lt (pv 1) pe_int (nomark _)) (pss_one ps_never) pss_nil) (pss_one (ps_ret (pe_ifExp (pt_cmpR op_isN (pe_fld (pv 0) rfl) pe_non (nomark _)) (pe_op (op_addK (K := K) rfl) (pe_op op_fdiv (pv 1) (pe_fld (pv 0) rfl)) pe_int) (pe_methC c_Ruler_cell h_Ruler (hr.mono (by decide)) (pe_fld (pv 0) rfl) (pa_cons (pv 1) pa_nil)))))), fn_run h ?_⟩
  intro xs st Φ hl hp
  clear hl h hu hr nd
  try dsimp only [L2.cxOf, NdefX.ncx]
  obtain ⟨⟨s, ru, r, ss, ts⟩, l, rfl, h1, ok, q⟩ := hp
  walk_at "f"
  refine ⟨fun h => absurd (of_decide_eq_true h) (by omega), fun _ => ?_⟩
  refine ws_next ?_
  refine ws_ret (we_if ?_)
  walk_at "s"
  refine we_fld (we_var rfl ⟨_, _, _, .ob, h_Plan, na_Plan _ (by decide), rfl, ?_⟩)
  cases ru with
  | pages H =>
    obtain ⟨k1, k2⟩ := ok
    dsimp only [toldV]
    have q : Φ (.pd (.int (l / H + 1))) st := q
    walk_at "s"
    refine ⟨fun _ => ?_, fun h => (by cases h)⟩
    walk_at "s"
    refine we_fld (we_var rfl ⟨_, _, _, .ob, h_Plan, na_Plan _ (by decide), rfl, ?_⟩)
    dsimp only [pageV]
    walk_at "s"
    exact fin_pd (by simp) q
  | cells hs =>
    refine we_c rfl (wr_isNO ?_)
    refine ⟨_, rfl, fun h => (by cases h), fun _ => ?_⟩
    refine we_meth (we_fld (we_var rfl ⟨_, _, _, .ob, h_Plan, na_Plan _ (by decide), rfl, _, .ob, rfl, ?_⟩))
    walk_at "s"
    exact ⟨by rfl, hs, l, rfl, ok, fin_pd (by simp) q⟩
/-! ### Plan_has_cell -/
abbrev N_Plan_has_cell : List Str := ["self", "cell"]
theorem sc_Plan_has_cell : FnScope N_Plan_has_cell ["self", "cell"] (defScope s_Plan_has_cell) := ⟨rfl, rfl, rfl, by decide +kernel, rfl, by decide +kernel, by decide +kernel⟩
theorem ok_Plan_has_cell (c_Ruler_many : CalM P w K mg base 1 C_Ruler "many" ["self"] (spP K T 1 (pre_Ruler_many K C_Ruler))) (h_Ruler : Cls K C_Ruler) (h_Plan : Cls K C_Plan) (na_Ruler : ∀ f ∈ fl_Ruler, NoAttr K C_Ruler f) (na_Plan : ∀ f ∈ fl_Plan, NoAttr K C_Plan f) (dd : Dm K C_Plan "has_cell" "Plan.has_cell" s_Plan_has_cell) : CalM P w K mg base 2 C_Plan "has_cell" ["self", "cell"] (spP K T 2 (pre_Plan_has_cell K C_Plan C_Ruler)) := by
  refine dd.cal (fun f fd F => F.ok sc_Plan_has_cell (fun vs H Q E h => spP_len h) fun cdv A outer s H vs Q E hr h => ?_) (fun _ _ _ _ _ _ us hl => match us, hl with | [_, _], _ => rfl)
  have nd := sc_Plan_has_cell.nd
  have hu := room_u hr
  refine ⟨_, (pss_one (ps_ret (pe_and (pe_cmpR op_ge (pv 1) pe_int (nomark _)) (pe_one (pe_or (pe_cmpR op_isN (pe_fld (pv 0) rfl) pe_non (nomark _)) (pe_one (pe_cmpR op_le (pv 1) (pe_methC0 c_Ruler_many h_Ruler (hr.mono (by decide)) (pe_fld (pv 0) rfl)) (nomark _)))))))), fn_run h ?_⟩
  intro xs st Φ hl hp
  clear hl h hu hr nd
  try dsimp only [L2.cxOf, NdefX.ncx]
  obtain ⟨⟨s, ru, r, ss, ts⟩, c, rfl, q⟩ := hp
  walk_at "s"
  refine ⟨fun h => ?_, fun h => ?_⟩
  · have h : 1 ≤ c := of_decide_eq_true h
    walk_at "s"
    refine we_fld (we_var rfl ⟨_, _, _, .ob, h_Plan, na_Plan _ (by decide), rfl, ?_⟩)
    cases ru with
    | pages H =>
      rw [show hasC (.pages H) c = true from decide_eq_true h] at q
      dsimp only [toldV]
      walk_at "s"
      refine ⟨fun _ => ?_, fun h => (by cases h)⟩
      exact fin_pd (by simp) q
    | cells hs =>
      refine we_c rfl (wr_isNO ?_)
      walk_at "s"
      refine ⟨fun h => (by cases h), fun _ => ?_⟩
      walk_at "s"
      refine we_meth (we_fld (we_var rfl ⟨_, _, _, .ob, h_Plan, na_Plan _ (by decide), rfl, _, .ob, rfl, ?_⟩))
      walk_at "s"
      refine ⟨by rfl, hs, rfl, ?_⟩
      walk_at "s"
      have e : hasC (.cells hs) c = decide (c ≤ hs.length + 1) := by
        show decide (1 ≤ c ∧ c ≤ hs.length + 1) = _
        simp [h]
      rw [show hasC (PlanQ.mk s (.cells hs) r ss ts).ru c = decide (c ≤ hs.length + 1) from e] at q
      exact fin_pd (by simp) q
  · have h : ¬ 1 ≤ c := of_decide_eq_false h
    have e : hasC ru c = false := by cases ru <;> exact decide_eq_false (by omega)
    rw [show hasC (PlanQ.mk s ru r ss ts).ru c = false from e] at q
    exact fin_pd (by simp) q
/-! ### Plan_first -/
abbrev N_Plan_first : List Str := ["self", "cell"]
theorem sc_Plan_first : FnScope N_Plan_first ["self", "cell"] (defScope s_Plan_first) := ⟨rfl, rfl, rfl, by decide +kernel, rfl, by decide +kernel, by decide +kernel⟩
theorem ok_Plan_first (c_Ruler_first : CalM P w K mg base 3 C_Ruler "first" ["self", "cell"] (spP K T 2 (pre_Ruler_first K C_Ruler))) (c_Plan_has_cell : CalM P w K mg base 2 C_Plan "has_cell" ["self", "cell"] (spP K T 2 (pre_Plan_has_cell K C_Plan C_Ruler))) (h_Plan : Cls K C_Plan) (h_Ruler : Cls K C_Ruler) (na_Plan : ∀ f ∈ fl_Plan, NoAttr K C_Plan f) (na_Ruler : ∀ f ∈ fl_Ruler, NoAttr K C_Ruler f) (dd : Dm K C_Plan "first" "Plan.first" s_Plan_first) : CalM P w K mg base 4 C_Plan "first" ["self", "cell"] (spP K T 2 (pre_Plan_first K C_Plan C_Ruler)) := by
  refine dd.cal (fun f fd F => F.ok sc_Plan_first (fun vs H Q E h => spP_len h) fun cdv A outer s H vs Q E hr h => ?_) (fun _ _ _ _ _ _ us hl => match us, hl with | [_, _], _ => rfl)
  have nd := sc_Plan_first.nd
  have hu := room_u hr
  refine ⟨_, (pss_cons (ps_if (pt_not (pt_val (pe_methC c_Plan_has_cell h_Plan (hr.mono (by decide)) (pv 0) (pa_cons (pv 1) pa_nil)))) (pss_one ps_never) pss_nil) (pss_one (ps_ret (pe_ifExp (pt_cmpR op_isN (pe_fld (pv 0) rfl) pe_non (nomark _)) (pe_op op_mul (pe_op op_sub (pv 1) pe_int) (pe_fld (pv 0) rfl)) (pe_methC c_Ruler_first h_Ruler (hr.mono (by decide)) (pe_fld (pv 0) rfl) (pa_cons (pv 1) pa_nil)))))), fn_run h ?_⟩
  intro xs st Φ hl hp
  clear hl h hu hr nd
  try dsimp only [L2.cxOf, NdefX.ncx]
  obtain ⟨⟨s, ru, r, ss, ts⟩, c, rfl, ok, hc, hb, q⟩ := hp
  dsimp only at ok hc q
  walk_at "f"
  refine we_meth (we_var rfl ⟨_, .ob, rfl, ?_⟩)
  walk_at "s"
  refine ⟨by rfl, _, c, rfl, ?_⟩
  dsimp only
  rw [hc]
  refine ⟨_, rfl, fun h => (by cases h), fun _ => ?_⟩
  refine ws_next ?_
  refine ws_ret (we_if ?_)
  walk_at "s"
  refine we_fld (we_var rfl ⟨_, _, _, .ob, h_Plan, na_Plan _ (by decide), rfl, ?_⟩)
  cases ru with
  | pages H =>
    obtain ⟨k1, k2⟩ := ok
    have hc : 1 ≤ c := of_decide_eq_true hc
    dsimp only [toldV]
    have q : Φ (.pd (.int ((c - 1) * H))) st := q
    walk_at "s"
    refine ⟨fun _ => ?_, fun h => (by cases h)⟩
    walk_at "s"
    refine we_fld (we_var rfl ⟨_, _, _, .ob, h_Plan, na_Plan _ (by decide), rfl, ?_⟩)
    dsimp only [pageV]
    walk_at "s"
    exact fin_pd (by simp) q
  | cells hs =>
    refine we_c rfl (wr_isNO ?_)
    refine ⟨_, rfl, fun h => (by cases h), fun _ => ?_⟩
    refine we_meth (we_fld (we_var rfl ⟨_, _, _, .ob, h_Plan, na_Plan _ (by decide), rfl, _, .ob, rfl, ?_⟩))
    walk_at "s"
    exact ⟨by rfl, hs, c, rfl, hc, fin_pd (by simp) q⟩
/-! ### Plan_last -/
abbrev N_Plan_last : List Str := ["self", "cell"]
theorem sc_Plan_last : FnScope N_Plan_last ["self", "cell"] (defScope s_Plan_last) := ⟨rfl, rfl, rfl, by decide +kernel, rfl, by decide +kernel, by decide +kernel⟩
theorem ok_Plan_last (c_Ruler_last : CalM P w K mg base 3 C_Ruler "last" ["self", "cell"] (spP K T 2 (pre_Ruler_last K C_Ruler))) (c_Plan_has_cell : CalM P w K mg base 2 C_Plan "has_cell" ["self", "cell"] (spP K T 2 (pre_Plan_has_cell K C_Plan C_Ruler))) (h_Plan : Cls K C_Plan) (h_Ruler : Cls K C_Ruler) (na_Plan : ∀ f ∈ fl_Plan, NoAttr K C_Plan f) (na_Ruler : ∀ f ∈ fl_Ruler, NoAttr K C_Ruler f) (dd : Dm K C_Plan "last" "Plan.last" s_Plan_last) : CalM P w K mg base 4 C_Plan "last" ["self", "cell"] (spP K T 2 (pre_Plan_last K C_Plan C_Ruler)) := by
  refine dd.cal (fun f fd F => F.ok sc_Plan_last (fun vs H Q E h => spP_len h) fun cdv A outer s H vs Q E hr h => ?_) (fun _ _ _ _ _ _ us hl => match us, hl with | [_, _], _ => rfl)
  have nd := sc_Plan_last.nd
  have hu := room_u hr
  refine ⟨_, (pss_cons (ps_if (pt_not (pt_val (pe_methC c_Plan_has_cell h_Plan (hr.mono (by decide)) (pv 0) (pa_cons (pv 1) pa_nil)))) (pss_one ps_never) pss_nil) (pss_one (ps_ret (pe_ifExp (pt_cmpR op_isN (pe_fld (pv 0) rfl) pe_non (nomark _)) (pe_op op_sub (pe_op op_mul (pv 1) (pe_fld (pv 0) rfl)) pe_int) (pe_methC c_Ruler_last h_Ruler (hr.mono (by decide)) (pe_fld (pv 0) rfl) (pa_cons (pv 1) pa_nil)))))), fn_run h ?_⟩
  intro xs st Φ hl hp
  clear hl h hu hr nd
  try dsimp only [L2.cxOf, NdefX.ncx]
  obtain ⟨⟨s, ru, r, ss, ts⟩, c, rfl, ok, hc, hb, q⟩ := hp
  dsimp only at ok hc q
  walk_at "f"
  refine we_meth (we_var rfl ⟨_, .ob, rfl, ?_⟩)
  walk_at "s"
  refine ⟨by rfl, _, c, rfl, ?_⟩
  dsimp only
  rw [hc]
  refine ⟨_, rfl, fun h => (by cases h), fun _ => ?_⟩
  refine ws_next ?_
  refine ws_ret (we_if ?_)
  walk_at "s"
  refine we_fld (we_var rfl ⟨_, _, _, .ob, h_Plan, na_Plan _ (by decide), rfl, ?_⟩)
  cases ru with
  | pages H =>
    obtain ⟨k1, k2⟩ := ok
    have hc : 1 ≤ c := of_decide_eq_true hc
    dsimp only [toldV]
    have q : Φ (.pd (.int (c * H - 1))) st := q
    walk_at "s"
    refine ⟨fun _ => ?_, fun h => (by cases h)⟩
    walk_at "s"
    refine we_fld (we_var rfl ⟨_, _, _, .ob, h_Plan, na_Plan _ (by decide), rfl, ?_⟩)
    dsimp only [pageV]
    walk_at "s"
    exact fin_pd (by simp) q
  | cells hs =>
    refine we_c rfl (wr_isNO ?_)
    refine ⟨_, rfl, fun h => (by cases h), fun _ => ?_⟩
    refine we_meth (we_fld (we_var rfl ⟨_, _, _, .ob, h_Plan, na_Plan _ (by decide), rfl, _, .ob, rfl, ?_⟩))
    walk_at "s"
    exact ⟨by rfl, hs, c, rfl, hc, fin_pd (by simp) q⟩
/-! ### Plan_ruler -/
abbrev N_Plan_ruler : List Str := ["self"]
theorem sc_Plan_ruler : FnScope N_Plan_ruler ["self"] (defScope s_Plan_ruler) := ⟨rfl, rfl, rfl, by decide +kernel, rfl, by decide +kernel, by decide +kernel⟩
theorem ok_Plan_ruler (h_Plan : Cls K C_Plan) (na_Plan : ∀ f ∈ fl_Plan, NoAttr K C_Plan f) (dd : Dm K C_Plan "ruler" "Plan.ruler" s_Plan_ruler) : CalM P w K mg base 1 C_Plan "ruler" ["self"] (spP K T 1 (pre_Plan_ruler K C_Plan C_Ruler)) := by
  refine dd.cal (fun f fd F => F.ok sc_Plan_ruler (fun vs H Q E h => spP_len h) fun cdv A outer s H vs Q E hr h => ?_) (fun _ _ _ _ _ _ us hl => match us, hl with | [_], _ => rfl)
  have nd := sc_Plan_ruler.nd
  have hu := room_u hr
  refine ⟨_, (pss_one (ps_ret (pe_ifExp (pt_cmpR op_isN (pe_fld (pv 0) rfl) pe_non (nomark _)) (pe_tup (pa_cons pe_str (pa_cons (pe_fld (pv 0) rfl) pa_nil))) (pe_fld (pv 0) rfl)))), fn_run h ?_⟩
  intro xs st Φ hl hp
  clear hl h hu hr nd
  try dsimp only [L2.cxOf, NdefX.ncx]
  obtain ⟨⟨s, ru, r, ss, ts⟩, rfl, q⟩ := hp
  refine ws_ret (we_if ?_)
  walk_at "s"
  refine we_fld (we_var rfl ⟨_, _, _, .ob, h_Plan, na_Plan _ (by decide), rfl, ?_⟩)
  cases ru with
  | pages H =>
    dsimp only [toldV]
    walk_at "s"
    refine ⟨fun _ => ?_, fun h => (by cases h)⟩
    walk_at "s"
    refine we_fld (we_var rfl ⟨_, _, _, .ob, h_Plan, na_Plan _ (by decide), rfl, ?_⟩)
    walk_at "s"
    refine ⟨_, _, purs_cons (purs_cons purs_nil), big_le (by simp), ?_⟩
    exact fin_pd (by simp) q
  | cells hs =>
    refine we_c rfl (wr_isNO ?_)
    refine ⟨_, rfl, fun h => (by cases h), fun _ => ?_⟩
    refine we_fld (we_var rfl ⟨_, _, _, .ob, h_Plan, na_Plan _ (by decide), rfl, ?_⟩)
    exact fin_ob (by simp) q
/-! ### lesser_end -/
abbrev N_lesser_end : List Str := ["one", "other"]
theorem sc_lesser_end : FnScope N_lesser_end ["one", "other"] (defScope s_lesser_end) := ⟨rfl, rfl, rfl, by decide +kernel, rfl, by decide +kernel, by decide +kernel⟩
theorem ok_lesser_end (dd : Df K mg "lesser_end" s_lesser_end) : Cal P w K mg base 1 "lesser_end" ["one", "other"] (spP K T 2 pre_lesser_end) := by
  refine dd.cal (fun f fd F => F.ok sc_lesser_end (fun vs H Q E h => spP_len h) fun cdv A outer s H vs Q E hr h => ?_) (fun _ _ _ _ _ _ us hl => match us, hl with | [_, _], _ => rfl)
  have nd := sc_lesser_end.nd
  have hu := room_u hr
  refine ⟨_, (pss_cons (ps_if (pt_cmpR op_isN (pv 0) pe_non (nomark _)) (pss_one (ps_ret (pv 1))) pss_nil) (pss_one (ps_ret (pe_ifExp (PW.pt (pw_or (pt_cmpR op_isN (pv 1) pe_non (nomark _)) (pw_or1 (pt_cmpR op_lt (pv 0) (pv 1) (nomark _))))) (pv 0) (pv 1))))), fn_run h ?_⟩
  intro xs st Φ hl hp
  clear hl h hu hr nd
  try dsimp only [L2.cxOf, NdefX.ncx]
  obtain ⟨a, b, rfl, q⟩ := hp
  cases a with
  | none =>
    walk_at "f"
    refine ⟨fun _ => ?_, fun h => by cases h⟩
    walk_at "s"
    exact fin_pd (by simp) q
  | some a =>
    walk_at "f"
    refine ⟨fun h => (by cases h), fun _ => ?_⟩
    walk_at "s"
    cases b with
    | none =>
      refine ⟨fun _ => ⟨fun _ => ?_, fun h => by cases h⟩, fun h => by cases h⟩
      walk_at "s"
      exact fin_pd (by simp) q
    | some b =>
      refine ⟨fun h => (by cases h), fun _ => ?_⟩
      have q : Φ (.pd (eOpt (if a < b then some a else some b))) st := q
      rw [show eOpt (some a) = .int a from rfl, show eOpt (some b) = .int b from rfl]
      walk_at "s"
      refine ⟨fun h => ?_, fun h => ?_⟩
      · rw [if_pos (of_decide_eq_true h)] at q
        walk_at "s"
        exact fin_pd (by simp) q
      · rw [if_neg (of_decide_eq_false h)] at q
        walk_at "s"
        exact fin_pd (by simp) q
/-! ### arcs_meet -/
abbrev N_arcs_meet : List Str := ["r", "s", "made", "at", "to", "first", "last"]
theorem sc_arcs_meet : FnScope N_arcs_meet ["r", "s"] (defScope s_arcs_meet) := ⟨rfl, rfl, rfl, by decide +kernel, rfl, by decide +kernel, by decide +kernel⟩
theorem ok_arcs_meet (c_lesser_end : Cal P w K mg base 1 "lesser_end" ["one", "other"] (spP K T 2 pre_lesser_end)) (Z : Zs mg) (dd : Df K mg "arcs_meet" s_arcs_meet) : Cal P w K mg base 2 "arcs_meet" ["r", "s"] (spP K T 2 pre_arcs_meet) := by
  refine dd.cal (fun f fd F => F.ok sc_arcs_meet (fun vs H Q E h => spP_len h) fun cdv A outer s H vs Q E hr h => ?_) (fun _ _ _ _ _ _ us hl => match us, hl with | [_, _], _ => rfl)
  have nd := sc_arcs_meet.nd
  have hu := room_u hr
  refine ⟨_, (pss_cons (ps_asg (pe_lst pa_nil) (pg_name (i := 2) nd rfl (.inl rfl))) (pss_cons (ps_asg pe_int (pg_name (i := 3) nd rfl (.inl rfl))) (pss_cons (ps_asg pe_int (pg_name (i := 4) nd rfl (.inl rfl))) (pss_cons (ps_while PassesOwn.never (PW.pt (pw_and (pt_cmpR op_lt (pv 3) (pe_callB (call_lenK (K := K) rfl) (by rfl) Z.len PySem.boot_len (pa_cons (pv 0) pa_nil)) (nomark _)) (pw_and1 (pt_cmpR op_lt (pv 4) (pe_callB (call_lenK (K := K) rfl) (by rfl) Z.len PySem.boot_len (pa_cons (pv 1) pa_nil)) (nomark _))))) (pss_cons (ps_asg (pe_callB (call_max2 rfl) (by rfl) Z.max boot_max (pa_cons (pe_ix (ix_seqK (K := K) rfl) (pe_ix (ix_seqK (K := K) rfl) (pv 0) (pv 3) (fun _ _ => rfl)) pe_int (fun _ _ => rfl)) (pa_cons (pe_ix (ix_seqK (K := K) rfl) (pe_ix (ix_seqK (K := K) rfl) (pv 1) (pv 4) (fun _ _ => rfl)) pe_int (fun _ _ => rfl)) pa_nil))) (pg_name (i := 5) nd rfl (.inl rfl))) (pss_cons (ps_asg (pe_callC c_lesser_end (hr.mono (by decide)) (by rfl) (pa_cons (pe_ix (ix_seqK (K := K) rfl) (pe_ix (ix_seqK (K := K) rfl) (pv 0) (pv 3) (fun _ _ => rfl)) pe_int (fun _ _ => rfl)) (pa_cons (pe_ix (ix_seqK (K := K) rfl) (pe_ix (ix_seqK (K := K) rfl) (pv 1) (pv 4) (fun _ _ => rfl)) pe_int (fun _ _ => rfl)) pa_nil))) (pg_name (i := 6) nd rfl (.inl rfl))) (pss_cons (ps_if (PW.pt (pw_or (pt_cmpR op_isN (pv 6) pe_non (nomark _)) (pw_or1 (pt_cmpR op_le (pv 5) (pv 6) (nomark _))))) (pss_one (ps_expr (pe_bm PySem.F.plainAttrs_list PySem.F.slot_list_append PySem.F.type_list_append mt_append (pv 2) (pa_cons (pe_tup (pa_cons (pv 5) (pa_cons (pv 6) pa_nil))) pa_nil)))) pss_nil) (pss_cons (ps_if (pt_cmpR op_isN (pv 6) pe_non (nomark _)) (pss_one ps_break) pss_nil) (pss_one (ps_if (pt_cmpR (op_eqK (K := K) rfl hu) (pe_ix (ix_seqK (K := K) rfl) (pe_ix (ix_seqK (K := K) rfl) (pv 0) (pv 3) (fun _ _ => rfl)) pe_int (fun _ _ => rfl)) (pv 6) (nomark _)) (pss_one (ps_aug (i := 3) nd rfl (.inl rfl) pe_int ip_add)) (pss_one (ps_aug (i := 4) nd rfl (.inl rfl) pe_int ip_add))))))))) (pss_one (ps_ret (pv 2))))))), fn_run h ?_⟩
  intro xs st Φ hl hp
  clear hl h hu hr nd
  try dsimp only [L2.cxOf, NdefX.ncx]
  obtain ⟨r, s, rfl, hl, q⟩ := hp
  walk_at "c"
  refine ws_seq (ws_while (fun m ss' st' => ∃ (at_ to : Nat) (made : List Arc) (y5 y6 : Option Val), ss' = [some (.pd (eArcs r)), some (.pd (eArcs s)), some (.cell st.length), some (.pd (.int at_)), some (.pd (.int to)), y5, y6] ∧ st' = st ++ [.mu (made.map eArc)] ∧
    at_ ≤ r.length ∧ to ≤ s.length ∧ m = (r.length - at_) + (s.length - to) ∧ made ++ meetN m (r.drop at_) (s.drop to) = arcsMeet r s) ⟨_, 0, 0, [], none, none, rfl, rfl, Nat.zero_le _, Nat.zero_le _, rfl, rfl⟩ ?_)
  rintro m ss' st' ⟨at_, to, made, y5, y6, rfl, rfl, h1, h2, rfl, he⟩
  have hmade : made.length ≤ r.length + s.length := by
    have h3 := congrArg List.length he
    have h4 := meetN_le (r.length + s.length) r s
    rw [List.length_append] at h3
    unfold arcsMeet at h3
    omega
  walk_at "s"
  refine ⟨fun hb => ?_, fun hb => ⟨fun h => (by cases h), fun _ => ?_⟩⟩
  · have hat : at_ < r.length := by
      have := of_decide_eq_true hb
      simp at this
      exact this
    walk_at "s"
    refine ⟨fun hb2 => ?_, fun hb2 => ?_⟩
    · have hto : to < s.length := by
        have := of_decide_eq_true hb2
        simp at this
        exact this
      walk_at "s"
      refine wr_ixuL rfl (at_arc hat) ?_
      walk_at "s"
      refine wr_ixuL rfl (at_arc hto) ?_
      walk_at "s"
      refine wr_ixuL rfl (at_arc hat) ?_
      walk_at "s"
      refine wr_ixuL rfl (at_arc hto) ?_
      walk_at "s"
      refine ⟨rfl, _, _, rfl, ?_⟩
      walk_at "s"
      have em : meetN ((r.length - at_) + (s.length - to)) (r.drop at_) (s.drop to) = match lesserEnd r[at_].2 s[to].2 with
        | none => [(if s[to].1 > r[at_].1 then s[to].1 else r[at_].1, none)]
        | some l => (if (if s[to].1 > r[at_].1 then s[to].1 else r[at_].1) ≤ l then [(if s[to].1 > r[at_].1 then s[to].1 else r[at_].1, some l)] else []) ++
          (if r[at_].2 = some l then meetN ((r.length - at_) + (s.length - to) - 1) (r.drop (at_ + 1)) (s.drop to) else meetN ((r.length - at_) + (s.length - to) - 1) (r.drop at_) (s.drop (to + 1))) := by
        obtain ⟨n, hn⟩ : ∃ n, (r.length - at_) + (s.length - to) = n + 1 := ⟨(r.length - at_) + (s.length - to) - 1, by omega⟩
        rw [hn, List.drop_eq_getElem_cons hat, List.drop_eq_getElem_cons hto]
        rfl
      rw [em] at he
      generalize hfirst : (if s[to].1 > r[at_].1 then s[to].1 else r[at_].1) = first at he ⊢
      refine ws_mid (fun ss' st' => ss' = [some (.pd (eArcs r)), some (.pd (eArcs s)), some (.cell st.length), some (.pd (.int at_)), some (.pd (.int to)), some (.pd (.int first)), some (.pd (eOpt (lesserEnd r[at_].2 s[to].2)))] ∧
        ∃ made' : List Arc, st' = st ++ [.mu (made'.map eArc)] ∧ made' = made ++ match lesserEnd r[at_].2 s[to].2 with
          | none => [(first, none)]
          | some l => if first ≤ l then [(first, some l)] else []) ?_ ?_
      · cases hlast : lesserEnd r[at_].2 s[to].2 with
        | none =>
          walk_at "s"
          refine ⟨fun _ => ⟨fun _ => ?_, fun h => (by cases h)⟩, fun h => (by cases h)⟩
          walk_at "s"
          exact ⟨rfl, _, by rw [snoc_arc], rfl⟩
        | some l =>
          rw [show eOpt (some l) = .int l from rfl]
          walk_at "s"
          refine ⟨fun h => (by cases h), fun _ => ?_⟩
          walk_at "s"
          refine ⟨fun h => ?_, fun h => ?_⟩
          · walk_at "s"
            exact ⟨rfl, _, by rw [snoc_arcS], by simp [of_decide_eq_true h]⟩
          · walk_at "s"
            exact ⟨rfl, made, rfl, by simp [of_decide_eq_false h]⟩
      · rintro ss' st' ⟨rfl, made', rfl, em'⟩
        cases hlast : lesserEnd r[at_].2 s[to].2 with
        | none =>
          rw [hlast] at he em'
          walk_at "f"
          refine ⟨fun _ => ?_, fun h => (by cases h)⟩
          walk_at "s"
          rw [show made' = arcsMeet r s from em'.trans he]
          exact fin_end q
        | some l =>
          rw [hlast] at he em'
          have he : made ++ ((if first ≤ l then [(first, some l)] else []) ++ if r[at_].2 = some l then meetN ((r.length - at_) + (s.length - to) - 1) (r.drop (at_ + 1)) (s.drop to) else meetN ((r.length - at_) + (s.length - to) - 1) (r.drop at_) (s.drop (to + 1))) = arcsMeet r s := he
          rw [← List.append_assoc, ← em'] at he
          walk_at "f"
          refine ⟨fun h => (by cases h), fun _ => ?_⟩
          walk_at "s"
          refine wr_ixuL rfl (at_arc hat) ?_
          walk_at "s"
          refine wr_eqD rfl rfl (shaped_opt _) (shaped_opt _) ?_
          walk_at "s"
          rw [show eOpt (some l) = .int l from rfl, eqv_opt]
          refine ⟨fun h => ?_, fun h => ?_⟩
          · rw [if_pos (of_decide_eq_true h)] at he
            walk_at "s"
            exact ⟨(r.length - at_) + (s.length - to) - 1, by omega, at_ + 1, to, made', _, _, rfl, rfl, hat, h2, by omega, he⟩
          · rw [if_neg (of_decide_eq_false h)] at he
            walk_at "s"
            exact ⟨(r.length - at_) + (s.length - to) - 1, by omega, at_, to + 1, made', _, _, rfl, rfl, h1, hto, by omega, he⟩
    · have hto : to = s.length := by
        have := of_decide_eq_false hb2
        simp at this
        omega
      walk_at "s"
      rw [hto, List.drop_length] at he
      have e0 : ∀ n r, meetN n r [] = [] := fun n r => by cases n <;> cases r <;> rfl
      rw [e0, List.append_nil] at he
      rw [he]
      exact fin_end q
  · have hat : at_ = r.length := by
      have := of_decide_eq_false hb
      simp at this
      omega
    walk_at "s"
    rw [hat, List.drop_length] at he
    have e0 : ∀ n s, meetN n [] s = [] := fun n s => by cases n <;> rfl
    rw [e0, List.append_nil] at he
    rw [he]
    exact fin_end q
/-! ### arcs_gathered -/
abbrev N_arcs_gathered : List Str := ["rows", "made", "first", "last", "begin", "end"]
theorem sc_arcs_gathered : FnScope N_arcs_gathered ["rows"] (defScope s_arcs_gathered) := ⟨rfl, rfl, rfl, by decide +kernel, rfl, by decide +kernel, by decide +kernel⟩
theorem ok_arcs_gathered (Z : Zs mg) (hG : Gath K base mg T "arcs_gathered" s_arcs_gathered) : Cal P w K mg base 1 "arcs_gathered" ["rows"] (spP K T 1 pre_arcs_gathered) := by
  refine gath_cal hG sc_arcs_gathered (fun vs H Q E h => spP_len h) (fun _ _ _ _ _ _ us hl => match us, hl with | [_], _ => rfl) (fun f c P1 TB hT A outer s H vs Q E hr h => ?_)
  have nd := sc_arcs_gathered.nd
  have hu := room_u hr
  refine ⟨_, (pss_cons (ps_asg (pe_lst pa_nil) (pg_name (i := 1) nd rfl (.inl rfl))) (pss_cons (ps_for PassesOwn.never rfl (pi_list (pe_sortRow (T := [(P1, lamQ "arcs_gathered")]) rfl rfl (by rfl) Z.sorted TB rfl (List.mem_singleton.mpr rfl) (fun p hp _ => by rw [List.mem_singleton.mp hp]; rfl) hr ⟨rfl, rfl, rfl, rfl⟩ (by decide) rfl (fun _ _ _ _ => rfl) (pa_cons (pv 0) pa_nil))) (pg_tup (n := 2) rfl (pgs_cons (pg_name (i := 2) nd rfl (.inl rfl)) (pgs_cons (pg_name (i := 3) nd rfl (.inl rfl)) pgs_nil))) (pss_cons (ps_if (PW.pt (pw_or (pt_cmpR (op_eqK (K := K) rfl hu) (pv 1) (pe_lst pa_nil) (nomark _)) (pw_or1 (PW.pt (pw_and (pt_cmpR op_notN (pe_ix (ix_seqK (K := K) rfl) (pe_ix (ix_seqK (K := K) rfl) (pv 1) (pe_un un_neg pe_int) (fun _ _ => rfl)) pe_int (fun _ _ => rfl)) pe_non (nomark _)) (pw_and1 (pt_cmpR op_gt (pv 2) (pe_op (op_addK (K := K) rfl) (pe_ix (ix_seqK (K := K) rfl) (pe_ix (ix_seqK (K := K) rfl) (pv 1) (pe_un un_neg pe_int) (fun _ _ => rfl)) pe_int (fun _ _ => rfl)) pe_int) (nomark _)))))))) (pss_cons (ps_expr (pe_bm PySem.F.plainAttrs_list PySem.F.slot_list_append PySem.F.type_list_append mt_append (pv 1) (pa_cons (pe_tup (pa_cons (pv 2) (pa_cons (pv 3) pa_nil))) pa_nil))) (pss_one ps_continue)) pss_nil) (pss_cons (ps_asg (pe_ix (ix_seqK (K := K) rfl) (pv 1) (pe_un un_neg pe_int) (fun _ _ => rfl)) (pg_or (pg_tup (n := 2) rfl (pgs_cons (pg_name (i := 4) nd rfl (.inl rfl)) (pgs_cons (pg_name (i := 5) nd rfl (.inl rfl)) pgs_nil))) (pg_unl (n := 2) rfl (pgs_cons (pg_name (i := 4) nd rfl (.inl rfl)) (pgs_cons (pg_name (i := 5) nd rfl (.inl rfl)) pgs_nil))))) (pss_one (ps_if (PW.pt (pw_and (pt_cmpR op_notN (pv 5) pe_non (nomark _)) (pw_and1 (PW.pt (pw_or (pt_cmpR op_isN (pv 3) pe_non (nomark _)) (pw_or1 (pt_cmpR op_gt (pv 3) (pv 5) (nomark _)))))))) (pss_one (ps_asg (pe_tup (pa_cons (pv 4) (pa_cons (pv 3) pa_nil))) (pg_sub (pv 1) (pe_un un_neg pe_int) set_list))) pss_nil))))) (pss_one (ps_ret (pv 1))))), fn_run h ?_⟩
  intro xs st Φ hl hp
  clear hl h hu hr nd
  try dsimp only [L2.cxOf, NdefX.ncx]
  obtain ⟨rows, rfl, hl, q⟩ := hp
  walk_at "c"
  have es : (rows.map eArc).mergeSort rowLe = (rows.mergeSort arcLe).map eArc := (List.map_mergeSort (s := rowLe) (f := eArc) fun a _ b _ => rfl).symm
  refine ws_seq (ws_forL (we_sortRow hT (wa_cons (we_var rfl (wa_nil ⟨_, rows.map eArc, rfl, rfl, ?_, ?_⟩)))))
  · intro d hd
    obtain ⟨a, _, rfl⟩ := List.mem_map.mp hd
    exact ⟨a.1, _, rfl⟩
  rw [es]
  refine ⟨_, rfl, fun i ss' st' => ∃ y2 y3 y4 y5 : Option Val, ss' = [some (.pd (eArcs rows)), some (.cell st.length), y2, y3, y4, y5] ∧ st' = st ++ [.mu ((((rows.mergeSort arcLe).take i).foldl gStep []).map eArc)], ⟨_, _, _, _, rfl, rfl⟩, ?_, ?_⟩
  · rintro i d ss' st' hd ⟨y2, y3, y4, y5, rfl, rfl⟩
    obtain ⟨a, ha, rfl⟩ : ∃ a, (rows.mergeSort arcLe)[i]? = some a ∧ d = eArc a := by
      rw [List.getElem?_map] at hd
      cases e : (rows.mergeSort arcLe)[i]? with
      | none =>
        rw [e] at hd
        cases hd
      | some a =>
        rw [e] at hd
        exact ⟨a, rfl, (Option.some.inj hd).symm⟩
    have hi : i < rows.length := by
      have := (List.getElem?_eq_some_iff.mp ha).1
      rw [List.length_mergeSort] at this
      exact this
    have hf : ((rows.mergeSort arcLe).take (i + 1)).foldl gStep [] = gStep (((rows.mergeSort arcLe).take i).foldl gStep []) a := by
      rw [List.take_add_one, ha, List.foldl_append]
      rfl
    have hb := gFold_le ((rows.mergeSort arcLe).take i) []
    rw [List.length_take] at hb
    simp only [List.length_nil] at hb
    dsimp only
    rw [hf]
    generalize ((rows.mergeSort arcLe).take i).foldl gStep [] = made at hb ⊢
    obtain ⟨f, l⟩ := a
    walk_at "s"

    rcases List.eq_nil_or_concat made with rfl | ⟨ini, x, rfl⟩
    · walk_at "f"
      refine wr_eqD look_end rfl rfl rfl ?_
      walk_at "s"
      refine ⟨fun _ => ⟨fun _ => ?_, fun h => (by cases h)⟩, fun h => (by cases h)⟩
      walk_at "s"
      exact ⟨_, _, _, _, rfl, by rfl⟩
    · obtain ⟨b, e⟩ := x
      rw [List.concat_eq_append] at hb ⊢
      have hlen : ini.length < 100000 := by
        rw [List.length_append] at hb
        simp only [List.length_cons, List.length_nil] at hb
        omega
      rw [show (ini ++ [(b, e)]).map eArc = ini.map eArc ++ [eArc (b, e)] by rw [List.map_append]; rfl]
      have hne : PyData.eqv (.list (ini.map eArc ++ [eArc (b, e)])) (.list []) = false := by
        rw [eqv_isNil]
        simp
      have hsh : SeqAt.shaped (.list (ini.map eArc ++ [eArc (b, e)])) = true := by
        have := sh_arcs (ini ++ [(b, e)])
        rw [List.map_append] at this
        exact this
      walk_at "f"
      refine wr_eqD look_end rfl hsh rfl ?_
      rw [hne]
      walk_at "s"
      refine ⟨fun h => (by cases h), fun _ => ?_⟩
      walk_at "s"
      refine wr_ixuL look_end (atI_last _ _) ?_
      walk_at "s"
      have tail : ∀ m : List Arc, gRest ini b e l = m → Ct.WS K T (tSeq (tAsg (tOp (rIx K) (tVar 1) (tUn (rU fun i => V.int (-i)) (tC (V.int 1)))) (gOr (gTup K 2 (gCons (gName 4) (gCons (gName 5) gNil))) (gUnl K 2 (gCons (gName 4) (gCons (gName 5) gNil)))))
            (tIfS (tAnd (tTest (tOp (fun x y H Q => y = V.non ∧ Q (V.bl (!decide (x = V.non))) H) (tVar 5) (tC V.non))) (tOr (tTest (tOp (fun x y H Q => y = V.non ∧ Q (V.bl (decide (x = V.non))) H) (tVar 3) (tC V.non))) (tTest (tOp (rI0 fun i j => V.bl (decide (j < i))) (tVar 3) (tVar 5)))))
              (tAsg (tTup (tCons (tVar 4) (tCons (tVar 3) tNil))) (gSub (tVar 1) (tUn (rU fun i => V.int (-i)) (tC (V.int 1))) rSetL)) tNext))
          [some (.pd (eArcs rows)), some (.cell st.length), some (.pd (.int f)), some (.pd (eOpt l)), y4, y5] (st ++ [.mu (ini.map eArc ++ [eArc (b, e)])])
          (inTurn { nx := fun ss1 st1 => WS K T (tRet (tVar 1)) ss1 st1 (PoF st Φ), rt := (PoF st Φ).rt, bk := (PoF st Φ).bk, ct := (PoF st Φ).ct } fun ss' st' => ∃ y2 y3 y4 y5 : Option Val, ss' = [some (.pd (eArcs rows)), some (.cell st.length), y2, y3, y4, y5] ∧ st' = st ++ [.mu (m.map eArc)]) := by
        rintro m rfl
        walk_at "s"
        refine wr_ixuL look_end (atI_last _ _) ?_
        walk_at "s"
        have fin : ∀ z : Option Int, Ct.WS K T (tAsg (tTup (tCons (tVar 4) (tCons (tVar 3) tNil))) (gSub (tVar 1) (tUn (rU fun i => V.int (-i)) (tC (V.int 1))) rSetL))
            [some (.pd (eArcs rows)), some (.cell st.length), some (.pd (.int f)), some (.pd (eOpt z)), some (.pd (.int b)), some (.pd (eOpt e))] (st ++ [.mu (ini.map eArc ++ [eArc (b, e)])])
            (inTurn { nx := fun ss1 st1 => WS K T (tRet (tVar 1)) ss1 st1 (PoF st Φ), rt := (PoF st Φ).rt, bk := (PoF st Φ).bk, ct := (PoF st Φ).ct } fun ss' st' => ∃ y2 y3 y4 y5 : Option Val, ss' = [some (.pd (eArcs rows)), some (.cell st.length), y2, y3, y4, y5] ∧ st' = st ++ [.mu ((ini ++ [(b, z)]).map eArc)]) := by
          intro z
          walk_at "s"
          refine wg_sub ?_
          walk_at "s"
          refine wx_end (ixN_last (by simp)) ?_
          rw [set_last]
          exact ⟨_, _, _, _, rfl, by rw [List.map_append]; rfl⟩
        cases e with
        | none =>
          refine ⟨fun h => (by cases h), fun _ => ⟨fun h => (by cases h), fun _ => ?_⟩⟩
          walk_at "s"
          exact ⟨_, _, _, _, rfl, by rw [show gRest ini b none l = ini ++ [(b, none)] from rfl, List.map_append]; rfl⟩
        | some e =>
          refine ⟨fun _ => ?_, fun h => (by cases h)⟩
          cases l with
          | none =>
            walk_at "s"
            refine ⟨fun _ => ⟨fun _ => ?_, fun h => (by cases h)⟩, fun h => (by cases h)⟩
            exact fin none
          | some l =>
            rw [show eOpt (some l) = .int l from rfl, show eOpt (some e) = .int e from rfl]
            walk_at "s"
            refine ⟨fun h => (by cases h), fun _ => ?_⟩
            walk_at "s"
            refine ⟨fun h => ?_, fun h => ?_⟩
            · have := fin (some l)
              rw [show gRest ini b (some e) (some l) = ini ++ [(b, some l)] from if_pos (of_decide_eq_true h)]
              exact this
            · walk_at "s"
              refine ⟨_, _, _, _, rfl, ?_⟩
              rw [show gRest ini b (some e) (some l) = ini ++ [(b, some e)] from if_neg (of_decide_eq_false h), List.map_append]
              rfl
      cases e with
      | none =>
        refine ⟨fun h => (by cases h), fun _ => ⟨fun h => (by cases h), fun _ => ?_⟩⟩
        refine ws_next ?_
        rw [gStep_none]
        exact tail _ rfl
      | some e =>
        refine ⟨fun _ => ?_, fun h => (by cases h)⟩
        walk_at "s"
        refine wr_ixuL look_end (atI_last _ _) ?_
        walk_at "s"
        rw [show eOpt (some e) = .int e from rfl]
        walk_at "s"
        refine ⟨fun h => ?_, fun h => ?_⟩
        · have hb2 : f > e + 1 := of_decide_eq_true h
          walk_at "s"
          refine ⟨_, _, _, _, rfl, ?_⟩
          rw [gStep_far _ _ _ _ _ hb2, List.map_append, List.map_append]
          rfl
        · have hb2 : ¬ f > e + 1 := of_decide_eq_false h
          refine ws_next ?_
          exact tail _ (gStep_near _ _ _ _ _ hb2).symm
  · rintro ss' st' ⟨y2, y3, y4, y5, rfl, rfl⟩
    have e : (rows.mergeSort arcLe).take ((rows.mergeSort arcLe).map eArc).length = rows.mergeSort arcLe := by rw [List.length_map, List.take_length]
    rw [e]
    rcases q with q | q
    · walk_at "s"
      exact fin_end q
    · refine ws_ret (we_var rfl ?_)
      exact fin_all (q _ _ get_end (Nat.le_refl _))
/-! ### arcs_union -/
abbrev N_arcs_union : List Str := ["r", "s"]
theorem sc_arcs_union : FnScope N_arcs_union ["r", "s"] (defScope s_arcs_union) := ⟨rfl, rfl, rfl, by decide +kernel, rfl, by decide +kernel, by decide +kernel⟩
theorem ok_arcs_union (c_arcs_gathered : Cal P w K mg base 1 "arcs_gathered" ["rows"] (spP K T 1 pre_arcs_gathered)) (Z : Zs mg) (dd : Df K mg "arcs_union" s_arcs_union) : Cal P w K mg base 2 "arcs_union" ["r", "s"] (spP K T 2 pre_arcs_union) := by
  refine dd.cal (fun f fd F => F.ok sc_arcs_union (fun vs H Q E h => spP_len h) fun cdv A outer s H vs Q E hr h => ?_) (fun _ _ _ _ _ _ us hl => match us, hl with | [_, _], _ => rfl)
  have nd := sc_arcs_union.nd
  have hu := room_u hr
  refine ⟨_, (pss_one (ps_ret (pe_callC c_arcs_gathered (hr.mono (by decide)) (by rfl) (pa_cons (pe_op (op_addK (K := K) rfl) (pe_callTy (call_listK (K := K) rfl) (by rfl) Z.list_ boot_list (pa_cons (pv 0) pa_nil)) (pe_callTy (call_listK (K := K) rfl) (by rfl) Z.list_ boot_list (pa_cons (pv 1) pa_nil))) pa_nil)))), fn_run h ?_⟩
  intro xs st Φ hl hp
  clear hl h hu hr nd
  try dsimp only [L2.cxOf, NdefX.ncx]
  obtain ⟨r, s, rfl, hl, q⟩ := hp
  walk_at "s"
  refine wc_listC rfl ?_
  walk_at "s"
  refine wc_listC rfl ?_
  refine wr_addL (xs := r.map eArc) (ys := s.map eArc) ?_ ?_ ?_ ?_
  · rw [List.append_assoc]
    exact look_end
  · exact look_end
  · simp only [List.length_map]
    exact big_le (by omega)
  walk_at "s"
  refine ⟨by rfl, r ++ s, by rw [← List.map_append], by rw [List.length_append]; exact hl, ?_⟩
  left
  rw [List.append_assoc]
  exact fin_end q
/-! ### arcs_joined -/
abbrev N_arcs_joined : List Str := ["r", "pad", "made", "first", "last"]
theorem sc_arcs_joined : FnScope N_arcs_joined ["r", "pad"] (defScope s_arcs_joined) := ⟨rfl, rfl, rfl, by decide +kernel, rfl, by decide +kernel, by decide +kernel⟩
theorem ok_arcs_joined (dd : Df K mg "arcs_joined" s_arcs_joined) : Cal P w K mg base 1 "arcs_joined" ["r", "pad"] (spP K T 2 pre_arcs_joined) := by
  refine dd.cal (fun f fd F => F.ok sc_arcs_joined (fun vs H Q E h => spP_len h) fun cdv A outer s H vs Q E hr h => ?_) (fun _ _ _ _ _ _ us hl => match us, hl with | [_, _], _ => rfl)
  have nd := sc_arcs_joined.nd
  have hu := room_u hr
  refine ⟨_, (pss_cons (ps_asg (pe_lst pa_nil) (pg_name (i := 2) nd rfl (.inl rfl))) (pss_cons (ps_for PassesOwn.never rfl (pi_list (pv 0)) (pg_tup (n := 2) rfl (pgs_cons (pg_name (i := 3) nd rfl (.inl rfl)) (pgs_cons (pg_name (i := 4) nd rfl (.inl rfl)) pgs_nil))) (pss_one (ps_if (PW.pt (pw_and (pt_cmpR (op_neK (K := K) rfl hu) (pv 2) (pe_lst pa_nil) (nomark _)) (pw_and1 (pt_cmpR op_le (pe_op op_sub (pe_op op_sub (pv 3) (pe_ix (ix_seqK (K := K) rfl) (pe_ix (ix_seqK (K := K) rfl) (pv 2) (pe_un un_neg pe_int) (fun _ _ => rfl)) pe_int (fun _ _ => rfl))) pe_int) (pv 1) (nomark _))))) (pss_one (ps_asg (pe_tup (pa_cons (pe_ix (ix_seqK (K := K) rfl) (pe_ix (ix_seqK (K := K) rfl) (pv 2) (pe_un un_neg pe_int) (fun _ _ => rfl)) pe_int (fun _ _ => rfl)) (pa_cons (pv 4) pa_nil))) (pg_sub (pv 2) (pe_un un_neg pe_int) set_list))) (pss_one (ps_expr (pe_bm PySem.F.plainAttrs_list PySem.F.slot_list_append PySem.F.type_list_append mt_append (pv 2) (pa_cons (pe_tup (pa_cons (pv 3) (pa_cons (pv 4) pa_nil))) pa_nil))))))) (pss_one (ps_ret (pv 2))))), fn_run h ?_⟩
  intro xs st Φ hl hp
  clear hl h hu hr nd
  try dsimp only [L2.cxOf, NdefX.ncx]
  obtain ⟨r, pad, rfl, hl, q⟩ := hp
  walk_at "c"
  refine ws_seq (ws_forL (we_var rfl ?_))
  refine ⟨_, rfl, fun i ss' st' => ∃ (made : List Seg) (y3 y4 : Option Val), ss' = [some (.pd (eSegs r)), vI pad, some (.cell st.length), y3, y4] ∧ st' = st ++ [.mu (made.map pairT)] ∧ made.length ≤ i ∧ joinGo pad made (r.drop i) = joined r pad, ⟨[], _, _, rfl, rfl, Nat.zero_le _, rfl⟩, ?_, ?_⟩
  · rintro i d ss' st' hd ⟨made, y3, y4, rfl, rfl, hml, he⟩
    obtain ⟨t, ht, rfl⟩ := seg_at hd
    obtain ⟨hi, e⟩ := List.getElem?_eq_some_iff.mp ht
    rw [List.drop_eq_getElem_cons hi, e] at he
    obtain ⟨f, l⟩ := t
    walk_at "s"
    rcases List.eq_nil_or_concat made with rfl | ⟨ini, y, rfl⟩
    · refine wr_neD look_end rfl rfl rfl ?_
      walk_at "s"
      refine ⟨fun h => (by cases h), fun _ => ⟨fun h => (by cases h), fun _ => ?_⟩⟩
      walk_at "s"
      exact ⟨[(f, l)], _, _, rfl, rfl, by simp, he⟩
    · rw [List.concat_eq_append] at he hml ⊢
      rw [joinGo_step] at he
      have hlen : ini.length + 1 ≤ 100000 := by
        rw [List.length_append] at hml
        simp only [List.length_cons, List.length_nil] at hml
        omega
      refine wr_neD look_end rfl (sh_segs _) rfl ?_
      have hne : PyData.eqv (.list ((ini ++ [y]).map pairT)) (.list []) = false := by
        rw [eqv_isNil]
        simp
      rw [hne]
      walk_at "s"
      refine ⟨fun _ => ?_, fun h => (by cases h)⟩
      have em : (ini ++ [y]).map pairT = ini.map pairT ++ [pairT y] := by rw [List.map_append]; rfl
      rw [em]
      walk_at "s"
      refine wr_ixuL look_end (atI_last _ _) ?_
      walk_at "s"
      refine ⟨fun h => ?_, fun h => ?_⟩
      · have h := of_decide_eq_true h
        rw [if_pos h] at he
        walk_at "s"
        refine wr_ixuL look_end (atI_last _ _) ?_
        walk_at "s"
        refine wg_sub ?_
        walk_at "s"
        refine wx_end (ixN_last (by simp)) ?_
        rw [set_last]
        exact ⟨ini ++ [(y.1, l)], _, _, rfl, by rw [List.map_append]; rfl, by simp at hml ⊢; omega, he⟩
      · have h := of_decide_eq_false h
        rw [if_neg h] at he
        walk_at "s"
        exact ⟨ini ++ [y] ++ [(f, l)], _, _, rfl, by rw [List.map_append, em]; rfl, by simp at hml ⊢; omega, he⟩
  · rintro ss' st' ⟨made, y3, y4, rfl, rfl, hml, he⟩
    rw [List.length_map, List.drop_length] at he
    have he : made = joined r pad := he
    subst he
    walk_at "s"
    exact fin_end q
/-! ### arcs_hold -/
abbrev N_arcs_hold : List Str := ["r", "line", "first", "last"]
theorem sc_arcs_hold : FnScope N_arcs_hold ["r", "line"] (defScope s_arcs_hold) := ⟨rfl, rfl, rfl, by decide +kernel, rfl, by decide +kernel, by decide +kernel⟩
theorem ok_arcs_hold (dd : Df K mg "arcs_hold" s_arcs_hold) : Cal P w K mg base 1 "arcs_hold" ["r", "line"] (spP K T 2 pre_arcs_hold) := by
  refine dd.cal (fun f fd F => F.ok sc_arcs_hold (fun vs H Q E h => spP_len h) fun cdv A outer s H vs Q E hr h => ?_) (fun _ _ _ _ _ _ us hl => match us, hl with | [_, _], _ => rfl)
  have nd := sc_arcs_hold.nd
  have hu := room_u hr
  refine ⟨_, (pss_cons (ps_for PassesOwn.never rfl (pi_list (pv 0)) (pg_tup (n := 2) rfl (pgs_cons (pg_name (i := 2) nd rfl (.inl rfl)) (pgs_cons (pg_name (i := 3) nd rfl (.inl rfl)) pgs_nil))) (pss_one (ps_if (PW.pt (pw_and (pt_cmpR op_le (pv 2) (pv 1) (nomark _)) (pw_and1 (PW.pt (pw_or (pt_cmpR op_isN (pv 3) pe_non (nomark _)) (pw_or1 (pt_cmpR op_le (pv 1) (pv 3) (nomark _)))))))) (pss_one (ps_ret pe_bl)) pss_nil))) (pss_one (ps_ret pe_bl))), fn_run h ?_⟩
  intro xs st Φ hl hp
  clear hl h hu hr nd
  try dsimp only [L2.cxOf, NdefX.ncx]
  obtain ⟨r, x, rfl, q⟩ := hp
  refine ws_seq (ws_forL (we_var rfl ?_))
  refine ⟨_, rfl, fun i ss' st' => st' = st ∧ (memS r x → memS (r.drop i) x) ∧ ∃ (y3 y4 : Option Val), ss' = [some (.pd (eSegs r)), vI x, y3, y4], ⟨rfl, fun h => h, _, _, rfl⟩, ?_, ?_⟩
  · rintro i d ss' st' hd ⟨rfl, hm, y3, y4, rfl⟩
    obtain ⟨t, ht, rfl⟩ := seg_at hd
    obtain ⟨hi, e⟩ := List.getElem?_eq_some_iff.mp ht
    rw [List.drop_eq_getElem_cons hi, e] at hm
    have hmem := List.mem_of_getElem? ht
    obtain ⟨f, l⟩ := t
    walk_at "s"
    have next : ¬ (f ≤ x ∧ x ≤ l) → (memS r x → memS (r.drop (i + 1)) x) := fun hn h => (memS_cons.mp (hm h)).elim (fun h => absurd h hn) id
    refine ⟨fun h => ?_, fun h => ⟨fun z => (by cases z), fun _ => ?_⟩⟩
    · have h := of_decide_eq_true h
      walk_at "s"
      refine ⟨fun h => (by cases h), fun _ => ?_⟩
      walk_at "s"
      refine ⟨fun h2 => ?_, fun h2 => ?_⟩
      · have h2 := of_decide_eq_true h2
        walk_at "s"
        exact fin_pd (by simp) (q true ⟨fun _ => ⟨_, hmem, h, h2⟩, fun _ => rfl⟩)
      · have h2 := of_decide_eq_false h2
        walk_at "s"
        exact ⟨rfl, next fun z => h2 z.2, _, _, rfl⟩
    · have h := of_decide_eq_false h
      walk_at "s"
      exact ⟨rfl, next fun z => h z.1, _, _, rfl⟩
  · rintro ss' st' ⟨rfl, hm, y3, y4, rfl⟩
    rw [List.length_map, List.drop_length] at hm
    walk_at "s"
    exact fin_pd (by simp) (q false ⟨fun h => (by cases h), fun h => absurd (hm h) memS_nil⟩)
/-! ### plan_top -/
abbrev N_plan_top : List Str := ["plan", "top", "a", "b", "c"]
theorem sc_plan_top : FnScope N_plan_top ["plan"] (defScope s_plan_top) := ⟨rfl, rfl, rfl, by decide +kernel, rfl, by decide +kernel, by decide +kernel⟩
theorem ok_plan_top (c_Plan_sections : CalM P w K mg base 1 C_Plan "sections" ["self"] (spP K T 1 (pre_Plan_sections K C_Plan C_Ruler))) (c_Plan_start : CalM P w K mg base 1 C_Plan "start" ["self"] (spP K T 1 (pre_Plan_start K C_Plan C_Ruler))) (h_Plan : Cls K C_Plan) (na_Plan : ∀ f ∈ fl_Plan, NoAttr K C_Plan f) (dd : Df K mg "plan_top" s_plan_top) : Cal P w K mg base 2 "plan_top" ["plan"] (spP K T 1 (pre_plan_top K C_Plan C_Ruler)) := by
  refine dd.cal (fun f fd F => F.ok sc_plan_top (fun vs H Q E h => spP_len h) fun cdv A outer s H vs Q E hr h => ?_) (fun _ _ _ _ _ _ us hl => match us, hl with | [_], _ => rfl)
  have nd := sc_plan_top.nd
  have hu := room_u hr
  refine ⟨_, (pss_cons (ps_asg (pe_methC0 c_Plan_start h_Plan (hr.mono (by decide)) (pv 0)) (pg_name (i := 1) nd rfl (.inl rfl))) (pss_cons (ps_for PassesOwn.never rfl (pi_list (pe_methC0 c_Plan_sections h_Plan (hr.mono (by decide)) (pv 0))) (pg_tup (n := 3) rfl (pgs_cons (pg_name (i := 2) nd rfl (.inl rfl)) (pgs_cons (pg_name (i := 3) nd rfl (.inl rfl)) (pgs_cons (pg_name (i := 4) nd rfl (.inl rfl)) pgs_nil)))) (pss_one (ps_asg (pe_op (op_addK (K := K) rfl) (pe_op (op_addK (K := K) rfl) (pv 1) (pv 3)) (pv 4)) (pg_name (i := 1) nd rfl (.inl rfl))))) (pss_one (ps_ret (pv 1))))), fn_run h ?_⟩
  intro xs st Φ hl hp
  clear hl h hu hr nd
  try dsimp only [L2.cxOf, NdefX.ncx]
  obtain ⟨p, rfl, q⟩ := hp
  refine ws_seq (ws_asg (we_meth (we_var rfl ⟨_, .ob, rfl, ?_⟩)))
  walk_at "s"
  refine ⟨by rfl, p, rfl, ?_⟩
  walk_at "s"
  refine ws_seq (ws_forL (we_meth (we_var rfl ⟨_, .ob, rfl, ?_⟩)))
  walk_at "s"
  refine ⟨by rfl, p, rfl, ?_⟩
  refine ⟨_, rfl, fun i ss' st' => st' = st ∧ ∃ (y2 y3 y4 : Option Val) (top : Int), ss' = [some (planQ K C_Plan C_Ruler p), vI top, y2, y3, y4] ∧ top + ((p.ss.drop i).map fun s => s.2.1 + s.2.2).sum = topQ p, ⟨rfl, _, _, _, _, rfl, rfl⟩, ?_, ?_⟩
  · rintro i d ss' st' hd ⟨rfl, y2, y3, y4, top, rfl, he⟩
    obtain ⟨t, ht, rfl⟩ := sec_at hd
    obtain ⟨hi, e⟩ := List.getElem?_eq_some_iff.mp ht
    rw [List.drop_eq_getElem_cons hi, e, List.map_cons, List.sum_cons] at he
    obtain ⟨a, b, c⟩ := t
    dsimp only at he
    walk_at "s"
    exact ⟨rfl, _, _, _, _, rfl, by rw [← he]; dsimp only; omega⟩
  · rintro ss' st' ⟨rfl, y2, y3, y4, top, rfl, he⟩
    rw [List.length_map, List.drop_length] at he
    simp at he
    walk_at "s"
    rw [← he] at q
    exact fin_pd (by simp) q
/-! ### check_single -/
abbrev N_check_single : List Str := ["plan"]
theorem sc_check_single : FnScope N_check_single ["plan"] (defScope s_check_single) := ⟨rfl, rfl, rfl, by decide +kernel, rfl, by decide +kernel, by decide +kernel⟩
theorem ok_check_single (c_Plan_range_cells : CalM P w K mg base 1 C_Plan "range_cells" ["self"] (spP K T 1 (pre_Plan_range_cells K C_Plan C_Ruler))) (h_Plan : Cls K C_Plan) (na_Plan : ∀ f ∈ fl_Plan, NoAttr K C_Plan f) (dd : Df K mg "check_single" s_check_single) : Cal P w K mg base 2 "check_single" ["plan"] (spP K T 1 (pre_check_single K C_Plan C_Ruler)) := by
  refine dd.cal (fun f fd F => F.ok sc_check_single (fun vs H Q E h => spP_len h) fun cdv A outer s H vs Q E hr h => ?_) (fun _ _ _ _ _ _ us hl => match us, hl with | [_], _ => rfl)
  have nd := sc_check_single.nd
  have hu := room_u hr
  refine ⟨_, (pss_one (ps_if (pt_cmpR op_gt (pe_methC0 c_Plan_range_cells h_Plan (hr.mono (by decide)) (pv 0)) pe_int (nomark _)) (pss_one ps_never) pss_nil)), fn_run h ?_⟩
  intro xs st Φ hl hp
  clear hl h hu hr nd
  try dsimp only [L2.cxOf, NdefX.ncx]
  obtain ⟨p, rfl, hr, q⟩ := hp
  walk_at "s"
  refine we_meth (we_var rfl ⟨_, .ob, rfl, ?_⟩)
  walk_at "s"
  refine ⟨by rfl, p, rfl, ?_⟩
  walk_at "s"
  refine ⟨fun h => absurd (of_decide_eq_true h) (by omega), fun _ => ?_⟩
  walk_at "s"
  exact fin_pd (by simp) q
/-! ### check_spread -/
abbrev N_check_spread : List Str := ["plan"]
theorem sc_check_spread : FnScope N_check_spread ["plan"] (defScope s_check_spread) := ⟨rfl, rfl, rfl, by decide +kernel, rfl, by decide +kernel, by decide +kernel⟩
theorem ok_check_spread (c_check_most : Cal P w K mg base 2 "check_most" ["what", "many", "most"] (spP K T 3 pre_check_most)) (c_Plan_cell : CalM P w K mg base 2 C_Plan "cell" ["self", "line"] (spP K T 2 (pre_Plan_cell K C_Plan C_Ruler))) (c_plan_top : Cal P w K mg base 2 "plan_top" ["plan"] (spP K T 1 (pre_plan_top K C_Plan C_Ruler))) (x_SPREAD : ∃ t, mg "SPREAD" = some (.int c_SPREAD t)) (h_Plan : Cls K C_Plan) (na_Plan : ∀ f ∈ fl_Plan, NoAttr K C_Plan f) (dd : Df K mg "check_spread" s_check_spread) : Cal P w K mg base 3 "check_spread" ["plan"] (spP K T 1 (pre_check_spread K C_Plan C_Ruler)) := by
  obtain ⟨_, h_SPREAD⟩ := x_SPREAD
  refine dd.cal (fun f fd F => F.ok sc_check_spread (fun vs H Q E h => spP_len h) fun cdv A outer s H vs Q E hr h => ?_) (fun _ _ _ _ _ _ us hl => match us, hl with | [_], _ => rfl)
  have nd := sc_check_spread.nd
  have hu := room_u hr
  refine ⟨_, (pss_one (ps_expr (pe_callC c_check_most (hr.mono (by decide)) (by rfl) (pa_cons pe_str (pa_cons (pe_methC c_Plan_cell h_Plan (hr.mono (by decide)) (pv 0) (pa_cons (pe_callC c_plan_top (hr.mono (by decide)) (by rfl) (pa_cons (pv 0) pa_nil)) pa_nil)) (pa_cons (pe_glob (v := .int c_SPREAD) rfl h_SPREAD ⟨_, rfl⟩) pa_nil)))))), fn_run h ?_⟩
  intro xs st Φ hl hp
  clear hl h hu hr nd
  try dsimp only [L2.cxOf, NdefX.ncx]
  obtain ⟨p, rfl, ok, ht, hc, q⟩ := hp
  walk_at "s"
  refine we_meth (we_var rfl ⟨_, .ob, rfl, ?_⟩)
  walk_at "s"
  refine ⟨by rfl, p, rfl, ?_⟩
  walk_at "s"
  refine ⟨by rfl, p, _, rfl, ht, ok, ?_⟩
  walk_at "s"
  refine ⟨by rfl, _, _, _, rfl, hc, ?_⟩
  exact fin_pd (by simp) q
/-! ### Plan_sums -/
abbrev N_Plan_sums : List Str := ["self", "i", "j", "low", "high", "a", "b", "c"]
theorem sc_Plan_sums : FnScope N_Plan_sums ["self", "i", "j"] (defScope s_Plan_sums) := ⟨rfl, rfl, rfl, by decide +kernel, rfl, by decide +kernel, by decide +kernel⟩
theorem ok_Plan_sums (c_Plan_check_mark : CalM P w K mg base 1 C_Plan "check_mark" ["self", "mark"] (spP K T 2 (pre_Plan_check_mark K C_Plan C_Ruler))) (h_Plan : Cls K C_Plan) (na_Plan : ∀ f ∈ fl_Plan, NoAttr K C_Plan f) (dd : Dm K C_Plan "sums" "Plan.sums" s_Plan_sums) : CalM P w K mg base 2 C_Plan "sums" ["self", "i", "j"] (spP K T 3 (pre_Plan_sums K C_Plan C_Ruler)) := by
  refine dd.cal (fun f fd F => F.ok sc_Plan_sums (fun vs H Q E h => spP_len h) fun cdv A outer s H vs Q E hr h => ?_) (fun _ _ _ _ _ _ us hl => match us, hl with | [_, _, _], _ => rfl)
  have nd := sc_Plan_sums.nd
  have hu := room_u hr
  refine ⟨_, (pss_cons (ps_expr (pe_methC c_Plan_check_mark h_Plan (hr.mono (by decide)) (pv 0) (pa_cons (pv 1) pa_nil))) (pss_cons (ps_expr (pe_methC c_Plan_check_mark h_Plan (hr.mono (by decide)) (pv 0) (pa_cons (pv 2) pa_nil))) (pss_cons (ps_if (pt_cmpR op_lt (pv 2) (pv 1) (nomark _)) (pss_one ps_never) pss_nil) (pss_cons (ps_asg pe_int (pg_name (i := 3) nd rfl (.inl rfl))) (pss_cons (ps_asg pe_int (pg_name (i := 4) nd rfl (.inl rfl))) (pss_cons (ps_for PassesOwn.never rfl (pi_list (pe_slice (sl_listK (K := K) rfl) (pe_fld (pv 0) rfl) (po_some (pv 1)) (po_some (pv 2)))) (pg_tup (n := 3) rfl (pgs_cons (pg_name (i := 5) nd rfl (.inl rfl)) (pgs_cons (pg_name (i := 6) nd rfl (.inl rfl)) (pgs_cons (pg_name (i := 7) nd rfl (.inl rfl)) pgs_nil)))) (pss_cons (ps_asg (pe_op (op_addK (K := K) rfl) (pe_op (op_addK (K := K) rfl) (pv 3) (pv 5)) (pv 7)) (pg_name (i := 3) nd rfl (.inl rfl))) (pss_one (ps_asg (pe_op (op_addK (K := K) rfl) (pv 4) (pv 6)) (pg_name (i := 4) nd rfl (.inl rfl)))))) (pss_one (ps_ret (pe_tup (pa_cons (pv 3) (pa_cons (pv 4) pa_nil))))))))))), fn_run h ?_⟩
  intro xs st Φ hl hp
  clear hl h hu hr nd
  try dsimp only [L2.cxOf, NdefX.ncx]
  obtain ⟨p, i, j, rfl, hij, hj, q⟩ := hp
  refine ws_seq (ws_drop (we_meth (we_var rfl ⟨_, .ob, rfl, ?_⟩)))
  walk_at "s"
  refine ⟨by rfl, p, _, rfl, ⟨by omega, by omega⟩, ?_⟩
  refine ws_seq (ws_drop (we_meth (we_var rfl ⟨_, .ob, rfl, ?_⟩)))
  walk_at "s"
  refine ⟨by rfl, p, _, rfl, ⟨by omega, by omega⟩, ?_⟩
  walk_at "f"
  refine ⟨fun h => absurd (of_decide_eq_true h) (by omega), fun _ => ?_⟩
  walk_at "s"
  refine ws_seq (ws_forL (we_slL (we_fld (we_var rfl ⟨_, _, _, .ob, h_Plan, na_Plan _ (by decide), rfl, ?_⟩))))
  walk_at "s"
  rw [cut_nat _ i j (by rw [List.length_map]; exact hj) hij, ← List.map_drop, ← List.map_take]
  generalize hl : (p.ss.drop i).take (j - i) = l
  refine ⟨fun k ss' st' => st' = st ∧ ∃ (y5 y6 y7 : Option Val) (lo hi : Int), ss' = [some (planQ K C_Plan C_Ruler p), vI i, vI j, vI lo, vI hi, y5, y6, y7] ∧ lo + ((l.drop k).map fun s => s.1 + s.2.2).sum = sumLow p.ss i j ∧ hi + ((l.drop k).map fun s => s.2.1).sum = sumHigh p.ss i j, ⟨rfl, _, _, _, _, _, rfl, ?_, ?_⟩, ?_, ?_⟩
  · unfold sumLow
    rw [hl]
    simp
  · unfold sumHigh
    rw [hl]
    simp
  · rintro k d ss' st' hd ⟨rfl, y5, y6, y7, lo, hi, rfl, h1, h2⟩
    obtain ⟨t, ht, rfl⟩ := sec_at hd
    obtain ⟨hk, e⟩ := List.getElem?_eq_some_iff.mp ht
    rw [List.drop_eq_getElem_cons hk, e, List.map_cons, List.sum_cons] at h1 h2
    obtain ⟨a, b, c⟩ := t
    walk_at "s"
    exact ⟨rfl, _, _, _, _, _, rfl, by rw [← h1]; dsimp only; omega, by rw [← h2]; dsimp only; omega⟩
  · rintro ss' st' ⟨rfl, y5, y6, y7, lo, hi, rfl, h1, h2⟩
    rw [List.length_map, List.drop_length] at h1 h2
    simp at h1 h2
    rw [← h1, ← h2] at q
    walk_at "s"
    exact fin_pd (by simp) q
/-! ### Plan_open_marks -/
abbrev N_Plan_open_marks : List Str := ["self", "t", "j"]
theorem sc_Plan_open_marks : FnScope N_Plan_open_marks ["self", "t"] (defScope s_Plan_open_marks) := ⟨rfl, rfl, rfl, by decide +kernel, rfl, by decide +kernel, by decide +kernel⟩
theorem ok_Plan_open_marks (c_Plan_first_tell : CalM P w K mg base 1 C_Plan "first_tell" ["self", "mark"] (spP K T 2 (pre_Plan_first_tell K C_Plan C_Ruler))) (c_Plan_many : CalM P w K mg base 1 C_Plan "many" ["self"] (spP K T 1 (pre_Plan_many K C_Plan C_Ruler))) (c_Plan_check_mark : CalM P w K mg base 1 C_Plan "check_mark" ["self", "mark"] (spP K T 2 (pre_Plan_check_mark K C_Plan C_Ruler))) (Z : Zs mg) (h_Plan : Cls K C_Plan) (na_Plan : ∀ f ∈ fl_Plan, NoAttr K C_Plan f) (dd : Dm K C_Plan "open_marks" "Plan.open_marks" s_Plan_open_marks) : CalM P w K mg base 2 C_Plan "open_marks" ["self", "t"] (spP K T 2 (pre_Plan_open_marks K C_Plan C_Ruler)) := by
  refine dd.cal (fun f fd F => F.ok sc_Plan_open_marks (fun vs H Q E h => spP_len h) fun cdv A outer s H vs Q E hr h => ?_) (fun _ _ _ _ _ _ us hl => match us, hl with | [_, _], _ => rfl)
  have nd := sc_Plan_open_marks.nd
  have hu := room_u hr
  refine ⟨_, (pss_cons (ps_expr (pe_methC c_Plan_check_mark h_Plan (hr.mono (by decide)) (pv 0) (pa_cons (pv 1) pa_nil))) (pss_one (ps_ret (pe_lc (own := [("j", 2)]) (g := gName 2) (tt := _) rfl nd (pi_range2 rfl Z.range_ (pa_cons (pe_op (op_addK (K := K) rfl) (pv 1) pe_int) (pa_cons (pe_op (op_addK (K := K) rfl) (pe_methC0 c_Plan_many h_Plan (hr.mono (by decide)) (pv 0)) pe_int) pa_nil))) (blkOk_by (N := N_Plan_open_marks) (sc := defScope s_Plan_open_marks) (by decide +kernel)) (fun _ _ _ _ _ => (pg_name (i := 2) nd rfl (.inl rfl))) (fun _ _ _ _ _ => (pts_one (PW.pt (pw_and (pt_cmpR op_notN (pe_methC c_Plan_first_tell h_Plan (hr.mono (by decide)) (pv 0) (pa_cons (pv 2) pa_nil)) pe_non (nomark _)) (pw_and1 (pt_cmpR op_le (pe_methC c_Plan_first_tell h_Plan (hr.mono (by decide)) (pv 0) (pa_cons (pv 2) pa_nil)) (pv 1) (nomark _))))))) (fun _ _ _ _ _ => (pv 2)))))), fn_run h ?_⟩
  intro xs st Φ hl hp
  clear hl h hu hr nd
  try dsimp only [L2.cxOf, NdefX.ncx]
  obtain ⟨p, t, rfl, h2, hl, q⟩ := hp
  refine ws_seq (ws_drop (we_meth (we_var rfl ⟨_, .ob, rfl, ?_⟩)))
  walk_at "s"
  refine ⟨by rfl, p, _, rfl, ⟨by omega, by omega⟩, ?_⟩
  refine ws_ret (we_lcR2 (gw_name (by simp)) ?_)
  walk_at "s"
  refine we_meth (we_var rfl ⟨_, .ob, rfl, ?_⟩)
  walk_at "s"
  refine ⟨by rfl, p, rfl, ?_⟩
  walk_at "s"
  refine ⟨_, _, rfl, by omega, big_lt (by omega), fun i => if toldBy p.ts t ((t : Int) + 1 + (i : Int)) = true then some (.int ((t : Int) + 1 + (i : Int))) else none, ?_, ?_⟩
  · intro i acc hi
    walk_at "s"
    refine we_meth (we_var rfl ⟨_, .ob, rfl, ?_⟩)
    walk_at "s"
    refine ⟨by rfl, p, _, rfl, ?_⟩
    cases hf : firstTell p.ts ((t : Int) + 1 + (i : Int)) with
    | none =>
      have hb : toldBy p.ts t ((t : Int) + 1 + (i : Int)) = false := by unfold toldBy; rw [hf]
      dsimp only [oI]
      walk_at "s"
      refine ⟨fun h => (by cases h), fun _ => ⟨fun h => (by cases h), fun _ => ?_⟩⟩
      exact ⟨take_snoc, if_neg (by rw [hb]; exact Bool.false_ne_true)⟩
    | some z =>
      have hb : toldBy p.ts t ((t : Int) + 1 + (i : Int)) = decide (z ≤ (t : Int)) := by unfold toldBy; rw [hf]
      dsimp only [oI]
      walk_at "s"
      refine ⟨fun _ => ?_, fun h => (by cases h)⟩
      walk_at "s"
      refine we_meth (we_var rfl ⟨_, .ob, rfl, ?_⟩)
      walk_at "s"
      refine ⟨by rfl, p, _, rfl, ?_⟩
      rw [hf]
      dsimp only [oI]
      walk_at "s"
      refine ⟨fun h => ?_, fun h => ?_⟩
      · walk_at "s"
        exact ⟨_, _, rfl, take_snoc, if_pos (by rw [hb]; exact h)⟩
      · exact ⟨take_snoc, if_neg (by rw [hb, h]; exact Bool.false_ne_true)⟩
  · rw [filt_rng _ ((t : Int) + 1) (toldBy p.ts t), show ((p.ss.length : Int) + 1 - ((t : Int) + 1)).toNat = p.ss.length - t by omega, open_eq]
    exact fin_pd (by simp) q
/-! ### cell_window -/
abbrev N_cell_window : List Str := ["plan", "t", "j", "cell", "low", "high", "last"]
theorem sc_cell_window : FnScope N_cell_window ["plan", "t", "j", "cell"] (defScope s_cell_window) := ⟨rfl, rfl, rfl, by decide +kernel, rfl, by decide +kernel, by decide +kernel⟩
theorem ok_cell_window (c_Plan_first : CalM P w K mg base 4 C_Plan "first" ["self", "cell"] (spP K T 2 (pre_Plan_first K C_Plan C_Ruler))) (c_Plan_last : CalM P w K mg base 4 C_Plan "last" ["self", "cell"] (spP K T 2 (pre_Plan_last K C_Plan C_Ruler))) (c_Plan_sums : CalM P w K mg base 2 C_Plan "sums" ["self", "i", "j"] (spP K T 3 (pre_Plan_sums K C_Plan C_Ruler))) (Z : Zs mg) (h_Plan : Cls K C_Plan) (na_Plan : ∀ f ∈ fl_Plan, NoAttr K C_Plan f) (dd : Df K mg "cell_window" s_cell_window) : Cal P w K mg base 5 "cell_window" ["plan", "t", "j", "cell"] (spP K T 4 (pre_cell_window K C_Plan C_Ruler)) := by
  refine dd.cal (fun f fd F => F.ok sc_cell_window (fun vs H Q E h => spP_len h) fun cdv A outer s H vs Q E hr h => ?_) (fun _ _ _ _ _ _ us hl => match us, hl with | [_, _, _, _], _ => rfl)
  have nd := sc_cell_window.nd
  have hu := room_u hr
  refine ⟨_, (pss_cons (ps_asg (pe_methC c_Plan_sums h_Plan (hr.mono (by decide)) (pv 0) (pa_cons (pv 1) (pa_cons (pv 2) pa_nil))) (pg_or (pg_tup (n := 2) rfl (pgs_cons (pg_name (i := 4) nd rfl (.inl rfl)) (pgs_cons (pg_name (i := 5) nd rfl (.inl rfl)) pgs_nil))) (pg_unl (n := 2) rfl (pgs_cons (pg_name (i := 4) nd rfl (.inl rfl)) (pgs_cons (pg_name (i := 5) nd rfl (.inl rfl)) pgs_nil))))) (pss_cons (ps_asg (pe_methC c_Plan_last h_Plan (hr.mono (by decide)) (pv 0) (pa_cons (pv 3) pa_nil)) (pg_name (i := 6) nd rfl (.inl rfl))) (pss_one (ps_ret (pe_tup (pa_cons (pe_callB (call_max2 rfl) (by rfl) Z.max boot_max (pa_cons pe_int (pa_cons (pe_op op_sub (pe_methC c_Plan_first h_Plan (hr.mono (by decide)) (pv 0) (pa_cons (pv 3) pa_nil)) (pv 4)) pa_nil))) (pa_cons (pe_ifExp (pt_cmpR op_isN (pv 6) pe_non (nomark _)) pe_non (pe_op op_sub (pv 6) (pv 5))) pa_nil))))))), fn_run h ?_⟩
  intro xs st Φ hl hp
  clear hl h hu hr nd
  try dsimp only [L2.cxOf, NdefX.ncx]
  obtain ⟨p, i, j, c, rfl, hij, hj, ok, hc, hb, q⟩ := hp
  refine ws_seq (ws_asg (we_meth (we_var rfl ⟨_, .ob, rfl, ?_⟩)))
  walk_at "s"
  refine ⟨by rfl, p, i, j, rfl, hij, hj, ?_⟩
  walk_at "s"
  refine we_meth (we_var rfl ⟨_, .ob, rfl, ?_⟩)
  walk_at "s"
  refine ⟨by rfl, p, c, rfl, ok, hc, hb, ?_⟩
  walk_at "s"
  refine we_meth (we_var rfl ⟨_, .ob, rfl, ?_⟩)
  walk_at "s"
  refine ⟨by rfl, p, c, rfl, ok, hc, hb, ?_⟩
  walk_at "s"
  have em : max 0 (firstC p.ru c - sumLow p.ss i j) = if firstC p.ru c - sumLow p.ss i j > 0 then firstC p.ru c - sumLow p.ss i j else 0 := by
    split <;> omega
  rw [em] at q
  cases e : lastC p.ru c with
  | none =>
    rw [e] at q
    dsimp only [eOpt]
    walk_at "s"
    refine ⟨fun _ => ?_, fun h => (by cases h)⟩
    walk_at "s"
    exact fin_pd (by simp) q
  | some l =>
    rw [e] at q
    dsimp only [eOpt]
    walk_at "s"
    refine ⟨fun h => (by cases h), fun _ => ?_⟩
    walk_at "s"
    exact fin_pd (by simp) q
/-! ### is_pages -/
abbrev N_is_pages : List Str := ["ruler"]
theorem sc_is_pages : FnScope N_is_pages ["ruler"] (defScope s_is_pages) := ⟨rfl, rfl, rfl, by decide +kernel, rfl, by decide +kernel, by decide +kernel⟩
theorem ok_is_pages (c_is_row : Cal P w K mg base 1 "is_row" ["value"] (spP K T 1 (pre_is_row K C_Ruler))) (Z : Zs mg) (dd : Df K mg "is_pages" s_is_pages) : Cal P w K mg base 2 "is_pages" ["ruler"] (spP K T 1 (pre_is_pages K C_Ruler)) := by
  refine dd.cal (fun f fd F => F.ok sc_is_pages (fun vs H Q E h => spP_len h) fun cdv A outer s H vs Q E hr h => ?_) (fun _ _ _ _ _ _ us hl => match us, hl with | [_], _ => rfl)
  have nd := sc_is_pages.nd
  have hu := room_u hr
  refine ⟨_, (pss_one (ps_ret (pe_and (pe_callC c_is_row (hr.mono (by decide)) (by rfl) (pa_cons (pv 0) pa_nil)) (pe_and (pe_cmpR (op_eqK (K := K) rfl hu) (pe_callB (call_lenK (K := K) rfl) (by rfl) Z.len PySem.boot_len (pa_cons (pv 0) pa_nil)) pe_int (nomark _)) (pe_one (pe_cmpR (op_eqK (K := K) rfl hu) (pe_ix (ix_seqK (K := K) rfl) (pv 0) pe_int (fun _ _ => rfl)) pe_str (nomark _))))))), fn_run h ?_⟩
  intro xs st Φ hl hp
  clear hl h hu hr nd
  try dsimp only [L2.cxOf, NdefX.ncx]
  rcases hp with ⟨H, rfl, q⟩ | ⟨hs, rfl, q⟩
  · refine ws_ret (we_andV ?_)
    walk_at "s"
    refine ⟨by rfl, .inl ⟨_, _, rfl, .inr rfl, ?_⟩⟩
    refine ⟨_, rfl, fun _ => ?_, fun h => (by cases h)⟩
    refine we_andV (we_op (we_cb (wa_cons (we_var rfl (wa_nil (wc_lenT ?_))))))
    walk_at "s"
    refine ⟨fun _ => ?_, fun h => absurd (of_decide_eq_false h) (by simp)⟩
    walk_at "s"
    exact fin_pd (by simp) q
  · refine ws_ret (we_andV ?_)
    walk_at "s"
    refine ⟨by rfl, .inr ⟨hs, rfl, ?_⟩⟩
    refine ⟨_, rfl, fun h => (by cases h), fun _ => ?_⟩
    exact fin_pd (by simp) q
/-! ### Ruler___init__ -/
abbrev N_Ruler___init__ : List Str := ["self", "heights", "line", "place", "height"]
theorem sc_Ruler___init__ : FnScope N_Ruler___init__ ["self", "heights"] (defScope s_Ruler___init__) := ⟨rfl, rfl, rfl, by decide +kernel, rfl, by decide +kernel, by decide +kernel⟩
theorem ok_Ruler___init__ (c_check_numbers : Cal P w K mg base 3 "check_numbers" ["what", "numbers", "most"] (spP K T 3 pre_check_numbers)) (c_check_most : Cal P w K mg base 2 "check_most" ["what", "many", "most"] (spP K T 3 pre_check_most)) (Z : Zs mg) (x_HEIGHTS : ∃ t, mg "HEIGHTS" = some (.int c_HEIGHTS t)) (x_CELLS : ∃ t, mg "CELLS" = some (.int c_CELLS t)) (h_Ruler : Cls K C_Ruler) (na_Ruler : ∀ f ∈ fl_Ruler, NoAttr K C_Ruler f) (dd : Di K mg "Ruler" C_Ruler "Ruler.__init__" s_Ruler___init__) : CalI P w K mg base 4 "Ruler" C_Ruler ["self", "heights"] (spP K T 2 (pre_Ruler___init__ C_Ruler)) := by
  obtain ⟨_, h_HEIGHTS⟩ := x_HEIGHTS
  obtain ⟨_, h_CELLS⟩ := x_CELLS
  refine dd.cal (fun f fd F => F.ok sc_Ruler___init__ (fun vs H Q E h => spP_len h) fun cdv A outer s H vs Q E hr h => ?_) (fun _ _ _ _ _ _ us hl => match us, hl with | [_, _], _ => rfl)
  have nd := sc_Ruler___init__.nd
  have hu := room_u hr
  refine ⟨_, (pss_cons (ps_expr (pe_callC c_check_most (hr.mono (by decide)) (by rfl) (pa_cons pe_str (pa_cons (pe_op (op_addK (K := K) rfl) (pe_callB (call_lenK (K := K) rfl) (by rfl) Z.len PySem.boot_len (pa_cons (pv 1) pa_nil)) pe_int) (pa_cons (pe_glob (v := .int c_CELLS) rfl h_CELLS ⟨_, rfl⟩) pa_nil))))) (pss_cons (ps_expr (pe_callC c_check_numbers (hr.mono (by decide)) (by rfl) (pa_cons pe_str (pa_cons (pv 1) (pa_cons (pe_glob (v := .int c_HEIGHTS) rfl h_HEIGHTS ⟨_, rfl⟩) pa_nil))))) (pss_cons (ps_fld (pv 0) (pe_lst pa_nil) rfl) (pss_cons (ps_fld (pv 0) (pe_lst pa_nil) rfl) (pss_cons (ps_asg pe_int (pg_name (i := 2) nd rfl (.inl rfl))) (pss_one (ps_for PassesOwn.never rfl (pi_enum (by rfl) Z.enumerate (pa_cons (pv 1) pa_nil)) (pg_tup (n := 2) rfl (pgs_cons (pg_name (i := 3) nd rfl (.inl rfl)) (pgs_cons (pg_name (i := 4) nd rfl (.inl rfl)) pgs_nil))) (pss_cons (ps_if (pt_cmpR op_lt (pv 4) pe_int (nomark _)) (pss_one ps_never) pss_nil) (pss_cons (ps_asg (pe_op (op_addK (K := K) rfl) (pv 2) (pv 4)) (pg_name (i := 2) nd rfl (.inl rfl))) (pss_cons (ps_expr (pe_bm PySem.F.plainAttrs_list PySem.F.slot_list_append PySem.F.type_list_append mt_append (pe_fld (pv 0) rfl) (pa_cons (pv 4) pa_nil))) (pss_one (ps_expr (pe_bm PySem.F.plainAttrs_list PySem.F.slot_list_append PySem.F.type_list_append mt_append (pe_fld (pv 0) rfl) (pa_cons (pv 2) pa_nil)))))))))))))), fn_run h ?_⟩
  intro xs st Φ hl hp
  clear hl h hu hr nd
  try dsimp only [L2.cxOf, NdefX.ncx]
  obtain ⟨n, hs, rfl, hn, ⟨ok1, ok⟩, q⟩ := hp
  have hnl := (List.getElem?_eq_some_iff.mp hn).1
  walk_at "s"
  refine ⟨by rfl, _, _, _, rfl, by rw [List.length_map]; show (hs.length : Int) + 1 ≤ 64; omega, ?_⟩
  walk_at "s"
  refine ⟨by rfl, _, hs, _, _, rfl, .inl rfl, fun x hx => (ok x hx).2, ?_⟩
  refine ws_sF (ws_fld (we_lstC (wa_nil ⟨_, _, purs_nil, big_le (by simp), we_var rfl ⟨n, _, _, rfl, get_app_l hn, h_Ruler, na_Ruler _ (by decide), by simp, ?_⟩⟩)))
  rw [set_app hn]
  have hn1 := get_setSelf (c' := .ins C_Ruler (putG "height_list" (.cell st.length) [])) hn
  refine ws_sF (ws_fld (we_lstC (wa_nil ⟨_, _, purs_nil, big_le (by simp), we_var rfl ⟨n, _, _, rfl, get_app_l (get_app_l hn1), h_Ruler, na_Ruler _ (by decide), by walk_at "n", ?_⟩⟩)))
  rw [set_app (get_app_l hn1), set_app hn1, set_set]
  have e2 : (st.set n (.ins C_Ruler (putG "height_list" (.cell st.length) [])) ++ [Cell.mu []]).length = st.length + 1 := by simp
  rw [e2]
  have ef : putG "edge_list" (.cell (st.length + 1)) (putG "height_list" (.cell st.length) []) = ([("height_list", Val.cell st.length), ("edge_list", Val.cell (st.length + 1))] : List (Str × Val)) := rfl
  rw [ef, List.append_assoc]
  have hn2 := get_setSelf (c' := .ins C_Ruler ([("height_list", Val.cell st.length), ("edge_list", Val.cell (st.length + 1))] : List (Str × Val))) hn
  generalize hS : st.set n (.ins C_Ruler ([("height_list", Val.cell st.length), ("edge_list", Val.cell (st.length + 1))] : List (Str × Val))) = S at hn2 q ⊢
  have hSl : S.length = st.length := by rw [← hS]; simp
  rw [← hSl] at hn2
  walk_at "s"
  refine ws_forE (wa_cons (we_var rfl (wa_nil ⟨_, rfl, fun i ss' st' => st' = S ++ [.mu ((hs.take i).map PyData.int), .mu (((edges hs).take i).map PyData.int)] ∧ ∃ y3 y4 : Option Val, ss' = [vC n, vL (hs.map PyData.int), vI ((hs.take i).sum), y3, y4], ⟨rfl, _, _, rfl⟩, ?_, ?_⟩)))
  · rintro i d ss' st' hd ⟨rfl, y3, y4, rfl⟩
    obtain ⟨x, hx, rfl⟩ : ∃ x, hs[i]? = some x ∧ d = .int x := by
      rw [List.getElem?_map] at hd
      cases e : hs[i]? with
      | none => rw [e] at hd; cases hd
      | some x => rw [e] at hd; exact ⟨x, rfl, (Option.some.inj hd).symm⟩
    obtain ⟨hi, ex⟩ := List.getElem?_eq_some_iff.mp hx
    have hx1 := (ok x (List.mem_of_getElem? hx)).1
    have t1 : hs.take (i + 1) = hs.take i ++ [x] := by rw [List.take_succ_eq_append_getElem hi, ex]
    have t2 : (edges hs).take (i + 1) = (edges hs).take i ++ [(hs.take (i + 1)).sum] := by
      have := edges_take 0 hs i hi
      rw [Int.zero_add] at this
      exact this
    have l1 : (hs.take i).length ≤ 64 := by rw [List.length_take]; omega
    have l2 : ((edges hs).take i).length ≤ 64 := by rw [List.length_take]; have := edges_len hs; omega
    walk_at "s"
    walk_at "f"
    refine ⟨fun h => absurd (of_decide_eq_true h) (by omega), fun _ => ?_⟩
    refine ws_next ?_
    refine ws_seq (ws_asg (we_op (we_var rfl (we_var rfl (wr_addI (wg_name ?_))))))
    refine ws_seq (ws_app (we_fld ?_))
    refine we_var rfl ⟨_, _, _, .cell (get_app_l hn2), h_Ruler, na_Ruler _ (by decide), rfl, S.length, _, rfl, get_end, ?_⟩
    refine we_var rfl ⟨_, _, _, rfl, get_end, ?_, ?_⟩
    · rw [List.length_map]
      exact big_lt (by omega)
    rw [set_a]
    refine ws_app (we_fld ?_)
    refine we_var rfl ⟨_, _, _, .cell (get_app_l hn2), h_Ruler, na_Ruler _ (by decide), rfl, S.length + 1, _, rfl, get_b, ?_⟩
    refine we_var rfl ⟨_, _, _, rfl, get_b, ?_, ?_⟩
    · rw [List.length_map]
      exact big_lt (by omega)
    rw [set_b]
    have ts : (hs.take (i + 1)).sum = (hs.take i).sum + x := by
      rw [t1, List.sum_append]
      simp
    refine ⟨?_, some (.pd (.int (i : Int))), some (.pd (.int x)), ?_⟩
    · rw [t2, ts, t1, List.map_append, List.map_append]
      rfl
    · rw [ts]
      rfl
  · rintro ss' st' ⟨rfl, y3, y4, rfl⟩
    rw [List.length_map, List.take_length, show (edges hs).take hs.length = edges hs from List.take_of_length_le (by rw [edges_len]; exact Nat.le_refl _)]
    exact .inl q
/-! ### Plan___init__ -/
abbrev N_Plan___init__ : List Str := ["self", "start", "ruler", "r", "sections", "tells"]
theorem sc_Plan___init__ : FnScope N_Plan___init__ ["self", "start", "ruler", "r", "sections", "tells"] (defScope s_Plan___init__) := ⟨rfl, rfl, rfl, by decide +kernel, rfl, by decide +kernel, by decide +kernel⟩
theorem ok_Plan___init__ (c_checked_tells : Cal P w K mg base 3 "checked_tells" ["tells", "many"] (spP K T 2 pre_checked_tells)) (c_checked_sections : Cal P w K mg base 4 "checked_sections" ["sections"] (spP K T 1 pre_checked_sections)) (c_is_pages : Cal P w K mg base 2 "is_pages" ["ruler"] (spP K T 1 (pre_is_pages K C_Ruler))) (c_whole_from : Cal P w K mg base 2 "whole_from" ["value", "least"] (spP K T 2 pre_whole_from)) (c_check_most : Cal P w K mg base 2 "check_most" ["what", "many", "most"] (spP K T 3 pre_check_most)) (c_check_lengths_bound : Cal P w K mg base 4 "check_lengths_bound" ["rows"] (spP K T 1 pre_check_lengths_bound)) (Z : Zs mg) (x_RANGE : ∃ t, mg "RANGE" = some (.int c_RANGE t)) (x_PAGE : ∃ t, mg "PAGE" = some (.int c_PAGE t)) (x_TELLS : ∃ t, mg "TELLS" = some (.int c_TELLS t)) (x_SECTIONS : ∃ t, mg "SECTIONS" = some (.int c_SECTIONS t)) (x_LINES : ∃ t, mg "LINES" = some (.int c_LINES t)) (h_Plan : Cls K C_Plan) (na_Plan : ∀ f ∈ fl_Plan, NoAttr K C_Plan f) (g_Ruler : mg "Ruler" = some (.ref C_Ruler)) (kt_Ruler : PySem.W.kitOne K (.type "tuple") (.ref C_Ruler) = some false) (it_Ruler : InsTy K C_Ruler) (dd : Di K mg "Plan" C_Plan "Plan.__init__" s_Plan___init__) : CalI P w K mg base 5 "Plan" C_Plan ["self", "start", "ruler", "r", "sections", "tells"] (spP K T 6 (pre_Plan___init__ K C_Plan C_Ruler)) := by
  obtain ⟨_, h_RANGE⟩ := x_RANGE
  obtain ⟨_, h_PAGE⟩ := x_PAGE
  obtain ⟨_, h_TELLS⟩ := x_TELLS
  obtain ⟨_, h_SECTIONS⟩ := x_SECTIONS
  obtain ⟨_, h_LINES⟩ := x_LINES
  refine dd.cal (fun f fd F => F.ok sc_Plan___init__ (fun vs H Q E h => spP_len h) fun cdv A outer s H vs Q E hr h => ?_) (fun _ _ _ _ _ _ us hl => match us, hl with | [_, _, _, _, _, _], _ => rfl)
  have nd := sc_Plan___init__.nd
  have hu := room_u hr
  refine ⟨_, (pss_cons (ps_expr (pe_callC c_check_most (hr.mono (by decide)) (by rfl) (pa_cons pe_str (pa_cons (pv 1) (pa_cons (pe_glob (v := .int c_LINES) rfl h_LINES ⟨_, rfl⟩) pa_nil))))) (pss_cons (ps_expr (pe_callC c_check_most (hr.mono (by decide)) (by rfl) (pa_cons pe_str (pa_cons (pe_callB (call_lenK (K := K) rfl) (by rfl) Z.len PySem.boot_len (pa_cons (pv 4) pa_nil)) (pa_cons (pe_glob (v := .int c_SECTIONS) rfl h_SECTIONS ⟨_, rfl⟩) pa_nil))))) (pss_cons (ps_expr (pe_callC c_check_most (hr.mono (by decide)) (by rfl) (pa_cons pe_str (pa_cons (pe_callB (call_lenK (K := K) rfl) (by rfl) Z.len PySem.boot_len (pa_cons (pv 5) pa_nil)) (pa_cons (pe_glob (v := .int c_TELLS) rfl h_TELLS ⟨_, rfl⟩) pa_nil))))) (pss_cons (ps_expr (pe_callC c_check_lengths_bound (hr.mono (by decide)) (by rfl) (pa_cons (pv 4) pa_nil))) (pss_cons (ps_if (pt_val (pe_callC c_is_pages (hr.mono (by decide)) (by rfl) (pa_cons (pv 2) pa_nil))) (pss_one (ps_expr (pe_callC c_check_most (hr.mono (by decide)) (by rfl) (pa_cons pe_str (pa_cons (pe_ix (ix_seqK (K := K) rfl) (pv 2) pe_int (fun _ _ => rfl)) (pa_cons (pe_glob (v := .int c_PAGE) rfl h_PAGE ⟨_, rfl⟩) pa_nil)))))) pss_nil) (pss_cons (ps_expr (pe_callC c_check_most (hr.mono (by decide)) (by rfl) (pa_cons pe_str (pa_cons (pv 3) (pa_cons (pe_glob (v := .int c_RANGE) rfl h_RANGE ⟨_, rfl⟩) pa_nil))))) (pss_cons (ps_if (pt_not (pt_val (pe_callC c_whole_from (hr.mono (by decide)) (by rfl) (pa_cons (pv 1) (pa_cons pe_int pa_nil))))) (pss_one ps_never) pss_nil) (pss_cons (ps_if (PW.pt (pw_and (pt_not (pt_val (pe_callB (call_isiK (K := K) rfl) (by rfl) Z.isinstance boot_isinstance (pa_cons (pv 2) (pa_cons (pe_glob (v := .ref C_Ruler) rfl g_Ruler rfl) pa_nil))))) (pw_and1 (pt_not (PW.pt (pw_and (pt_val (pe_callC c_is_pages (hr.mono (by decide)) (by rfl) (pa_cons (pv 2) pa_nil))) (pw_and1 (pt_val (pe_callC c_whole_from (hr.mono (by decide)) (by rfl) (pa_cons (pe_ix (ix_seqK (K := K) rfl) (pv 2) pe_int (fun _ _ => rfl)) (pa_cons pe_int pa_nil))))))))))) (pss_one ps_never) pss_nil) (pss_cons (ps_if (pt_not (pt_val (pe_callC c_whole_from (hr.mono (by decide)) (by rfl) (pa_cons (pv 3) (pa_cons pe_int pa_nil))))) (pss_one ps_never) pss_nil) (pss_cons (ps_fld (pv 0) (pv 1) rfl) (pss_cons (ps_fld (pv 0) (pe_ifExp (pt_val (pe_callC c_is_pages (hr.mono (by decide)) (by rfl) (pa_cons (pv 2) pa_nil))) (pe_ix (ix_seqK (K := K) rfl) (pv 2) pe_int (fun _ _ => rfl)) pe_non) rfl) (pss_cons (ps_fld (pv 0) (pe_ifExp (pt_val (pe_callC c_is_pages (hr.mono (by decide)) (by rfl) (pa_cons (pv 2) pa_nil))) pe_non (pv 2)) rfl) (pss_cons (ps_fld (pv 0) (pv 3) rfl) (pss_cons (ps_fld (pv 0) (pe_callC c_checked_sections (hr.mono (by decide)) (by rfl) (pa_cons (pv 4) pa_nil)) rfl) (pss_one (ps_fld (pv 0) (pe_callC c_checked_tells (hr.mono (by decide)) (by rfl) (pa_cons (pv 5) (pa_cons (pe_callB (call_lenK (K := K) rfl) (by rfl) Z.len PySem.boot_len (pa_cons (pv 4) pa_nil)) pa_nil))) rfl)))))))))))))))), fn_run h ?_⟩
  intro xs st Φ hl hp
  clear hl h hu hr nd
  try dsimp only [L2.cxOf, NdefX.ncx]
  obtain ⟨n, ⟨s, ru, r, ss, ts⟩, rfl, hn, ok, q⟩ := hp
  obtain ⟨s0, s1, rok, r1, r2, sn, tn, sec, tel, srt⟩ := ok
  dsimp only at s0 s1 rok r1 r2 sn tn sec tel srt
  cases ru with
  | pages H =>
    obtain ⟨H1, H2⟩ := rok
    dsimp only [rulV]
    walk_at "s"
    refine ⟨by rfl, _, _, _, rfl, s1, ?_⟩
    walk_at "s"
    refine ⟨by rfl, _, _, _, rfl, by rw [List.length_map]; show (ss.length : Int) ≤ 60; omega, ?_⟩
    walk_at "s"
    refine ⟨by rfl, _, _, _, rfl, by rw [List.length_map]; show (ts.length : Int) ≤ 60; omega, ?_⟩
    walk_at "s"
    refine ⟨by rfl, _, rfl, sec, ?_⟩
    walk_at "f"
    refine ⟨by rfl, .inl ⟨_, rfl, ?_⟩⟩
    refine ⟨_, rfl, fun _ => ?_, fun h => (by cases h)⟩
    walk_at "s"
    refine ⟨by rfl, _, _, _, rfl, H2, ?_⟩
    walk_at "s"
    refine ⟨by rfl, _, _, _, rfl, r2, ?_⟩
    walk_at "f"
    refine ⟨by rfl, _, _, rfl, ?_⟩
    walk_at "s"
    refine ⟨fun h => absurd h (by simp; omega), fun _ => ?_⟩
    refine ws_next ?_
    walk_at "f"
    refine we_cls ?_
    walk_at "s"
    refine wc_isiC rfl kt_Ruler ?_
    walk_at "s"
    refine ⟨fun _ => ?_, fun h => (by cases h)⟩
    walk_at "s"
    refine ⟨by rfl, .inl ⟨_, rfl, ?_⟩⟩
    refine ⟨_, rfl, fun _ => ?_, fun h => (by cases h)⟩
    walk_at "s"
    refine ⟨by rfl, _, _, rfl, ?_⟩
    rw [decide_eq_true H1]
    refine ⟨_, rfl, fun h => (by cases h), fun _ => ?_⟩
    refine ws_next ?_
    walk_at "f"
    refine ⟨by rfl, _, _, rfl, ?_⟩
    walk_at "s"
    refine ⟨fun h => absurd h (by simp; omega), fun _ => ?_⟩
    refine ws_next ?_
    refine ws_sF (ws_fld (we_var rfl (we_var rfl ⟨n, _, _, rfl, hn, h_Plan, na_Plan _ (by decide), by simp, ?_⟩)))
    have h1 := get_setSelf (c' := .ins C_Plan (putG "start_line" (.pd (.int s)) [])) hn
    refine ws_sF (ws_fld ?_)
    walk_at "s"
    refine ⟨by rfl, .inl ⟨_, rfl, ?_⟩⟩
    refine ⟨_, rfl, fun _ => ?_, fun h => (by cases h)⟩
    walk_at "s"
    refine ⟨n, _, _, rfl, h1, h_Plan, na_Plan _ (by decide), by walk_at "n", ?_⟩
    rw [set_set]
    have h2 := get_setSelf (c' := .ins C_Plan (putG "page_height" (.pd (.int H)) (putG "start_line" (.pd (.int s)) []))) hn
    refine ws_sF (ws_fld ?_)
    walk_at "s"
    refine ⟨by rfl, .inl ⟨_, rfl, ?_⟩⟩
    refine ⟨_, rfl, fun _ => ?_, fun h => (by cases h)⟩
    walk_at "s"
    refine ⟨n, _, _, rfl, h2, h_Plan, na_Plan _ (by decide), by walk_at "n", ?_⟩
    rw [set_set]
    have h3 := get_setSelf (c' := .ins C_Plan (putG "ruler_told" (.pd .none) (putG "page_height" (.pd (.int H)) (putG "start_line" (.pd (.int s)) [])))) hn
    refine ws_sF (ws_fld ?_)
    walk_at "s"
    refine ⟨n, _, _, rfl, h3, h_Plan, na_Plan _ (by decide), by walk_at "n", ?_⟩
    rw [set_set]
    have h4 := get_setSelf (c' := .ins C_Plan (putG "range_most" (.pd (.int r)) (putG "ruler_told" (.pd .none) (putG "page_height" (.pd (.int H)) (putG "start_line" (.pd (.int s)) []))))) hn
    refine ws_sF (ws_fld ?_)
    walk_at "s"
    refine ⟨by rfl, _, rfl, sec, by omega, ?_⟩
    walk_at "s"
    refine ⟨n, _, _, rfl, h4, h_Plan, na_Plan _ (by decide), by walk_at "n", ?_⟩
    rw [set_set]
    have h5 := get_setSelf (c' := .ins C_Plan (putG "section_rows" (.pd (.list (ss.map secD))) (putG "range_most" (.pd (.int r)) (putG "ruler_told" (.pd .none) (putG "page_height" (.pd (.int H)) (putG "start_line" (.pd (.int s)) [])))))) hn
    refine ws_fld ?_
    walk_at "s"
    rw [List.length_map]
    refine ⟨by rfl, _, _, rfl, ⟨tel, srt⟩, by omega, ?_⟩
    walk_at "s"
    refine ⟨n, _, _, rfl, h5, h_Plan, na_Plan _ (by decide), by walk_at "n", ?_⟩
    rw [set_set]
    exact .inl q
  | cells hs =>
    dsimp only [rulV]
    walk_at "s"
    refine ⟨by rfl, _, _, _, rfl, s1, ?_⟩
    walk_at "s"
    refine ⟨by rfl, _, _, _, rfl, by rw [List.length_map]; show (ss.length : Int) ≤ 60; omega, ?_⟩
    walk_at "s"
    refine ⟨by rfl, _, _, _, rfl, by rw [List.length_map]; show (ts.length : Int) ≤ 60; omega, ?_⟩
    walk_at "s"
    refine ⟨by rfl, _, rfl, sec, ?_⟩
    walk_at "f"
    refine ⟨by rfl, .inr ⟨_, rfl, ?_⟩⟩
    refine ⟨_, rfl, fun h => (by cases h), fun _ => ?_⟩
    refine ws_next ?_
    walk_at "s"
    refine ⟨by rfl, _, _, _, rfl, r2, ?_⟩
    walk_at "f"
    refine ⟨by rfl, _, _, rfl, ?_⟩
    walk_at "s"
    refine ⟨fun h => absurd h (by simp; omega), fun _ => ?_⟩
    refine ws_next ?_
    walk_at "f"
    refine we_cls ?_
    walk_at "s"
    refine wc_isiO it_Ruler it_Ruler.own ?_
    walk_at "s"
    refine ⟨fun h => (by cases h), fun _ => ⟨fun h => (by cases h), fun _ => ?_⟩⟩
    refine ws_next ?_
    walk_at "f"
    refine ⟨by rfl, _, _, rfl, ?_⟩
    walk_at "s"
    refine ⟨fun h => absurd h (by simp; omega), fun _ => ?_⟩
    refine ws_next ?_
    refine ws_sF (ws_fld (we_var rfl (we_var rfl ⟨n, _, _, rfl, hn, h_Plan, na_Plan _ (by decide), by simp, ?_⟩)))
    have h1 := get_setSelf (c' := .ins C_Plan (putG "start_line" (.pd (.int s)) [])) hn
    refine ws_sF (ws_fld ?_)
    walk_at "s"
    refine ⟨by rfl, .inr ⟨_, rfl, ?_⟩⟩
    refine ⟨_, rfl, fun h => (by cases h), fun _ => ?_⟩
    walk_at "s"
    refine ⟨n, _, _, rfl, h1, h_Plan, na_Plan _ (by decide), by walk_at "n", ?_⟩
    rw [set_set]
    have h2 := get_setSelf (c' := .ins C_Plan (putG "page_height" (.pd .none) (putG "start_line" (.pd (.int s)) []))) hn
    refine ws_sF (ws_fld ?_)
    walk_at "s"
    refine ⟨by rfl, .inr ⟨_, rfl, ?_⟩⟩
    refine ⟨_, rfl, fun h => (by cases h), fun _ => ?_⟩
    walk_at "s"
    refine ⟨n, _, _, rfl, h2, h_Plan, na_Plan _ (by decide), by walk_at "n", ?_⟩
    rw [set_set]
    have h3 := get_setSelf (c' := .ins C_Plan (putG "ruler_told" (rulerO K C_Ruler hs) (putG "page_height" (.pd .none) (putG "start_line" (.pd (.int s)) [])))) hn
    refine ws_sF (ws_fld ?_)
    walk_at "s"
    refine ⟨n, _, _, rfl, h3, h_Plan, na_Plan _ (by decide), by walk_at "n", ?_⟩
    rw [set_set]
    have h4 := get_setSelf (c' := .ins C_Plan (putG "range_most" (.pd (.int r)) (putG "ruler_told" (rulerO K C_Ruler hs) (putG "page_height" (.pd .none) (putG "start_line" (.pd (.int s)) []))))) hn
    refine ws_sF (ws_fld ?_)
    walk_at "s"
    refine ⟨by rfl, _, rfl, sec, by omega, ?_⟩
    walk_at "s"
    refine ⟨n, _, _, rfl, h4, h_Plan, na_Plan _ (by decide), by walk_at "n", ?_⟩
    rw [set_set]
    have h5 := get_setSelf (c' := .ins C_Plan (putG "section_rows" (.pd (.list (ss.map secD))) (putG "range_most" (.pd (.int r)) (putG "ruler_told" (rulerO K C_Ruler hs) (putG "page_height" (.pd .none) (putG "start_line" (.pd (.int s)) [])))))) hn
    refine ws_fld ?_
    walk_at "s"
    rw [List.length_map]
    refine ⟨by rfl, _, _, rfl, ⟨tel, srt⟩, by omega, ?_⟩
    walk_at "s"
    refine ⟨n, _, _, rfl, h5, h_Plan, na_Plan _ (by decide), by walk_at "n", ?_⟩
    rw [set_set]
    exact .inl q
/-! ### arcs_pulled -/
abbrev N_arcs_pulled : List Str := ["r", "a", "b", "c", "made", "first", "last", "begin", "end"]
theorem sc_arcs_pulled : FnScope N_arcs_pulled ["r", "a", "b", "c"] (defScope s_arcs_pulled) := ⟨rfl, rfl, rfl, by decide +kernel, rfl, by decide +kernel, by decide +kernel⟩
theorem ok_arcs_pulled (c_arcs_gathered : Cal P w K mg base 1 "arcs_gathered" ["rows"] (spP K T 1 pre_arcs_gathered)) (c_arcs_joined : Cal P w K mg base 1 "arcs_joined" ["r", "pad"] (spP K T 2 pre_arcs_joined)) (Z : Zs mg) (dd : Df K mg "arcs_pulled" s_arcs_pulled) : Cal P w K mg base 2 "arcs_pulled" ["r", "a", "b", "c"] (spP K T 4 pre_arcs_pulled) := by
  refine dd.cal (fun f fd F => F.ok sc_arcs_pulled (fun vs H Q E h => spP_len h) fun cdv A outer s H vs Q E hr h => ?_) (fun _ _ _ _ _ _ us hl => match us, hl with | [_, _, _, _], _ => rfl)
  have nd := sc_arcs_pulled.nd
  have hu := room_u hr
  refine ⟨_, (pss_cons (ps_asg (pe_lst pa_nil) (pg_name (i := 4) nd rfl (.inl rfl))) (pss_cons (ps_for PassesOwn.never rfl (pi_list (pe_callC c_arcs_joined (hr.mono (by decide)) (by rfl) (pa_cons (pv 0) (pa_cons (pv 3) pa_nil)))) (pg_tup (n := 2) rfl (pgs_cons (pg_name (i := 5) nd rfl (.inl rfl)) (pgs_cons (pg_name (i := 6) nd rfl (.inl rfl)) pgs_nil))) (pss_cons (ps_asg (pe_op op_sub (pe_op op_sub (pv 5) (pv 1)) (pv 3)) (pg_name (i := 7) nd rfl (.inl rfl))) (pss_cons (ps_asg (pe_ifExp (pt_cmpR op_isN (pv 6) pe_non (nomark _)) pe_non (pe_op op_sub (pv 6) (pv 2))) (pg_name (i := 8) nd rfl (.inl rfl))) (pss_one (ps_if (PW.pt (pw_or (pt_cmpR op_isN (pv 8) pe_non (nomark _)) (pw_or1 (pt_cmpR op_ge (pv 8) (pe_callB (call_max2 rfl) (by rfl) Z.max boot_max (pa_cons pe_int (pa_cons (pv 7) pa_nil))) (nomark _))))) (pss_one (ps_expr (pe_bm PySem.F.plainAttrs_list PySem.F.slot_list_append PySem.F.type_list_append mt_append (pv 4) (pa_cons (pe_tup (pa_cons (pe_callB (call_max2 rfl) (by rfl) Z.max boot_max (pa_cons pe_int (pa_cons (pv 7) pa_nil))) (pa_cons (pv 8) pa_nil))) pa_nil)))) pss_nil))))) (pss_one (ps_ret (pe_callC c_arcs_gathered (hr.mono (by decide)) (by rfl) (pa_cons (pv 4) pa_nil)))))), fn_run h ?_⟩
  intro xs st Φ hl hp
  clear hl h hu hr nd
  try dsimp only [L2.cxOf, NdefX.ncx]
  obtain ⟨r, a, b, c, rfl, hl, hj, q⟩ := hp
  walk_at "c"
  refine ws_seq (ws_forL (we_call ?_))
  walk_at "s"
  refine ⟨by rfl, r, c, rfl, hl, ?_⟩
  generalize hJ : joined r c = J at hj
  refine ⟨_, rfl, fun i ss' st' => ∃ y5 y6 y7 y8 : Option Val, ss' = [some (.pd (eSegs r)), vI a, vI b, vI c, some (.cell st.length), y5, y6, y7, y8] ∧ st' = st ++ [.mu (((J.take i).filterMap (pullRow a b c)).map eArc)], ⟨_, _, _, _, rfl, rfl⟩, ?_, ?_⟩
  · rintro i d ss' st' hd ⟨y5, y6, y7, y8, rfl, rfl⟩
    obtain ⟨t, ht, rfl⟩ := seg_at hd
    obtain ⟨hi, e⟩ := List.getElem?_eq_some_iff.mp ht
    have hnext : (J.take (i + 1)).filterMap (pullRow a b c) = (J.take i).filterMap (pullRow a b c) ++ (pullRow a b c t).toList := by
      rw [List.take_succ_eq_append_getElem hi, e, List.filterMap_append]
      congr 1
    have hlm : ((J.take i).filterMap (pullRow a b c)).length ≤ 100000 := by
      have h1 := List.length_filterMap_le (pullRow a b c) (J.take i)
      rw [List.length_take] at h1
      omega
    dsimp only
    rw [hnext]
    generalize (J.take i).filterMap (pullRow a b c) = made at hlm
    obtain ⟨f, l⟩ := t
    have em : max 0 (f - a - c) = if f - a - c > 0 then f - a - c else 0 := by split <;> omega
    walk_at "s"
    refine ⟨fun h => (by cases h), fun _ => ?_⟩
    walk_at "s"
    refine ⟨fun h => (by cases h), fun _ => ?_⟩
    walk_at "s"
    refine ⟨fun h => ?_, fun h => ?_⟩
    · have h := of_decide_eq_true h
      have hp : pullRow a b c (f, l) = some ((if f - a - c > 0 then f - a - c else 0), some (l - b)) := by
        unfold pullRow
        rw [if_pos (by rw [em]; exact h), em]
      rw [hp]
      walk_at "s"
      refine ⟨_, _, _, _, rfl, ?_⟩
      rw [snocA]
      rfl
    · have h := of_decide_eq_false h
      have hp : pullRow a b c (f, l) = none := by
        unfold pullRow
        rw [if_neg (by rw [em]; exact h)]
      rw [hp]
      walk_at "s"
      refine ⟨_, _, _, _, rfl, ?_⟩
      rw [show (none : Option Arc).toList = [] from rfl, List.append_nil]
  · rintro ss' st' ⟨y5, y6, y7, y8, rfl, rfl⟩
    rw [List.length_map, List.take_length]
    have hlm := List.length_filterMap_le (pullRow a b c) J
    have eP : pulled r a b c = arcsGathered (J.filterMap (pullRow a b c)) := by rw [← hJ]; rfl
    rw [eP] at q
    refine ws_ret (we_call (wa_cons (we_pur (we_var rfl ⟨_, _, pur_end, wa_nil ⟨by rfl, J.filterMap (pullRow a b c), rfl, by omega, ?_⟩⟩))))
    rcases q with q | q
    · exact .inl (fin_pd (by simp) q)
    · refine .inr fun jk n hn hle => fin_all ?_
      rw [List.append_assoc] at hn ⊢
      exact q _ n hn (by rw [List.length_append] at hle; omega)
/-! ### cut_pieces -/
abbrev N_cut_pieces : List Str := ["pieces", "windows", "made", "at", "to", "end", "first", "last"]
theorem sc_cut_pieces : FnScope N_cut_pieces ["pieces", "windows"] (defScope s_cut_pieces) := ⟨rfl, rfl, rfl, by decide +kernel, rfl, by decide +kernel, by decide +kernel⟩
theorem ok_cut_pieces (Z : Zs mg) (dd : Df K mg "cut_pieces" s_cut_pieces) : Cal P w K mg base 1 "cut_pieces" ["pieces", "windows"] (spP K T 2 pre_cut_pieces) := by
  refine dd.cal (fun f fd F => F.ok sc_cut_pieces (fun vs H Q E h => spP_len h) fun cdv A outer s H vs Q E hr h => ?_) (fun _ _ _ _ _ _ us hl => match us, hl with | [_, _], _ => rfl)
  have nd := sc_cut_pieces.nd
  have hu := room_u hr
  refine ⟨_, (pss_cons (ps_asg (pe_lst pa_nil) (pg_name (i := 2) nd rfl (.inl rfl))) (pss_cons (ps_asg pe_int (pg_name (i := 3) nd rfl (.inl rfl))) (pss_cons (ps_asg pe_int (pg_name (i := 4) nd rfl (.inl rfl))) (pss_cons (ps_while PassesOwn.never (PW.pt (pw_and (pt_cmpR op_lt (pv 3) (pe_callB (call_lenK (K := K) rfl) (by rfl) Z.len PySem.boot_len (pa_cons (pv 0) pa_nil)) (nomark _)) (pw_and1 (pt_cmpR op_lt (pv 4) (pe_callB (call_lenK (K := K) rfl) (by rfl) Z.len PySem.boot_len (pa_cons (pv 1) pa_nil)) (nomark _))))) (pss_cons (ps_asg (pe_ix (ix_seqK (K := K) rfl) (pe_ix (ix_seqK (K := K) rfl) (pv 1) (pv 4) (fun _ _ => rfl)) pe_int (fun _ _ => rfl)) (pg_name (i := 5) nd rfl (.inl rfl))) (pss_cons (ps_asg (pe_callB (call_max2 rfl) (by rfl) Z.max boot_max (pa_cons (pe_ix (ix_seqK (K := K) rfl) (pe_ix (ix_seqK (K := K) rfl) (pv 0) (pv 3) (fun _ _ => rfl)) pe_int (fun _ _ => rfl)) (pa_cons (pe_ix (ix_seqK (K := K) rfl) (pe_ix (ix_seqK (K := K) rfl) (pv 1) (pv 4) (fun _ _ => rfl)) pe_int (fun _ _ => rfl)) pa_nil))) (pg_name (i := 6) nd rfl (.inl rfl))) (pss_cons (ps_asg (pe_ifExp (pt_cmpR op_isN (pv 5) pe_non (nomark _)) (pe_ix (ix_seqK (K := K) rfl) (pe_ix (ix_seqK (K := K) rfl) (pv 0) (pv 3) (fun _ _ => rfl)) pe_int (fun _ _ => rfl)) (pe_callB (call_min2 rfl) (by rfl) Z.min boot_min (pa_cons (pe_ix (ix_seqK (K := K) rfl) (pe_ix (ix_seqK (K := K) rfl) (pv 0) (pv 3) (fun _ _ => rfl)) pe_int (fun _ _ => rfl)) (pa_cons (pv 5) pa_nil)))) (pg_name (i := 7) nd rfl (.inl rfl))) (pss_cons (ps_if (pt_cmpR op_le (pv 6) (pv 7) (nomark _)) (pss_one (ps_expr (pe_bm PySem.F.plainAttrs_list PySem.F.slot_list_append PySem.F.type_list_append mt_append (pv 2) (pa_cons (pe_tup (pa_cons (pv 6) (pa_cons (pv 7) pa_nil))) pa_nil)))) pss_nil) (pss_one (ps_if (PW.pt (pw_or (pt_cmpR op_isN (pv 5) pe_non (nomark _)) (pw_or1 (pt_cmpR op_le (pe_ix (ix_seqK (K := K) rfl) (pe_ix (ix_seqK (K := K) rfl) (pv 0) (pv 3) (fun _ _ => rfl)) pe_int (fun _ _ => rfl)) (pv 5) (nomark _))))) (pss_one (ps_aug (i := 3) nd rfl (.inl rfl) pe_int ip_add)) (pss_one (ps_aug (i := 4) nd rfl (.inl rfl) pe_int ip_add))))))))) (pss_one (ps_ret (pv 2))))))), fn_run h ?_⟩
  intro xs st Φ hl hp
  clear hl h hu hr nd
  try dsimp only [L2.cxOf, NdefX.ncx]
  obtain ⟨ps, W, rfl, hl, q⟩ := hp
  walk_at "c"
  refine ws_seq (ws_while (fun m ss' st' => ∃ (at_ to : Nat) (made : List Seg) (y5 y6 y7 : Option Val), ss' = [some (.pd (eSegs ps)), some (.pd (.list (W.map winD))), some (.cell st.length), some (.pd (.int at_)), some (.pd (.int to)), y5, y6, y7] ∧ st' = st ++ [.mu (made.map pairT)] ∧
    at_ ≤ ps.length ∧ to ≤ W.length ∧ m = (ps.length - at_) + (W.length - to) ∧ made ++ cutN m (ps.drop at_) ((W.map Prod.snd).drop to) = cutP ps (W.map Prod.snd)) ⟨_, 0, 0, [], none, none, none, rfl, rfl, Nat.zero_le _, Nat.zero_le _, rfl, by unfold cutP; rw [List.length_map]; rfl⟩ ?_)
  rintro m ss' st' ⟨at_, to, made, y5, y6, y7, rfl, rfl, h1, h2, rfl, he⟩
  have hmade : made.length ≤ ps.length + W.length := by
    have h3 := congrArg List.length he
    have h4 := cutN_le (ps.length + (W.map Prod.snd).length) ps (W.map Prod.snd)
    rw [List.length_append] at h3
    rw [List.length_map] at h4
    unfold cutP at h3
    rw [List.length_map] at h3
    omega
  walk_at "s"
  refine ⟨fun hb => ?_, fun hb => ⟨fun h => (by cases h), fun _ => ?_⟩⟩
  · have hat : at_ < ps.length := by
      have := of_decide_eq_true hb
      simp at this
      exact this
    walk_at "s"
    refine ⟨fun hb2 => ?_, fun hb2 => ?_⟩
    · have hto : to < W.length := by
        have := of_decide_eq_true hb2
        simp at this
        exact this
      have hW : (W.map Prod.snd).drop to = W[to].2 :: (W.map Prod.snd).drop (to + 1) := by
        rw [List.drop_eq_getElem_cons (show to < (W.map Prod.snd).length by rw [List.length_map]; exact hto), List.getElem_map]
      obtain ⟨n, hn⟩ : ∃ n, (ps.length - at_) + (W.length - to) = n + 1 := ⟨(ps.length - at_) + (W.length - to) - 1, by omega⟩
      rw [hn, List.drop_eq_getElem_cons hat, hW] at he
      walk_at "s"
      refine wr_ixuL rfl (win_at hto) ?_
      walk_at "s"
      refine wr_ixuL rfl (segs_at hat) ?_
      walk_at "s"
      refine wr_ixuL rfl (win_at hto) ?_
      walk_at "s"
      have hpd0 := List.drop_eq_getElem_cons hat
      have sat : atI (ps.map pairT) (at_ : Int) = some (pairT ps[at_]) := segs_at hat
      generalize ps[at_] = p at he sat hpd0 ⊢
      generalize W[to] = w at he hW ⊢
      obtain ⟨pa, pb⟩ := p
      obtain ⟨wc, wa, wb⟩ := w
      unfold cutN at he
      dsimp only at he ⊢
      generalize hfirst : (if wa > pa then wa else pa) = first at he ⊢
      have hpd : (pa, pb) :: ps.drop (at_ + 1) = ps.drop at_ := hpd0.symm
      rw [hpd, ← hW] at he
      cases wb with
      | none =>
        dsimp only [eOpt] at he ⊢
        walk_at "s"
        refine ⟨fun _ => ?_, fun h => (by cases h)⟩
        walk_at "s"
        refine wr_ixuL rfl sat ?_
        walk_at "s"
        refine ws_mid (fun ss' st' => ss' = [some (.pd (eSegs ps)), some (.pd (.list (W.map winD))), some (.cell st.length), some (.pd (.int at_)), some (.pd (.int to)), some (.pd .none), some (.pd (.int first)), some (.pd (.int pb))] ∧ ∃ made' : List Seg, st' = st ++ [.mu (made'.map pairT)] ∧ made' = made ++ (if first ≤ pb then [(first, pb)] else [])) ?_ ?_
        · walk_at "s"
          refine ⟨fun h => ?_, fun h => ?_⟩
          · walk_at "s"
            exact ⟨rfl, made ++ [(first, pb)], by rw [snoc_seg], by rw [if_pos (of_decide_eq_true h)]⟩
          · walk_at "s"
            exact ⟨rfl, made, rfl, by rw [if_neg (of_decide_eq_false h), List.append_nil]⟩
        · rintro ss' st' ⟨rfl, made', rfl, em'⟩
          rw [← List.append_assoc, ← em'] at he
          walk_at "s"
          refine ⟨fun _ => ⟨fun _ => ?_, fun h => (by cases h)⟩, fun h => (by cases h)⟩
          rw [if_pos rfl] at he
          walk_at "s"
          exact ⟨n, by omega, at_ + 1, to, made', _, _, _, rfl, rfl, hat, h2, by omega, he⟩
      | some e =>
        dsimp only [eOpt] at he ⊢
        walk_at "s"
        refine ⟨fun h => (by cases h), fun _ => ?_⟩
        walk_at "s"
        refine wr_ixuL rfl sat ?_
        walk_at "s"
        refine ws_mid (fun ss' st' => ss' = [some (.pd (eSegs ps)), some (.pd (.list (W.map winD))), some (.cell st.length), some (.pd (.int at_)), some (.pd (.int to)), some (.pd (.int e)), some (.pd (.int first)), some (.pd (.int (if e < pb then e else pb)))] ∧ ∃ made' : List Seg, st' = st ++ [.mu (made'.map pairT)] ∧ made' = made ++ (if first ≤ (if e < pb then e else pb) then [(first, (if e < pb then e else pb))] else [])) ?_ ?_
        · walk_at "s"
          refine ⟨fun h => ?_, fun h => ?_⟩
          · walk_at "s"
            exact ⟨rfl, made ++ [(first, (if e < pb then e else pb))], by rw [snoc_seg], by rw [if_pos (of_decide_eq_true h)]⟩
          · walk_at "s"
            exact ⟨rfl, made, rfl, by rw [if_neg (of_decide_eq_false h), List.append_nil]⟩
        · rintro ss' st' ⟨rfl, made', rfl, em'⟩
          rw [← List.append_assoc, ← em'] at he
          walk_at "s"
          refine ⟨fun h => (by cases h), fun _ => ?_⟩
          walk_at "s"
          refine wr_ixuL rfl sat ?_
          walk_at "s"
          refine ⟨fun h => ?_, fun h => ?_⟩
          · rw [if_pos h] at he
            walk_at "s"
            exact ⟨n, by omega, at_ + 1, to, made', _, _, _, rfl, rfl, hat, h2, by omega, he⟩
          · rw [if_neg (by rw [h]; exact Bool.false_ne_true)] at he
            walk_at "s"
            exact ⟨n, by omega, at_, to + 1, made', _, _, _, rfl, rfl, h1, hto, by omega, he⟩
    · have hto : to = W.length := by
        have := of_decide_eq_false hb2
        simp at this
        omega
      walk_at "s"
      rw [hto, List.drop_of_length_le (show (W.map Prod.snd).length ≤ W.length by rw [List.length_map]; exact Nat.le_refl _)] at he
      have e0 : ∀ n r, cutN n r [] = [] := fun n r => by cases n <;> cases r <;> rfl
      rw [e0, List.append_nil] at he
      rw [he]
      exact fin_end q
  · have hat : at_ = ps.length := by
      have := of_decide_eq_false hb
      simp at this
      omega
    walk_at "s"
    rw [hat, List.drop_length] at he
    have e0 : ∀ n s, cutN n [] s = [] := fun n s => by cases n <;> rfl
    rw [e0, List.append_nil] at he
    rw [he]
    exact fin_end q
/-! ### windows_to -/
abbrev N_windows_to : List Str := ["plan", "t", "j", "most", "low", "high", "made", "cell", "first", "last"]
theorem sc_windows_to : FnScope N_windows_to ["plan", "t", "j", "most"] (defScope s_windows_to) := ⟨rfl, rfl, rfl, by decide +kernel, rfl, by decide +kernel, by decide +kernel⟩
theorem ok_windows_to (c_Plan_first : CalM P w K mg base 4 C_Plan "first" ["self", "cell"] (spP K T 2 (pre_Plan_first K C_Plan C_Ruler))) (c_Plan_has_cell : CalM P w K mg base 2 C_Plan "has_cell" ["self", "cell"] (spP K T 2 (pre_Plan_has_cell K C_Plan C_Ruler))) (c_cell_window : Cal P w K mg base 5 "cell_window" ["plan", "t", "j", "cell"] (spP K T 4 (pre_cell_window K C_Plan C_Ruler))) (c_Plan_cell : CalM P w K mg base 2 C_Plan "cell" ["self", "line"] (spP K T 2 (pre_Plan_cell K C_Plan C_Ruler))) (c_Plan_sums : CalM P w K mg base 2 C_Plan "sums" ["self", "i", "j"] (spP K T 3 (pre_Plan_sums K C_Plan C_Ruler))) (h_Plan : Cls K C_Plan) (na_Plan : ∀ f ∈ fl_Plan, NoAttr K C_Plan f) (dd : Df K mg "windows_to" s_windows_to) : Cal P w K mg base 6 "windows_to" ["plan", "t", "j", "most"] (spP K T 4 (pre_windows_to K C_Plan C_Ruler)) := by
  refine dd.cal (fun f fd F => F.ok sc_windows_to (fun vs H Q E h => spP_len h) fun cdv A outer s H vs Q E hr h => ?_) (fun _ _ _ _ _ _ us hl => match us, hl with | [_, _, _, _], _ => rfl)
  have nd := sc_windows_to.nd
  have hu := room_u hr
  refine ⟨_, (pss_cons (ps_asg (pe_methC c_Plan_sums h_Plan (hr.mono (by decide)) (pv 0) (pa_cons (pv 1) (pa_cons (pv 2) pa_nil))) (pg_or (pg_tup (n := 2) rfl (pgs_cons (pg_name (i := 4) nd rfl (.inl rfl)) (pgs_cons (pg_name (i := 5) nd rfl (.inl rfl)) pgs_nil))) (pg_unl (n := 2) rfl (pgs_cons (pg_name (i := 4) nd rfl (.inl rfl)) (pgs_cons (pg_name (i := 5) nd rfl (.inl rfl)) pgs_nil))))) (pss_cons (ps_asg (pe_lst pa_nil) (pg_name (i := 6) nd rfl (.inl rfl))) (pss_cons (ps_asg (pe_methC c_Plan_cell h_Plan (hr.mono (by decide)) (pv 0) (pa_cons (pv 5) pa_nil)) (pg_name (i := 7) nd rfl (.inl rfl))) (pss_cons (ps_while PassesOwn.never (PW.pt (pw_and (pt_val (pe_methC c_Plan_has_cell h_Plan (hr.mono (by decide)) (pv 0) (pa_cons (pv 7) pa_nil))) (pw_and1 (pt_cmpR op_le (pe_op op_sub (pe_methC c_Plan_first h_Plan (hr.mono (by decide)) (pv 0) (pa_cons (pv 7) pa_nil)) (pv 4)) (pv 3) (nomark _))))) (pss_cons (ps_asg (pe_callC c_cell_window (hr.mono (by decide)) (by rfl) (pa_cons (pv 0) (pa_cons (pv 1) (pa_cons (pv 2) (pa_cons (pv 7) pa_nil))))) (pg_or (pg_tup (n := 2) rfl (pgs_cons (pg_name (i := 8) nd rfl (.inl rfl)) (pgs_cons (pg_name (i := 9) nd rfl (.inl rfl)) pgs_nil))) (pg_unl (n := 2) rfl (pgs_cons (pg_name (i := 8) nd rfl (.inl rfl)) (pgs_cons (pg_name (i := 9) nd rfl (.inl rfl)) pgs_nil))))) (pss_cons (ps_if (PW.pt (pw_or (pt_cmpR op_isN (pv 9) pe_non (nomark _)) (pw_or1 (pt_cmpR op_le (pv 8) (pv 9) (nomark _))))) (pss_one (ps_expr (pe_bm PySem.F.plainAttrs_list PySem.F.slot_list_append PySem.F.type_list_append mt_append (pv 6) (pa_cons (pe_tup (pa_cons (pv 7) (pa_cons (pv 8) (pa_cons (pv 9) pa_nil)))) pa_nil)))) pss_nil) (pss_one (ps_aug (i := 7) nd rfl (.inl rfl) pe_int ip_add))))) (pss_one (ps_ret (pv 6))))))), fn_run h ?_⟩
  intro xs st Φ hl hp
  clear hl h hu hr nd
  try dsimp only [L2.cxOf, NdefX.ncx]
  obtain ⟨p, i, j, most, rfl, hij, hj, sn, ok, sec, ⟨hm0, hm1⟩, q⟩ := hp
  have hlh := sum_lh sec i j
  have hhi := sum_hi sec sn i j
  refine ws_seq (ws_asg (we_meth (we_var rfl ⟨_, .ob, rfl, ?_⟩)))
  walk_at "s"
  refine ⟨by rfl, p, i, j, rfl, hij, hj, ?_⟩
  generalize hlo : sumLow p.ss i j = lo at hlh q ⊢
  generalize hhi' : sumHigh p.ss i j = hi at hlh hhi q ⊢
  refine wg_orT rfl (wgs_consM (wg_name (wgs_consM (wg_name (wgs_nilM ?_)))))
  walk_at "c"
  refine we_meth (we_var rfl ⟨_, .ob, rfl, ?_⟩)
  walk_at "s"
  refine ⟨by rfl, p, hi, rfl, by omega, ok, ?_⟩
  walk_at "s"
  have hc0 := cell_le ok (show 0 ≤ hi by omega)
  have hF : (windowsQ p.ru lo hi most).length ≤ 700002 := by
    have := winGo_len p.ru lo hi most (most + lo + 2 - cellQ p.ru hi).toNat (cellQ p.ru hi)
    have h1 : 1 ≤ cellQ p.ru hi := by
      have h := (cell_spec ok (show 0 ≤ hi by omega)).1
      cases e : p.ru with
      | pages H => rw [e] at h; exact of_decide_eq_true h
      | cells hs => rw [e] at h; exact (show 1 ≤ cellQ (.cells hs) hi ∧ cellQ (.cells hs) hi ≤ hs.length + 1 from of_decide_eq_true h).1
    unfold windowsQ
    omega
  refine ws_seq (ws_while (fun n ss' st' => ∃ (c : Int) (made : List (Int × Arc)) (y8 y9 : Option Val), ss' = [some (planQ K C_Plan C_Ruler p), vI i, vI j, vI most, vI lo, vI hi, some (.cell st.length), vI c, y8, y9] ∧ st' = st ++ [.mu (made.map winD)] ∧
    n = (most + lo + 2 - c).toNat ∧ c ≤ 1000000 ∧ made ++ winGo p.ru lo hi most n c = windowsQ p.ru lo hi most) ⟨_, _, [], none, none, rfl, rfl, rfl, by omega, rfl⟩ ?_)
  rintro n ss' st' ⟨c, made, y8, y9, rfl, rfl, hn, hc, he⟩
  have hmade : made.length ≤ 700002 := by
    have h3 := congrArg List.length he
    rw [List.length_append] at h3
    omega
  have exit : (¬ (hasC p.ru c = true ∧ firstC p.ru c - lo ≤ most)) → made = windowsQ p.ru lo hi most := by
    intro hx
    rw [← he]
    cases n with
    | zero => simp [winGo]
    | succ n =>
      unfold winGo
      rw [if_neg hx, List.append_nil]
  walk_at "s"
  refine we_meth (we_var rfl ⟨_, .ob, rfl, ?_⟩)
  walk_at "s"
  refine ⟨by rfl, p, c, rfl, ?_⟩
  cases hh : hasC p.ru c with
  | false =>
    refine ⟨_, rfl, fun h => (by cases h), fun _ => ⟨fun h => (by cases h), fun _ => ?_⟩⟩
    rw [exit (by rw [hh]; simp)]
    walk_at "s"
    exact fin_end q
  | true =>
    refine ⟨_, rfl, fun _ => ?_, fun h => (by cases h)⟩
    walk_at "s"
    refine we_meth (we_var rfl ⟨_, .ob, rfl, ?_⟩)
    walk_at "s"
    refine ⟨by rfl, p, c, rfl, ok, hh, by omega, ?_⟩
    walk_at "s"
    refine ⟨fun hb => ?_, fun hb => ?_⟩
    · have hb := of_decide_eq_true hb
      have hg := first_ge ok hh
      obtain ⟨n, rfl⟩ : ∃ n', n = n' + 1 := ⟨n - 1, by omega⟩
      have hw : winGo p.ru lo hi most (n + 1) c = (winRow p.ru lo hi c).toList ++ winGo p.ru lo hi most n (c + 1) := by
        rw [winGo, if_pos ⟨hh, hb⟩]
      rw [hw, ← List.append_assoc] at he
      refine ws_seq (ws_asg (we_call ?_))
      walk_at "s"
      refine ⟨by rfl, p, i, j, c, rfl, hij, hj, ok, hh, by omega, ?_⟩
      rw [hlo, hhi']
      refine wg_orT rfl (wgs_consM (wg_name (wgs_consM (wg_name (wgs_nilM ?_)))))
      cases el : lastC p.ru c with
      | none =>
        have hr : winRow p.ru lo hi c = some (c, (max 0 (firstC p.ru c - lo), none)) := by unfold winRow; rw [el]
        rw [hr] at he
        dsimp only [Option.map, eOpt]
        walk_at "f"
        refine ⟨fun _ => ⟨fun _ => ?_, fun h => (by cases h)⟩, fun h => (by cases h)⟩
        walk_at "s"
        exact ⟨n, by omega, c + 1, made ++ [(c, (max 0 (firstC p.ru c - lo), none))], _, _, rfl, by rw [← snoc_win]; rfl, by omega, by omega, he⟩
      | some l =>
        have hr : winRow p.ru lo hi c = if max 0 (firstC p.ru c - lo) ≤ l - hi then some (c, (max 0 (firstC p.ru c - lo), some (l - hi))) else none := by unfold winRow; rw [el]
        dsimp only [Option.map, eOpt]
        walk_at "f"
        refine ⟨fun h => (by cases h), fun _ => ?_⟩
        walk_at "s"
        refine ⟨fun h => ?_, fun h => ?_⟩
        · rw [if_pos (of_decide_eq_true h)] at hr
          rw [hr] at he
          walk_at "s"
          exact ⟨n, by omega, c + 1, made ++ [(c, (max 0 (firstC p.ru c - lo), some (l - hi)))], _, _, rfl, by rw [← snoc_win]; rfl, by omega, by omega, he⟩
        · rw [if_neg (of_decide_eq_false h)] at hr
          rw [hr] at he
          walk_at "s"
          exact ⟨n, by omega, c + 1, made, _, _, rfl, rfl, by omega, by omega, by simpa using he⟩
    · rw [exit (fun z => of_decide_eq_false hb z.2)]
      walk_at "s"
      exact fin_end q
/-! ### pulled_set -/
abbrev N_pulled_set : List Str := ["plan", "t", "arcs", "most", "a", "b", "c", "pieces", "j", "rows", "made", "at", "piece", "group"]
theorem sc_pulled_set : FnScope N_pulled_set ["plan", "t", "arcs", "most"] (defScope s_pulled_set) := ⟨rfl, rfl, rfl, by decide +kernel, rfl, by decide +kernel, by decide +kernel⟩
theorem ok_pulled_set (c_arcs_union : Cal P w K mg base 2 "arcs_union" ["r", "s"] (spP K T 2 pre_arcs_union)) (c_arcs_pulled : Cal P w K mg base 2 "arcs_pulled" ["r", "a", "b", "c"] (spP K T 4 pre_arcs_pulled)) (c_arcs_meet : Cal P w K mg base 2 "arcs_meet" ["r", "s"] (spP K T 2 pre_arcs_meet)) (c_Plan_open_marks : CalM P w K mg base 2 C_Plan "open_marks" ["self", "t"] (spP K T 2 (pre_Plan_open_marks K C_Plan C_Ruler))) (c_cut_pieces : Cal P w K mg base 1 "cut_pieces" ["pieces", "windows"] (spP K T 2 pre_cut_pieces)) (c_windows_to : Cal P w K mg base 6 "windows_to" ["plan", "t", "j", "most"] (spP K T 4 (pre_windows_to K C_Plan C_Ruler))) (c_Plan_section : CalM P w K mg base 1 C_Plan "section" ["self", "k"] (spP K T 2 (pre_Plan_section K C_Plan C_Ruler))) (Z : Zs mg) (h_Plan : Cls K C_Plan) (na_Plan : ∀ f ∈ fl_Plan, NoAttr K C_Plan f) (dd : Df K mg "pulled_set" s_pulled_set) : Cal P w K mg base 7 "pulled_set" ["plan", "t", "arcs", "most"] (spP K T 4 (pre_pulled_set K C_Plan C_Ruler)) := by
  refine dd.cal (fun f fd F => F.ok sc_pulled_set (fun vs H Q E h => spP_len h) fun cdv A outer s H vs Q E hr h => ?_) (fun _ _ _ _ _ _ us hl => match us, hl with | [_, _, _, _], _ => rfl)
  have nd := sc_pulled_set.nd
  have hu := room_u hr
  refine ⟨_, (pss_cons (ps_asg (pe_methC c_Plan_section h_Plan (hr.mono (by decide)) (pv 0) (pa_cons (pv 1) pa_nil)) (pg_or (pg_tup (n := 3) rfl (pgs_cons (pg_name (i := 4) nd rfl (.inl rfl)) (pgs_cons (pg_name (i := 5) nd rfl (.inl rfl)) (pgs_cons (pg_name (i := 6) nd rfl (.inl rfl)) pgs_nil)))) (pg_unl (n := 3) rfl (pgs_cons (pg_name (i := 4) nd rfl (.inl rfl)) (pgs_cons (pg_name (i := 5) nd rfl (.inl rfl)) (pgs_cons (pg_name (i := 6) nd rfl (.inl rfl)) pgs_nil)))))) (pss_cons (ps_asg (pe_lst (pa_cons (pe_tup (pa_cons pe_int (pa_cons (pv 3) pa_nil))) pa_nil)) (pg_name (i := 7) nd rfl (.inl rfl))) (pss_cons (ps_for PassesOwn.never rfl (pi_list (pe_methC c_Plan_open_marks h_Plan (hr.mono (by decide)) (pv 0) (pa_cons (pe_op op_sub (pv 1) pe_int) pa_nil))) (pg_name (i := 8) nd rfl (.inl rfl)) (pss_one (ps_asg (pe_callC c_cut_pieces (hr.mono (by decide)) (by rfl) (pa_cons (pv 7) (pa_cons (pe_callC c_windows_to (hr.mono (by decide)) (by rfl) (pa_cons (pv 0) (pa_cons (pv 1) (pa_cons (pv 8) (pa_cons (pv 3) pa_nil))))) pa_nil))) (pg_name (i := 7) nd rfl (.inl rfl))))) (pss_cons (ps_asg (pe_callC c_arcs_meet (hr.mono (by decide)) (by rfl) (pa_cons (pv 2) (pa_cons (pv 7) pa_nil))) (pg_name (i := 9) nd rfl (.inl rfl))) (pss_cons (ps_asg (pe_lst pa_nil) (pg_name (i := 10) nd rfl (.inl rfl))) (pss_cons (ps_asg pe_int (pg_name (i := 11) nd rfl (.inl rfl))) (pss_cons (ps_for PassesOwn.never rfl (pi_list (pv 7)) (pg_name (i := 12) nd rfl (.inl rfl)) (pss_cons (ps_asg (pe_lst pa_nil) (pg_name (i := 13) nd rfl (.inl rfl))) (pss_cons (ps_while PassesOwn.never (PW.pt (pw_and (pt_cmpR op_lt (pv 11) (pe_callB (call_lenK (K := K) rfl) (by rfl) Z.len PySem.boot_len (pa_cons (pv 9) pa_nil)) (nomark _)) (pw_and1 (pt_cmpR op_le (pe_ix (ix_seqK (K := K) rfl) (pe_ix (ix_seqK (K := K) rfl) (pv 9) (pv 11) (fun _ _ => rfl)) pe_int (fun _ _ => rfl)) (pe_ix (ix_seqK (K := K) rfl) (pv 12) pe_int (fun _ _ => rfl)) (nomark _))))) (pss_cons (ps_expr (pe_bm PySem.F.plainAttrs_list PySem.F.slot_list_append PySem.F.type_list_append mt_append (pv 13) (pa_cons (pe_ix (ix_seqK (K := K) rfl) (pv 9) (pv 11) (fun _ _ => rfl)) pa_nil))) (pss_one (ps_aug (i := 11) nd rfl (.inl rfl) pe_int ip_add)))) (pss_one (ps_expr (pe_bm PySem.F.plainAttrs_list PySem.F.slot_list_extend PySem.F.type_list_extend mt_extend (pv 10) (pa_cons (pe_callC c_arcs_pulled (hr.mono (by decide)) (by rfl) (pa_cons (pv 13) (pa_cons (pv 4) (pa_cons (pv 5) (pa_cons (pv 6) pa_nil))))) pa_nil))))))) (pss_one (ps_ret (pe_callC c_arcs_union (hr.mono (by decide)) (by rfl) (pa_cons (pv 10) (pa_cons (pe_lst pa_nil) pa_nil)))))))))))), fn_run h ?_⟩
  intro xs st Φ hl hp
  clear hl h hu hr nd
  try dsimp only [L2.cxOf, NdefX.ncx]
  obtain ⟨p, t, S, most, rfl, ht, sn, ok, sec, hS, hSb, ⟨hm0, hm1⟩, q⟩ := hp
  obtain ⟨⟨a, b, c⟩, hs⟩ : ∃ s, p.ss[t]? = some s := ⟨_, List.getElem?_eq_getElem ht⟩
  have hSl := srt_len (by omega) hS hSb
  refine ws_seq (ws_asg (we_meth (we_var rfl ⟨_, .ob, rfl, ?_⟩)))
  walk_at "s"
  refine ⟨by rfl, p, t, (a, b, c), by rw [Int.add_comm]; rfl, hs, ?_⟩
  refine wg_orT rfl (wgs_consM (wg_name (wgs_consM (wg_name (wgs_consM (wg_name (wgs_nilM ?_)))))))
  walk_at "s"
  refine ws_seq (ws_forL (we_meth (we_var rfl ⟨_, .ob, rfl, ?_⟩)))
  walk_at "s"
  refine ⟨by rfl, p, t, by rw [show ((t + 1 : Nat) : Int) - 1 = (t : Int) by omega], by omega, by omega, ?_⟩
  have hpl : ∀ k, ((piecesQ p (t + 1) most ((openQ p t).take k)).length : Int) ≤ most + 1 := by
    intro k
    have hP := pieces_spec ok sec (t + 1) hm0 ((openQ p t).take k)
    have := srt_len (Int.le_refl 0) hP.srt (lo := 0) (hi := most) fun x hx => by
      have h1 := (hP.mem x.1).mp ⟨x, hx, Int.le_refl _, hP.srt.1 x hx⟩
      have h2 := (hP.mem x.2).mp ⟨x, hx, hP.srt.1 x hx, Int.le_refl _⟩
      exact ⟨h1.1.1, h2.1.2⟩
    omega
  refine ⟨_, rfl, fun k ss' st' => st' = st ∧ ∃ y8 y9 y10 y11 y12 y13 : Option Val, ss' = [some (planQ K C_Plan C_Ruler p), vI ((t + 1 : Nat) : Int), some (.pd (eSegs S)), vI most, vI a, vI b, vI c, some (.pd (eSegs (piecesQ p (t + 1) most ((openQ p t).take k)))), y8, y9, y10, y11, y12, y13], ⟨rfl, _, _, _, _, _, _, rfl⟩, ?_, ?_⟩
  · rintro k d ss' st' hd ⟨rfl, y8, y9, y10, y11, y12, y13, rfl⟩
    obtain ⟨j, hj, rfl⟩ : ∃ j, (openQ p t)[k]? = some j ∧ d = .int (j : Int) := by
      rw [List.getElem?_map] at hd
      cases e : (openQ p t)[k]? with
      | none => rw [e] at hd; cases hd
      | some x => rw [e] at hd; exact ⟨x, rfl, (Option.some.inj hd).symm⟩
    obtain ⟨hk, ej⟩ := List.getElem?_eq_some_iff.mp hj
    have hjb := open_mem (List.mem_of_getElem? hj)
    have hlh := sum_lh sec (t + 1) j
    have hhi := sum_hi sec sn (t + 1) j
    have hnext : piecesQ p (t + 1) most ((openQ p t).take (k + 1)) = cutP (piecesQ p (t + 1) most ((openQ p t).take k)) ((windowsQ p.ru (sumLow p.ss (t + 1) j) (sumHigh p.ss (t + 1) j) most).map Prod.snd) := by
      rw [List.take_succ_eq_append_getElem hk, ej]
      unfold piecesQ
      rw [List.foldl_append]
      rfl
    have hWl := (windows_spec ok hlh.1 hlh.2 hm0).2
    have hpk := hpl k
    walk_at "s"
    refine ⟨by rfl, p, t + 1, j, most, rfl, hjb.1, hjb.2, sn, ok, sec, ⟨hm0, by omega⟩, ?_⟩
    walk_at "s"
    refine ⟨by rfl, _, _, rfl, by omega, ?_⟩
    rw [← hnext]
    walk_at "s"
    exact ⟨rfl, _, _, _, _, _, _, rfl⟩
  · rintro ss' st'0 ⟨rfl, y8, y9, y10, y11, y12, y13, rfl⟩
    rw [List.length_map, List.take_length]
    have hP := pieces_spec ok sec (t + 1) hm0 (openQ p t)
    have hpk := hpl (openQ p t).length
    rw [List.take_length] at hpk
    obtain ⟨rows, e1, hr⟩ := meet_spec (Int.le_refl 0) (hS.weak (by omega)) hP.srt
    have hrl := srt_len (Int.le_refl 0) hr.srt (lo := 0) (hi := most) fun x hx => by
      obtain ⟨s, hs, _, _, h1, h2, _, _⟩ := hr.sub x hx
      have := hSb s hs
      omega
    have eQ : pulledSet p (t + 1) S most = arcsUnion (groupGo a b c (piecesQ p (t + 1) most (openQ p t)) rows) [] := by
      unfold pulledSet
      rw [Nat.add_sub_cancel, hs]
      show arcsUnion (groupGo a b c _ (downA (arcsMeet (S.map up) ((piecesQ p (t + 1) most (openQ p t)).map up)))) [] = _
      rw [e1, downA_up]
    rw [eQ] at q
    generalize piecesQ p (t + 1) most (openQ p t) = ps at *
    refine ws_seq (ws_asg (we_call ?_))
    walk_at "s"
    refine ⟨by rfl, S.map up, ps.map up, by rw [eArcs_up, eArcs_up], by rw [List.length_map, List.length_map]; omega, ?_⟩
    rw [e1, eArcs_up]
    refine wg_name ?_
    walk_at "c"
    generalize hG : groupGo a b c ps rows = G at q
    refine ws_seq (ws_forL (we_var rfl ?_))
    refine ⟨_, rfl, fun k ss' st' => ∃ (made : List Arc) (at_ : Nat) (y12 y13 : Option Val) (jk : Sto), ss' = [some (planQ K C_Plan C_Ruler p), vI ((t + 1 : Nat) : Int), some (.pd (eSegs S)), vI most, vI a, vI b, vI c, some (.pd (eSegs ps)), y8, some (.pd (eSegs rows)), some (.cell st'0.length), vI at_, y12, y13] ∧ st' = st'0 ++ (.mu (made.map eArc) :: jk) ∧
      at_ ≤ rows.length ∧ made.length ≤ at_ ∧ made ++ groupGo a b c (ps.drop k) (rows.drop at_) = G, ⟨[], 0, _, _, [], rfl, rfl, Nat.zero_le _, Nat.zero_le _, hG⟩, ?_, ?_⟩
    · rintro k d ss' st' hd ⟨made, at_, y12, y13, jk, rfl, rfl, ha, hml, he⟩
      obtain ⟨x, hx, rfl⟩ := seg_at hd
      obtain ⟨hk, ex⟩ := List.getElem?_eq_some_iff.mp hx
      rw [List.drop_eq_getElem_cons hk, ex, group_next, ← List.append_assoc] at he
      obtain ⟨x1, x2⟩ := x
      refine wg_name ?_
      walk_at "c"
      generalize hst1 : st'0 ++ (Cell.mu (made.map eArc) :: jk) = st1
      dsimp only at he
      refine ws_mid (fun ss' st' => ∃ (at' : Nat) (group : List Seg), ss' = [some (planQ K C_Plan C_Ruler p), vI ((t + 1 : Nat) : Int), some (.pd (eSegs S)), vI most, vI a, vI b, vI c, some (.pd (eSegs ps)), y8, some (.pd (eSegs rows)), some (.cell st'0.length), vI at', some (.pd (pairT (x1, x2))), some (.cell st1.length)] ∧ st' = st1 ++ [.mu (group.map pairT)] ∧ at' ≤ rows.length ∧ group.length + at_ = at' ∧
        group = (rows.drop at_).takeWhile (fun y => decide (y.1 ≤ x2)) ∧ rows.drop at' = (rows.drop at_).dropWhile (fun y => decide (y.1 ≤ x2))) ?_ ?_
      · refine ws_while (fun m ss' st' => ∃ (at' : Nat) (group : List Seg), ss' = [some (planQ K C_Plan C_Ruler p), vI ((t + 1 : Nat) : Int), some (.pd (eSegs S)), vI most, vI a, vI b, vI c, some (.pd (eSegs ps)), y8, some (.pd (eSegs rows)), some (.cell st'0.length), vI at', some (.pd (pairT (x1, x2))), some (.cell st1.length)] ∧ st' = st1 ++ [.mu (group.map pairT)] ∧
          at_ ≤ at' ∧ at' ≤ rows.length ∧ m = rows.length - at' ∧ group.length + at_ = at' ∧ group ++ (rows.drop at').takeWhile (fun y => decide (y.1 ≤ x2)) = (rows.drop at_).takeWhile (fun y => decide (y.1 ≤ x2)) ∧ (rows.drop at').dropWhile (fun y => decide (y.1 ≤ x2)) = (rows.drop at_).dropWhile (fun y => decide (y.1 ≤ x2)))
          ⟨_, at_, [], rfl, rfl, Nat.le_refl _, ha, rfl, by simp, rfl, rfl⟩ ?_
        rintro m ss' st' ⟨at', group, rfl, rfl, g1, g2, rfl, g3, g4, g5⟩
        walk_at "s"
        refine ⟨fun hb => ?_, fun hb => ⟨fun h => (by cases h), fun _ => ?_⟩⟩
        · have hat : at' < rows.length := by
            have := of_decide_eq_true hb
            simp at this
            exact this
          rw [List.drop_eq_getElem_cons hat] at g4 g5
          have sat := segs_at hat
          have hdr := List.drop_eq_getElem_cons hat
          generalize rows[at'] = y at g4 g5 sat hdr
          obtain ⟨ya, yb⟩ := y
          rw [List.takeWhile_cons] at g4
          rw [List.dropWhile_cons] at g5
          walk_at "s"
          refine wr_ixuL rfl sat ?_
          walk_at "s"
          refine ⟨fun h => ?_, fun h => ?_⟩
          · have h' : decide ((ya, yb).1 ≤ x2) = true := h
            rw [if_pos h'] at g4 g5
            refine ws_seq (ws_app (we_var rfl ⟨st1.length, _, rfl, get_end, we_op ?_⟩))
            walk_at "s"
            refine wr_ixuL rfl sat ⟨_, _, _, rfl, get_end, by rw [List.length_map]; exact big_lt (by omega), ?_⟩
            rw [set_a]
            walk_at "s"
            exact ⟨rows.length - (at' + 1), by omega, at' + 1, group ++ [(ya, yb)], rfl, by rw [List.map_append]; rfl, by omega, hat, rfl, by simp; omega, by rw [List.append_assoc]; exact g4, g5⟩
          · have h' : ¬ decide ((ya, yb).1 ≤ x2) = true := by
              rw [show decide ((ya, yb).1 ≤ x2) = false from h]
              exact Bool.false_ne_true
            rw [if_neg h'] at g4 g5
            exact ⟨at', group, rfl, rfl, g2, g3, by simpa using g4, by rw [hdr]; exact g5⟩
        · have hat : at' = rows.length := by
            have := of_decide_eq_false hb
            simp at this
            omega
          rw [hat, List.drop_length] at g4 g5
          refine ⟨at', group, rfl, rfl, g2, g3, by simpa using g4, ?_⟩
          rw [hat, List.drop_length]
          exact g5
      · rintro ss' st' ⟨at', group, rfl, rfl, g2, g3, g4, g5⟩
        rw [← g4, ← g5] at he
        refine ws_ext (we_var rfl ⟨st'0.length, made.map eArc, rfl, by rw [← hst1, List.append_assoc]; exact get_end, we_call ?_⟩)
        refine wa_cons (we_pur (we_var rfl ⟨_, _, pur_end, ?_⟩))
        walk_at "s"
        refine ⟨by rfl, group, a, b, c, rfl, by omega, joined_len c group, .inr fun jk' n hn hle => ?_⟩
        have hpl' := pulled_len group a b c
        have est : st1 ++ [Cell.fr (group.map pairT)] ++ jk' = st'0 ++ (.mu (made.map eArc) :: (jk ++ [Cell.fr (group.map pairT)] ++ jk')) := by
          rw [← hst1]
          simp
        refine ⟨n, made.map eArc, (pulled group a b c).map eArc, rfl, by rw [est]; exact get_end, hn, by rw [List.length_map, List.length_map]; exact big_le (by omega), ?_⟩
        rw [est, set_a]
        exact ⟨made ++ pulled group a b c, at', _, _, jk ++ [Cell.fr (group.map pairT)] ++ jk', rfl, by rw [List.map_append], g2, by rw [List.length_append]; omega, by rw [← he]⟩
    · rintro ss' st' ⟨made, at_, y12, y13, jk, rfl, rfl, ha, hml, he⟩
      rw [List.length_map, List.drop_length] at he
      have he : made = G := by
        have e0 : groupGo a b c [] (rows.drop at_) = [] := rfl
        rw [e0, List.append_nil] at he
        exact he
      subst he
      refine ws_ret (we_call (wa_cons (we_pur (we_var rfl ⟨_, _, pur_end, wa_cons (we_lst (wa_nil ⟨_, _, purs_nil, big_le (by simp), wa_nil ⟨by rfl, made, [], rfl, by simp; omega, ?_⟩⟩))⟩))))
      exact fin_pd (by simp) q
/-! ### wide_sets -/
abbrev N_wide_sets : List Str := ["plan", "mosts", "a", "b", "c", "made", "t", "found"]
theorem sc_wide_sets : FnScope N_wide_sets ["plan"] (defScope s_wide_sets) := ⟨rfl, rfl, rfl, by decide +kernel, rfl, by decide +kernel, by decide +kernel⟩
theorem ok_wide_sets (c_Plan_many : CalM P w K mg base 1 C_Plan "many" ["self"] (spP K T 1 (pre_Plan_many K C_Plan C_Ruler))) (c_arcs_meet : Cal P w K mg base 2 "arcs_meet" ["r", "s"] (spP K T 2 pre_arcs_meet)) (c_pulled_set : Cal P w K mg base 7 "pulled_set" ["plan", "t", "arcs", "most"] (spP K T 4 (pre_pulled_set K C_Plan C_Ruler))) (c_Plan_sections : CalM P w K mg base 1 C_Plan "sections" ["self"] (spP K T 1 (pre_Plan_sections K C_Plan C_Ruler))) (c_plan_top : Cal P w K mg base 2 "plan_top" ["plan"] (spP K T 1 (pre_plan_top K C_Plan C_Ruler))) (Z : Zs mg) (h_Plan : Cls K C_Plan) (na_Plan : ∀ f ∈ fl_Plan, NoAttr K C_Plan f) (dd : Df K mg "wide_sets" s_wide_sets) : Cal P w K mg base 8 "wide_sets" ["plan"] (spP K T 1 (pre_wide_sets K C_Plan C_Ruler)) := by
  refine dd.cal (fun f fd F => F.ok sc_wide_sets (fun vs H Q E h => spP_len h) fun cdv A outer s H vs Q E hr h => ?_) (fun _ _ _ _ _ _ us hl => match us, hl with | [_], _ => rfl)
  have nd := sc_wide_sets.nd
  have hu := room_u hr
  refine ⟨_, (pss_cons (ps_asg (pe_lst (pa_cons (pe_callC c_plan_top (hr.mono (by decide)) (by rfl) (pa_cons (pv 0) pa_nil)) pa_nil)) (pg_name (i := 1) nd rfl (.inl rfl))) (pss_cons (ps_for PassesOwn.never rfl (pi_list (pe_methC0 c_Plan_sections h_Plan (hr.mono (by decide)) (pv 0))) (pg_tup (n := 3) rfl (pgs_cons (pg_name (i := 2) nd rfl (.inl rfl)) (pgs_cons (pg_name (i := 3) nd rfl (.inl rfl)) (pgs_cons (pg_name (i := 4) nd rfl (.inl rfl)) pgs_nil)))) (pss_one (ps_expr (pe_bm PySem.F.plainAttrs_list PySem.F.slot_list_append PySem.F.type_list_append mt_append (pv 1) (pa_cons (pe_op (op_addK (K := K) rfl) (pe_op (op_addK (K := K) rfl) (pe_ix (ix_seqK (K := K) rfl) (pv 1) (pe_un un_neg pe_int) (fun _ _ => rfl)) (pv 3)) (pv 4)) pa_nil))))) (pss_cons (ps_asg (pe_lst (pa_cons (pe_lst (pa_cons (pe_tup (pa_cons pe_int (pa_cons (pe_ix (ix_seqK (K := K) rfl) (pv 1) (pe_un un_neg pe_int) (fun _ _ => rfl)) pa_nil))) pa_nil)) pa_nil)) (pg_name (i := 5) nd rfl (.inl rfl))) (pss_cons (ps_for PassesOwn.never rfl (pi_range3 rfl Z.range_ (pa_cons (pe_methC0 c_Plan_many h_Plan (hr.mono (by decide)) (pv 0)) (pa_cons pe_int (pa_cons (pe_un un_neg pe_int) pa_nil)))) (pg_name (i := 6) nd rfl (.inl rfl)) (pss_cons (ps_asg (pe_callC c_pulled_set (hr.mono (by decide)) (by rfl) (pa_cons (pv 0) (pa_cons (pv 6) (pa_cons (pe_ix (ix_seqK (K := K) rfl) (pv 5) (pe_un un_neg pe_int) (fun _ _ => rfl)) (pa_cons (pe_ix (ix_seqK (K := K) rfl) (pv 1) (pv 6) (fun _ _ => rfl)) pa_nil))))) (pg_name (i := 7) nd rfl (.inl rfl))) (pss_one (ps_expr (pe_bm PySem.F.plainAttrs_list PySem.F.slot_list_append PySem.F.type_list_append mt_append (pv 5) (pa_cons (pe_callC c_arcs_meet (hr.mono (by decide)) (by rfl) (pa_cons (pv 7) (pa_cons (pe_lst (pa_cons (pe_tup (pa_cons pe_int (pa_cons (pe_ix (ix_seqK (K := K) rfl) (pv 1) (pe_op op_sub (pv 6) pe_int) (fun _ _ => rfl)) pa_nil))) pa_nil)) pa_nil))) pa_nil)))))) (pss_one (ps_ret (pe_revL (pv 5)))))))), fn_run h ?_⟩
  intro xs st Φ hl hp
  clear hl h hu hr nd
  try dsimp only [L2.cxOf, NdefX.ncx]
  obtain ⟨p, rfl, sn, s0, ok, sec, hcl, q⟩ := hp
  have hc0 : (ceilsQ p).getD 0 0 = topQ p := by
    unfold ceilsQ
    rw [ceil_at _ _ _ (Nat.zero_le _)]
    simp
  have htop := top_nn s0 sec
  refine ws_seq (ws_asg (we_lstC (wa_cons (we_call (wa_cons (we_var rfl (wa_nil ⟨by rfl, p, rfl, ?_⟩)))))))
  refine wa_nil ⟨_, _, purs_cons purs_nil, big_le (by simp), wg_name ?_⟩
  refine ws_seq (ws_forL (we_meth (we_var rfl ⟨_, .ob, rfl, ?_⟩)))
  walk_at "s"
  refine ⟨by rfl, p, rfl, ?_⟩
  refine ⟨_, rfl, fun i ss' st' => st' = st ++ [.mu (((ceilsQ p).take (i + 1)).map PyData.int)] ∧ ∃ (y2 y3 y4 y5 y6 y7 : Option Val), ss' = [some (planQ K C_Plan C_Ruler p), some (.cell st.length), y2, y3, y4, y5, y6, y7], ⟨by rw [ceil_take (Nat.zero_le _), hc0]; rfl, _, _, _, _, _, _, rfl⟩, ?_, ?_⟩
  · rintro i d ss' st' hd ⟨rfl, y2, y3, y4, y5, y6, y7, rfl⟩
    obtain ⟨t, ht, rfl⟩ := sec_at hd
    obtain ⟨hi, e⟩ := List.getElem?_eq_some_iff.mp ht
    obtain ⟨a, b, c⟩ := t
    have hst := ceil_step ht
    have hlt : ((ceilsQ p).take i).length ≤ 60 := by rw [List.length_take]; omega
    have hn2 : (ceilsQ p).take (i + 1 + 1) = (ceilsQ p).take i ++ [(ceilsQ p).getD i 0] ++ [(ceilsQ p).getD i 0 + b + c] := by
      rw [ceil_take (show i + 1 ≤ p.ss.length by omega), hst, ceil_take (show i ≤ p.ss.length by omega)]
    rw [ceil_take (show i ≤ p.ss.length by omega)]
    dsimp only
    rw [hn2]
    generalize (ceilsQ p).take i = cs at hlt ⊢
    generalize (ceilsQ p).getD i 0 = z
    rw [show (cs ++ [z]).map PyData.int = cs.map PyData.int ++ [.int z] by rw [List.map_append]; rfl]
    walk_at "s"
    refine wr_ixuL look_end (atI_last _ _) ?_
    walk_at "s"
    exact ⟨by rw [List.map_append, List.map_append]; rfl, _, _, _, _, _, _, rfl⟩
  · rintro ss' st' ⟨rfl, y2, y3, y4, y5, y6, y7, rfl⟩
    rw [List.length_map]
    have hct : (ceilsQ p).take (p.ss.length + 1) = ceilsQ p := List.take_of_length_le (by unfold ceilsQ; rw [ceil_len]; exact Nat.le_refl _)
    have hlast : (ceilsQ p).map PyData.int = ((ceilsQ p).take p.ss.length).map PyData.int ++ [.int ((ceilsQ p).getD p.ss.length 0)] := by
      conv => lhs; rw [← hct]
      rw [ceil_take (Nat.le_refl _), List.map_append]
      rfl
    have hcat : ∀ t : Nat, t ≤ p.ss.length → atI ((ceilsQ p).map PyData.int) (t : Int) = some (.int ((ceilsQ p).getD t 0)) := by
      intro t ht
      refine atI_nat ?_
      have hl : t < (ceilsQ p).length := by
        unfold ceilsQ
        rw [ceil_len]
        omega
      rw [List.getElem?_map, List.getD_eq_getElem?_getD, List.getElem?_eq_getElem hl]
      rfl
    rw [hct]
    refine ws_seq (ws_asg (we_lstC ?_))
    walk_at "s"
    rw [hlast]
    refine wr_ixuL look_end (atI_last _ _) ?_
    rw [← hlast]
    walk_at "s"
    have hS0 := last_spec s0 sec
    refine ws_seq (ws_forR3d ?_)
    refine wa_cons (we_meth (we_var rfl ⟨_, .ob, rfl, ?_⟩))
    walk_at "s"
    refine ⟨by rfl, p, rfl, ?_⟩
    walk_at "s"
    refine ⟨_, _, rfl, ⟨by omega, by omega, by omega, by omega⟩, fun i ss' st' => ∃ (done : List (List Seg)) (S : List Seg) (y2 y3 y4 y6 y7 : Option Val), ss' = [some (planQ K C_Plan C_Ruler p), some (.cell st.length), y2, y3, y4, some (.cell (st.length + 1)), y6, y7] ∧
      st' = st ++ [.mu ((ceilsQ p).map PyData.int), .mu ((done ++ [S]).map fun S => eSegs S)] ∧ i ≤ p.ss.length ∧ done.length = i ∧ SetAt p (p.ss.length - i) S ∧ done ++ [S] ++ wideGo p (p.ss.length - i) S = [(0, (ceilsQ p).getD p.ss.length 0)] :: wideGo p p.ss.length [(0, (ceilsQ p).getD p.ss.length 0)],
      ⟨[], _, y2, y3, y4, y6, y7, by rw [List.length_append]; rfl, by rw [List.append_assoc]; rfl, Nat.zero_le _, rfl, hS0, rfl⟩, ?_, ?_⟩
    · rintro i ss' st' hi0 ⟨done, S, y2, y3, y4, y6, y7, rfl, rfl, hil, hdl, hS, he⟩
      obtain ⟨u, hu⟩ : ∃ u, p.ss.length - i = u + 1 := ⟨p.ss.length - i - 1, by omega⟩
      rw [hu] at hS he
      obtain ⟨hB, C, e1, e2, hCl⟩ := back_spec ok s0 sec (show u < p.ss.length by omega) hS
      rw [wideGo_next] at he
      have hcu := ceil_mono sec (p.ss.length - (u + 1)) (u + 1) (by omega)
      rw [show u + 1 + (p.ss.length - (u + 1)) = p.ss.length by omega] at hcu
      have hcn := ceil_ge s0 sec (show u + 1 ≤ p.ss.length by omega)
      have hbd := set_bound hS
      have et : (p.ss.length : Int) + (i : Int) * (-1) = ((u + 1 : Nat) : Int) := by omega
      rw [et]
      have edn : (done ++ [S]).map (fun S => eSegs S) = done.map (fun S => eSegs S) ++ [eSegs S] := by rw [List.map_append]; rfl
      have hdn : done.length ≤ 60 := by omega
      refine wg_name ?_
      refine ws_seq (ws_asg (we_call ?_))
      walk_at "s"
      refine wr_ixuL get_b2 (by rw [edn]; exact atI_last _ _) ?_
      walk_at "s"
      refine wr_ixuL look_end (hcat (u + 1) (by omega)) ?_
      walk_at "s"
      refine ⟨by rfl, p, u, S, _, rfl, by omega, sn, ok, sec, hS.can, hbd, ⟨by omega, by omega⟩, ?_⟩
      rw [e1]
      refine wg_name ?_
      refine ws_app (we_var rfl ⟨st.length + 1, _, rfl, get_b, we_call ?_⟩)
      walk_at "s"
      refine wr_ixuL look_end (d := .int ((ceilsQ p).getD u 0)) (by rw [show ((u + 1 : Nat) : Int) - 1 = (u : Int) by omega]; exact hcat u (by omega)) ?_
      walk_at "s"
      refine ⟨by rfl, C.map up, [(0, some ((ceilsQ p).getD u 0))], rfl, by rw [List.length_map]; simp; omega, ?_⟩
      rw [e2, eArcs_up]
      refine ⟨_, _, _, rfl, get_b, by rw [List.length_map]; exact big_lt (by simp; omega), ?_⟩
      rw [set_b]
      exact ⟨done ++ [S], backSet p u S, _, _, _, _, _, rfl, by rw [eArcs_up, List.map_append (l₂ := [backSet p u S])]; rfl, by omega, by simp; omega, by rw [show p.ss.length - (i + 1) = u by omega]; exact hB, by rw [show p.ss.length - (i + 1) = u by omega, ← he]; simp⟩
    · rintro ss' st' ⟨done, S, y2, y3, y4, y6, y7, rfl, rfl, hil, hdl, hS, he⟩
      have e0 : wideGo p (p.ss.length - ((p.ss.length : Int) - 0).toNat) S = [] := by
        rw [show p.ss.length - ((p.ss.length : Int) - 0).toNat = 0 by omega]
        rfl
      rw [e0, List.append_nil] at he
      refine ws_ret (we_rev (we_var rfl ⟨_, look_b, ?_⟩))
      rw [he, ← List.map_reverse]
      exact fin_pd (by simp) q
/-! ### plan_sets -/
abbrev N_plan_sets : List Str := ["plan", "top", "arcs"]
theorem sc_plan_sets : FnScope N_plan_sets ["plan"] (defScope s_plan_sets) := ⟨rfl, rfl, rfl, by decide +kernel, rfl, by decide +kernel, by decide +kernel⟩
theorem ok_plan_sets (c_wide_sets : Cal P w K mg base 8 "wide_sets" ["plan"] (spP K T 1 (pre_wide_sets K C_Plan C_Ruler))) (c_arcs_meet : Cal P w K mg base 2 "arcs_meet" ["r", "s"] (spP K T 2 pre_arcs_meet)) (c_plan_top : Cal P w K mg base 2 "plan_top" ["plan"] (spP K T 1 (pre_plan_top K C_Plan C_Ruler))) (c_check_single : Cal P w K mg base 2 "check_single" ["plan"] (spP K T 1 (pre_check_single K C_Plan C_Ruler))) (c_check_spread : Cal P w K mg base 3 "check_spread" ["plan"] (spP K T 1 (pre_check_spread K C_Plan C_Ruler))) (dd : Df K mg "plan_sets" s_plan_sets) : Cal P w K mg base 9 "plan_sets" ["plan"] (spP K T 1 (pre_plan_sets K C_Plan C_Ruler)) := by
  refine dd.cal (fun f fd F => F.ok sc_plan_sets (fun vs H Q E h => spP_len h) fun cdv A outer s H vs Q E hr h => ?_) (fun _ _ _ _ _ _ us hl => match us, hl with | [_], _ => rfl)
  have nd := sc_plan_sets.nd
  have hu := room_u hr
  refine ⟨_, (pss_cons (ps_expr (pe_callC c_check_spread (hr.mono (by decide)) (by rfl) (pa_cons (pv 0) pa_nil))) (pss_cons (ps_expr (pe_callC c_check_single (hr.mono (by decide)) (by rfl) (pa_cons (pv 0) pa_nil))) (pss_cons (ps_asg (pe_callC c_plan_top (hr.mono (by decide)) (by rfl) (pa_cons (pv 0) pa_nil)) (pg_name (i := 1) nd rfl (.inr rfl))) (pss_one (ps_ret (pe_lc (own := [("arcs", 2)]) (g := gName 2) (tt := tYes) rfl nd (pi_list (pe_callC c_wide_sets (hr.mono (by decide)) (by rfl) (pa_cons (pv 0) pa_nil))) (blkOk_by (N := N_plan_sets) (sc := defScope s_plan_sets) (by decide +kernel)) (fun _ _ _ _ _ => (pg_name (i := 2) nd rfl (.inl rfl))) (fun _ _ _ _ _ => pts_nil) (fun _ _ _ _ _ => (pe_callC c_arcs_meet (hr.mono (by decide)) (by rfl) (pa_cons (pv 2) (pa_cons (pe_lst (pa_cons (pe_tup (pa_cons pe_int (pa_cons (pv 1) pa_nil))) pa_nil)) pa_nil)))))))))), fn_run h ?_⟩
  intro xs st Φ hl hp
  clear hl h hu hr nd
  try dsimp only [L2.cxOf, NdefX.ncx]
  obtain ⟨p, rfl, sn, s0, hr, ok, sec, hsp, hcl, q⟩ := hp
  have htop := top_nn s0 sec
  have hlen := (wide_spec ok s0 sec).1
  walk_at "s"
  refine ⟨by rfl, p, rfl, ok, htop, hsp, ?_⟩
  walk_at "s"
  refine ⟨by rfl, p, rfl, hr, ?_⟩
  walk_at "s"
  refine ⟨by rfl, p, rfl, ?_⟩
  refine wg_name ?_
  refine ws_ret (we_lcL (gw_name (by simp)) (we_call ?_))
  walk_at "s"
  refine ⟨by rfl, p, rfl, sn, s0, ok, sec, hcl, ?_⟩
  refine ⟨_, rfl, by rw [List.length_map, hlen]; exact big_lt (by omega), fun d => some (eSegs (capS (topQ p) (unS d))), ?_, ?_⟩
  · intro i d acc hd
    obtain ⟨S, hS, rfl⟩ : ∃ S, (wideQ p)[i]? = some S ∧ d = eSegs S := by
      rw [List.getElem?_map] at hd
      cases e : (wideQ p)[i]? with
      | none => rw [e] at hd; cases hd
      | some x => rw [e] at hd; exact ⟨x, rfl, (Option.some.inj hd).symm⟩
    obtain ⟨hi, hSA, hSl⟩ := wide_len ok s0 sec hcl hS
    have hcp := (cap_spec s0 sec hi hSA).1
    walk_at "s"
    refine ⟨fun _ => ?_, fun h => (by cases h)⟩
    walk_at "s"
    refine ⟨by rfl, S.map up, [(0, some (topQ p))], by rw [eArcs_up]; rfl, by rw [List.length_map]; simp; omega, ?_⟩
    rw [hcp, eArcs_up]
    exact ⟨_, _, rfl, take_snoc, by dsimp only; rw [unS_e]⟩
  · have e : ((wideQ p).map fun S => eSegs S).filterMap (fun d => some (eSegs (capS (topQ p) (unS d)))) = (setsQ p).map fun S => eSegs S := by
      rw [setsQ_eq]
      generalize wideQ p = l
      induction l with
      | nil => rfl
      | cons S l ih => rw [List.map_cons, List.filterMap_cons, ih, unS_e]; rfl
    rw [e]
    exact fin_pd (by simp) q
/-! ### kept_with -/
abbrev N_kept_with : List Str := ["plan", "many", "shorter"]
theorem sc_kept_with : FnScope N_kept_with ["plan", "many"] (defScope s_kept_with) := ⟨rfl, rfl, rfl, by decide +kernel, rfl, by decide +kernel, by decide +kernel⟩
theorem ok_kept_with (c_arcs_hold : Cal P w K mg base 1 "arcs_hold" ["r", "line"] (spP K T 2 pre_arcs_hold)) (c_Plan_start : CalM P w K mg base 1 C_Plan "start" ["self"] (spP K T 1 (pre_Plan_start K C_Plan C_Ruler))) (c_wide_sets : Cal P w K mg base 8 "wide_sets" ["plan"] (spP K T 1 (pre_wide_sets K C_Plan C_Ruler))) (c_Plan___init__ : CalI P w K mg base 5 "Plan" C_Plan ["self", "start", "ruler", "r", "sections", "tells"] (spP K T 6 (pre_Plan___init__ K C_Plan C_Ruler))) (c_Plan_tells : CalM P w K mg base 1 C_Plan "tells" ["self"] (spP K T 1 (pre_Plan_tells K C_Plan C_Ruler))) (c_Plan_sections : CalM P w K mg base 1 C_Plan "sections" ["self"] (spP K T 1 (pre_Plan_sections K C_Plan C_Ruler))) (c_Plan_ruler : CalM P w K mg base 1 C_Plan "ruler" ["self"] (spP K T 1 (pre_Plan_ruler K C_Plan C_Ruler))) (h_Plan : Cls K C_Plan) (na_Plan : ∀ f ∈ fl_Plan, NoAttr K C_Plan f) (dd : Df K mg "kept_with" s_kept_with) : Cal P w K mg base 9 "kept_with" ["plan", "many"] (spP K T 2 (pre_kept_with K C_Plan C_Ruler)) := by
  refine dd.cal (fun f fd F => F.ok sc_kept_with (fun vs H Q E h => spP_len h) fun cdv A outer s H vs Q E hr h => ?_) (fun _ _ _ _ _ _ us hl => match us, hl with | [_, _], _ => rfl)
  have nd := sc_kept_with.nd
  have hu := room_u hr
  refine ⟨_, (pss_cons (ps_asg (pe_makeC c_Plan___init__ (hr.mono (by decide)) (by rfl) (pa_cons (pe_methC0 c_Plan_start h_Plan (hr.mono (by decide)) (pv 0)) (pa_cons (pe_methC0 c_Plan_ruler h_Plan (hr.mono (by decide)) (pv 0)) (pa_cons pe_int (pa_cons (pe_methC0 c_Plan_sections h_Plan (hr.mono (by decide)) (pv 0)) (pa_cons (pe_slice (sl_listK (K := K) rfl) (pe_methC0 c_Plan_tells h_Plan (hr.mono (by decide)) (pv 0)) po_none (po_some (pv 1))) pa_nil)))))) (pg_name (i := 2) nd rfl (.inl rfl))) (pss_one (ps_ret (pe_callC c_arcs_hold (hr.mono (by decide)) (by rfl) (pa_cons (pe_ix (ix_seqK (K := K) rfl) (pe_callC c_wide_sets (hr.mono (by decide)) (by rfl) (pa_cons (pv 2) pa_nil)) pe_int (fun _ _ => rfl)) (pa_cons (pe_methC0 c_Plan_start h_Plan (hr.mono (by decide)) (pv 0)) pa_nil)))))), fn_run h ?_⟩
  intro xs st Φ hl hp
  clear hl h hu hr nd
  try dsimp only [L2.cxOf, NdefX.ncx]
  obtain ⟨p, m, rfl, ok, hcl, hm, q⟩ := hp
  refine ws_seq (ws_asg (we_frz (we_make ?_)))
  refine wa_cons (we_meth (we_var rfl ⟨_, .ob, rfl, wa_nil ⟨by rfl, p, rfl, ?_⟩⟩))
  refine wa_cons (we_meth (we_var rfl ⟨_, .ob, rfl, wa_nil ⟨by rfl, p, rfl, ?_⟩⟩))
  refine wa_cons (we_c rfl ?_)
  refine wa_cons (we_meth (we_var rfl ⟨_, .ob, rfl, wa_nil ⟨by rfl, p, rfl, ?_⟩⟩))
  refine wa_cons (we_slL (we_meth (we_var rfl ⟨_, .ob, rfl, wa_nil ⟨by rfl, p, rfl, ?_⟩⟩)))
  walk_at "s"
  rw [cut_to _ m (by rw [List.length_map]; exact hm), ← List.map_take]
  refine ⟨by rfl, _, cutT p m, rfl, get_end, cutT_ok ok m, ?_⟩
  refine ⟨rfl, _, _, _, planQF K C_Ruler (cutT p m), _, rfl, get_setSelf get_end, frz_plan _ _, get_setSelf get_end, ?_⟩
  refine wg_name ?_
  obtain ⟨hw1, hw2⟩ := wide_spec (p := cutT p m) ok.ru ok.s0 ok.sec
  obtain ⟨S0, hS0, hSA⟩ := hw2 0 (Nat.zero_le _)
  refine ws_ret (we_call (wa_cons (we_op (we_call ?_))))
  walk_at "s"
  refine ⟨by rfl, cutT p m, rfl, ok.sn, ok.s0, ok.ru, ok.sec, hcl, ?_⟩
  walk_at "s"
  refine wr_ixuL rfl (d := eSegs S0) (atI_nat (j := 0) (by rw [List.getElem?_map, hS0]; rfl)) ?_
  walk_at "s"
  refine we_meth (we_var rfl ⟨_, .ob, rfl, ?_⟩)
  walk_at "s"
  refine ⟨by rfl, p, rfl, ?_⟩
  walk_at "s"
  refine ⟨by rfl, S0, p.s, rfl, fun b hb => ?_⟩
  refine fin_pd (by simp) (q b (hb.trans ?_))
  rw [hSA.mem]
  have h1 := start_le ok.sec
  have h2 := ceil_ge (p := cutT p m) ok.s0 ok.sec (Nat.zero_le _)
  have h3 : topQ (cutT p m) = topQ p := rfl
  exact ⟨fun h => h.1, fun h => ⟨h, by omega⟩⟩
/-! ### plan_verdict -/
abbrev N_plan_verdict : List Str := ["plan", "low", "high", "middle"]
theorem sc_plan_verdict : FnScope N_plan_verdict ["plan"] (defScope s_plan_verdict) := ⟨rfl, rfl, rfl, by decide +kernel, rfl, by decide +kernel, by decide +kernel⟩
theorem ok_plan_verdict (c_kept_with : Cal P w K mg base 9 "kept_with" ["plan", "many"] (spP K T 2 (pre_kept_with K C_Plan C_Ruler))) (c_Plan_tells : CalM P w K mg base 1 C_Plan "tells" ["self"] (spP K T 1 (pre_Plan_tells K C_Plan C_Ruler))) (c_check_single : Cal P w K mg base 2 "check_single" ["plan"] (spP K T 1 (pre_check_single K C_Plan C_Ruler))) (c_check_spread : Cal P w K mg base 3 "check_spread" ["plan"] (spP K T 1 (pre_check_spread K C_Plan C_Ruler))) (Z : Zs mg) (h_Plan : Cls K C_Plan) (na_Plan : ∀ f ∈ fl_Plan, NoAttr K C_Plan f) (dd : Df K mg "plan_verdict" s_plan_verdict) : Cal P w K mg base 10 "plan_verdict" ["plan"] (spP K T 1 (pre_plan_verdict K C_Plan C_Ruler)) := by
  refine dd.cal (fun f fd F => F.ok sc_plan_verdict (fun vs H Q E h => spP_len h) fun cdv A outer s H vs Q E hr h => ?_) (fun _ _ _ _ _ _ us hl => match us, hl with | [_], _ => rfl)
  have nd := sc_plan_verdict.nd
  have hu := room_u hr
  refine ⟨_, (pss_cons (ps_expr (pe_callC c_check_spread (hr.mono (by decide)) (by rfl) (pa_cons (pv 0) pa_nil))) (pss_cons (ps_expr (pe_callC c_check_single (hr.mono (by decide)) (by rfl) (pa_cons (pv 0) pa_nil))) (pss_cons (ps_asg pe_int (pg_name (i := 1) nd rfl (.inl rfl))) (pss_cons (ps_asg (pe_callB (call_lenK (K := K) rfl) (by rfl) Z.len PySem.boot_len (pa_cons (pe_methC0 c_Plan_tells h_Plan (hr.mono (by decide)) (pv 0)) pa_nil)) (pg_name (i := 2) nd rfl (.inl rfl))) (pss_cons (ps_if (pt_val (pe_callC c_kept_with (hr.mono (by decide)) (by rfl) (pa_cons (pv 0) (pa_cons (pv 2) pa_nil)))) (pss_one (ps_ret (pe_tup (pa_cons pe_str pa_nil)))) pss_nil) (pss_cons (ps_while PassesOwn.never (pt_cmpR op_gt (pe_op op_sub (pv 2) (pv 1)) pe_int (nomark _)) (pss_cons (ps_asg (pe_op op_fdiv (pe_op (op_addK (K := K) rfl) (pv 1) (pv 2)) pe_int) (pg_name (i := 3) nd rfl (.inl rfl))) (pss_one (ps_if (pt_val (pe_callC c_kept_with (hr.mono (by decide)) (by rfl) (pa_cons (pv 0) (pa_cons (pv 3) pa_nil)))) (pss_one (ps_asg (pv 3) (pg_name (i := 1) nd rfl (.inl rfl)))) (pss_one (ps_asg (pv 3) (pg_name (i := 2) nd rfl (.inl rfl)))))))) (pss_one (ps_ret (pe_tup (pa_cons pe_str (pa_cons (pv 2) pa_nil))))))))))), fn_run h ?_⟩
  intro xs st Φ hl hp
  clear hl h hu hr nd
  try dsimp only [L2.cxOf, NdefX.ncx]
  obtain ⟨p, rfl, ok, hr, hsp, hcl, q1, q2⟩ := hp
  have htop := top_nn ok.s0 ok.sec
  walk_at "s"
  refine ⟨by rfl, p, rfl, ok.ru, htop, hsp, ?_⟩
  walk_at "s"
  refine ⟨by rfl, p, rfl, hr, ?_⟩
  walk_at "s"
  refine we_meth (we_var rfl ⟨_, .ob, rfl, ?_⟩)
  walk_at "s"
  refine ⟨by rfl, p, rfl, ?_⟩
  walk_at "s"
  rw [List.length_map]
  have hD : Dq (cutT p p.ts.length) 0 p.s ↔ Dq p 0 p.s := by
    have e : cutT p p.ts.length = { p with r := 1 } := by
      unfold cutT
      rw [List.take_length]
    have hr1 : p.r = 1 := by
      have := ok.r1
      omega
    rw [e, ← hr1]
  walk_at "f"
  refine ⟨by rfl, p, p.ts.length, rfl, ok, hcl, Nat.le_refl _, fun b hb => ?_⟩
  refine ⟨_, rfl, fun h => ?_, fun h => ?_⟩
  · walk_at "s"
    exact fin_pd (by simp) (q1 (hD.mp (hb.mp h)))
  · have hn : ¬ Dq p 0 p.s := fun z => by
      rw [hb.mpr (hD.mpr z)] at h
      cases h
    refine ws_next ?_
    refine ws_seq (ws_while (fun k ss' st' => st' = st ∧ ∃ (lo hi : Nat) (y : Option Val), ss' = [some (planQ K C_Plan C_Ruler p), vI lo, vI hi, y] ∧ lo ≤ hi ∧ hi ≤ p.ts.length ∧ k = hi - lo) ⟨_, rfl, 0, p.ts.length, none, rfl, Nat.zero_le _, Nat.le_refl _, rfl⟩ ?_)
    rintro k ss' st' ⟨rfl, lo, hi, y, rfl, h1, h2, rfl⟩
    walk_at "s"
    refine ⟨fun hb => ?_, fun _ => ?_⟩
    · have hb := of_decide_eq_true hb
      walk_at "s"
      rw [show ((lo : Int) + (hi : Int)) / 2 = (((lo + hi) / 2 : Nat) : Int) by omega]
      refine ⟨by rfl, p, (lo + hi) / 2, rfl, ok, hcl, by omega, fun b _ => ?_⟩
      refine ⟨_, rfl, fun _ => ?_, fun _ => ?_⟩
      · walk_at "s"
        exact ⟨hi - (lo + hi) / 2, by omega, rfl, (lo + hi) / 2, hi, _, rfl, by omega, h2, rfl⟩
      · walk_at "s"
        exact ⟨(lo + hi) / 2 - lo, by omega, rfl, lo, (lo + hi) / 2, _, rfl, by omega, by omega, rfl⟩
    · walk_at "s"
      exact fin_pd (by simp) (q2 hn _)
/-! ### _law_cell -/
abbrev N__law_cell : List Str := ["heights", "line", "cell", "edge", "height"]
theorem sc__law_cell : FnScope N__law_cell ["heights", "line"] (defScope s__law_cell) := ⟨rfl, rfl, rfl, by decide +kernel, rfl, by decide +kernel, by decide +kernel⟩
theorem ok__law_cell (dd : Df K mg "_law_cell" s__law_cell) : Cal P w K mg base 1 "_law_cell" ["heights", "line"] (spP K T 2 pre__law_cell) := by
  refine dd.cal (fun f fd F => F.ok sc__law_cell (fun vs H Q E h => spP_len h) fun cdv A outer s H vs Q E hr h => ?_) (fun _ _ _ _ _ _ us hl => match us, hl with | [_, _], _ => rfl)
  have nd := sc__law_cell.nd
  have hu := room_u hr
  refine ⟨_, (pss_cons (ps_asg pe_int (pg_name (i := 2) nd rfl (.inl rfl))) (pss_cons (ps_asg pe_int (pg_name (i := 3) nd rfl (.inl rfl))) (pss_cons (ps_for PassesOwn.never rfl (pi_list (pv 0)) (pg_name (i := 4) nd rfl (.inl rfl)) (pss_cons (ps_aug (i := 3) nd rfl (.inl rfl) (pv 4) ip_add) (pss_one (ps_if (pt_cmpR op_le (pv 3) (pv 1) (nomark _)) (pss_one (ps_aug (i := 2) nd rfl (.inl rfl) pe_int ip_add)) pss_nil)))) (pss_one (ps_ret (pv 2)))))), fn_run h ?_⟩
  intro xs st Φ hl hp
  clear hl h hu hr nd
  try dsimp only [L2.cxOf, NdefX.ncx]
  obtain ⟨hs, l, rfl, q⟩ := hp
  walk_at "s"
  refine ws_seq (ws_forL (we_var rfl ?_))
  refine ⟨_, rfl, fun i ss' st' => st' = st ∧ ∃ y4 : Option Val, ss' = [vL (hs.map PyData.int), vI l, vI (((((edges hs).take i).filter fun e => decide (e ≤ l)).length : Int) + 1), vI (hs.take i).sum, y4], ⟨rfl, _, rfl⟩, ?_, ?_⟩
  · rintro i d ss' st' hd ⟨rfl, y4, rfl⟩
    obtain ⟨x, hx, rfl⟩ : ∃ x, hs[i]? = some x ∧ d = .int x := by
      rw [List.getElem?_map] at hd
      cases e : hs[i]? with
      | none => rw [e] at hd; cases hd
      | some x => rw [e] at hd; exact ⟨x, rfl, (Option.some.inj hd).symm⟩
    obtain ⟨hi, ex⟩ := List.getElem?_eq_some_iff.mp hx
    have ts : (hs.take (i + 1)).sum = (hs.take i).sum + x := by
      rw [List.take_succ_eq_append_getElem hi, ex, List.sum_append]
      simp
    have t2 : (edges hs).take (i + 1) = (edges hs).take i ++ [(hs.take i).sum + x] := by
      have := edges_take 0 hs i hi
      rw [Int.zero_add, ts] at this
      exact this
    dsimp only
    rw [t2, ts, List.filter_append, List.length_append]
    walk_at "s"
    refine ⟨fun h => ?_, fun h => ?_⟩
    · walk_at "s"
      have e1 : ([(hs.take i).sum + x].filter fun e => decide (e ≤ l)).length = 1 := by
        rw [List.filter_cons, if_pos h]
        rfl
      rw [e1]
      exact ⟨rfl, some (.pd (.int x)), by rw [show (((((edges hs).take i).filter fun e => decide (e ≤ l)).length + 1 : Nat) : Int) + 1 = ((((edges hs).take i).filter fun e => decide (e ≤ l)).length : Int) + 1 + 1 by omega]; rfl⟩
    · walk_at "s"
      have e1 : ([(hs.take i).sum + x].filter fun e => decide (e ≤ l)).length = 0 := by
        rw [List.filter_cons, if_neg (by rw [show decide ((hs.take i).sum + x ≤ l) = false from h]; exact Bool.false_ne_true)]
        rfl
      rw [e1]
      exact ⟨rfl, _, rfl⟩
  · rintro ss' st' ⟨rfl, y4, rfl⟩
    rw [List.length_map, show (edges hs).take hs.length = edges hs from List.take_of_length_le (by rw [edges_len]; exact Nat.le_refl _)]
    walk_at "s"
    exact fin_pd (by simp) q
/-! ### _law_plan_cell -/
abbrev N__law_plan_cell : List Str := ["ruler", "line"]
theorem sc__law_plan_cell : FnScope N__law_plan_cell ["ruler", "line"] (defScope s__law_plan_cell) := ⟨rfl, rfl, rfl, by decide +kernel, rfl, by decide +kernel, by decide +kernel⟩
theorem ok__law_plan_cell (c__law_cell : Cal P w K mg base 1 "_law_cell" ["heights", "line"] (spP K T 2 pre__law_cell)) (Z : Zs mg) (dd : Df K mg "_law_plan_cell" s__law_plan_cell) : Cal P w K mg base 2 "_law_plan_cell" ["ruler", "line"] (spP K T 2 pre__law_plan_cell) := by
  refine dd.cal (fun f fd F => F.ok sc__law_plan_cell (fun vs H Q E h => spP_len h) fun cdv A outer s H vs Q E hr h => ?_) (fun _ _ _ _ _ _ us hl => match us, hl with | [_, _], _ => rfl)
  have nd := sc__law_plan_cell.nd
  have hu := room_u hr
  refine ⟨_, (pss_one (ps_ret (pe_ifExp (pt_val (pe_callB (call_isiK (K := K) rfl) (by rfl) Z.isinstance boot_isinstance (pa_cons (pv 0) (pa_cons (pe_tyN (by rfl) Z.tuple_ boot_tuple) pa_nil)))) (pe_op (op_addK (K := K) rfl) (pe_op op_fdiv (pv 1) (pe_ix (ix_seqK (K := K) rfl) (pv 0) pe_int (fun _ _ => rfl))) pe_int) (pe_callC c__law_cell (hr.mono (by decide)) (by rfl) (pa_cons (pv 0) (pa_cons (pv 1) pa_nil)))))), fn_run h ?_⟩
  intro xs st Φ hl hp
  clear hl h hu hr nd
  try dsimp only [L2.cxOf, NdefX.ncx]
  obtain ⟨ru, l, rfl, ok, q⟩ := hp
  cases ru with
  | pages H =>
    obtain ⟨h1, h2⟩ := ok
    dsimp only [rulD]
    have q : Φ (.pd (.int (l / H + 1))) st := q
    refine ws_ret (we_if ?_)
    walk_at "s"
    refine wc_isi rfl rfl ?_
    walk_at "s"
    refine ⟨fun _ => ?_, fun h => (by cases h)⟩
    walk_at "s"
    exact fin_pd (by simp) q
  | cells hs =>
    dsimp only [rulD]
    refine ws_ret (we_if ?_)
    walk_at "s"
    refine wc_isi rfl rfl ?_
    walk_at "s"
    refine ⟨fun h => (by cases h), fun _ => ?_⟩
    walk_at "s"
    exact ⟨by rfl, hs, l, rfl, fin_pd (by simp) q⟩
/-! ### _law_plan_ruler -/
abbrev N__law_plan_ruler : List Str := ["ruler"]
theorem sc__law_plan_ruler : FnScope N__law_plan_ruler ["ruler"] (defScope s__law_plan_ruler) := ⟨rfl, rfl, rfl, by decide +kernel, rfl, by decide +kernel, by decide +kernel⟩
theorem ok__law_plan_ruler (c_Ruler___init__ : CalI P w K mg base 4 "Ruler" C_Ruler ["self", "heights"] (spP K T 2 (pre_Ruler___init__ C_Ruler))) (Z : Zs mg) (dd : Df K mg "_law_plan_ruler" s__law_plan_ruler) : Cal P w K mg base 6 "_law_plan_ruler" ["ruler"] (spP K T 1 (pre__law_plan_ruler K C_Ruler)) := by
  refine dd.cal (fun f fd F => F.ok sc__law_plan_ruler (fun vs H Q E h => spP_len h) fun cdv A outer s H vs Q E hr h => ?_) (fun _ _ _ _ _ _ us hl => match us, hl with | [_], _ => rfl)
  have nd := sc__law_plan_ruler.nd
  have hu := room_u hr
  refine ⟨_, (pss_one (ps_ret (pe_ifExp (pt_val (pe_callB (call_isiK (K := K) rfl) (by rfl) Z.isinstance boot_isinstance (pa_cons (pv 0) (pa_cons (pe_tyN (by rfl) Z.tuple_ boot_tuple) pa_nil)))) (pv 0) (pe_makeC c_Ruler___init__ (hr.mono (by decide)) (by rfl) (pa_cons (pe_callTy (call_listK (K := K) rfl) (by rfl) Z.list_ boot_list (pa_cons (pv 0) pa_nil)) pa_nil))))), fn_run h ?_⟩
  intro xs st Φ hl hp
  clear hl h hu hr nd
  try dsimp only [L2.cxOf, NdefX.ncx]
  obtain ⟨ru, rfl, ok, q⟩ := hp
  cases ru with
  | pages H =>
    dsimp only [rulD]
    refine ws_ret (we_if ?_)
    walk_at "s"
    refine wc_isi rfl rfl ?_
    walk_at "s"
    refine ⟨fun _ => ?_, fun h => (by cases h)⟩
    walk_at "s"
    exact fin_pd (by simp) q
  | cells hs =>
    dsimp only [rulD]
    refine ws_ret (we_if ?_)
    walk_at "s"
    refine wc_isi rfl rfl ?_
    walk_at "s"
    refine ⟨fun h => (by cases h), fun _ => ?_⟩
    refine we_frz (we_make ?_)
    refine wa_cons (we_pur (we_cb (wa_cons (we_var rfl (wa_nil (wc_listC rfl ⟨_, _, pur_end, wa_nil ?_⟩))))))
    refine ⟨by rfl, _, hs, rfl, get_end, ok, ?_⟩
    have hg := get_setSelf (c' := .ins C_Ruler ([("height_list", Val.cell (st ++ [Cell.fr (hs.map PyData.int)] ++ [Cell.ins C_Ruler []]).length), ("edge_list", Val.cell ((st ++ [Cell.fr (hs.map PyData.int)] ++ [Cell.ins C_Ruler []]).length + 1))] : List (Str × Val))) (get_end (st0 := st ++ [Cell.fr (hs.map PyData.int)]) (jk := []) (c := .ins C_Ruler []))
    refine ⟨rfl, _, _, _, _, _, rfl, get_app_l hg, frz_two (by simp), get_app_l hg, ?_⟩
    refine fin_ob ?_ q
    simp
/-! ### _law_plan_top -/
abbrev N__law_plan_top : List Str := ["world", "row"]
theorem sc__law_plan_top : FnScope N__law_plan_top ["world"] (defScope s__law_plan_top) := ⟨rfl, rfl, rfl, by decide +kernel, rfl, by decide +kernel, by decide +kernel⟩
theorem ok__law_plan_top (Z : Zs mg) (dd : Df K mg "_law_plan_top" s__law_plan_top) : Cal P w K mg base 1 "_law_plan_top" ["world"] (spP K T 1 pre__law_plan_top) := by
  refine dd.cal (fun f fd F => F.ok sc__law_plan_top (fun vs H Q E h => spP_len h) fun cdv A outer s H vs Q E hr h => ?_) (fun _ _ _ _ _ _ us hl => match us, hl with | [_], _ => rfl)
  have nd := sc__law_plan_top.nd
  have hu := room_u hr
  refine ⟨_, (pss_one (ps_ret (pe_op (op_addK (K := K) rfl) (pe_ix (ix_seqK (K := K) rfl) (pv 0) pe_int (fun _ _ => rfl)) (pe_callB (cr_sumK (K := K) rfl rfl) (by rfl) Z.sum boot_sum (pa_cons (pe_lc (own := [("row", 1)]) (g := gName 1) (tt := tYes) rfl nd (pi_list (pe_ix (ix_seqK (K := K) rfl) (pv 0) pe_int (fun _ _ => rfl))) (blkOk_by (N := N__law_plan_top) (sc := defScope s__law_plan_top) (by decide +kernel)) (fun _ _ _ _ _ => (pg_name (i := 1) nd rfl (.inl rfl))) (fun _ _ _ _ _ => pts_nil) (fun _ _ _ _ _ => (pe_op (op_addK (K := K) rfl) (pe_ix (ix_seqK (K := K) rfl) (pv 1) pe_int (fun _ _ => rfl)) (pe_ix (ix_seqK (K := K) rfl) (pv 1) pe_int (fun _ _ => rfl))))) pa_nil))))), fn_run h ?_⟩
  intro xs st Φ hl hp
  clear hl h hu hr nd
  try dsimp only [L2.cxOf, NdefX.ncx]
  obtain ⟨p, rfl, sn, q⟩ := hp
  walk_at "s"
  refine we_lcL (gw_name (by simp)) ?_
  walk_at "s"
  refine ⟨by rw [List.length_map]; exact big_lt (by omega), fun d => match d with | .tuple [.int a, .int b, .int c] => some (.int (b + c)) | _ => none, ?_, ?_⟩
  · intro i d acc hd
    obtain ⟨⟨a, b, c⟩, ht, rfl⟩ := sec_at hd
    walk_at "s"
    refine ⟨fun _ => ?_, fun h => (by cases h)⟩
    walk_at "s"
    exact ⟨_, _, rfl, take_snoc, rfl⟩
  · rw [top_sum _ _ fun s => rfl]
    walk_at "s"
    refine wc_sum rfl ?_
    walk_at "s"
    exact fin_pd (by simp) q
/-! ### _law_made_plan -/
abbrev N__law_made_plan : List Str := ["world"]
theorem sc__law_made_plan : FnScope N__law_made_plan ["world"] (defScope s__law_made_plan) := ⟨rfl, rfl, rfl, by decide +kernel, rfl, by decide +kernel, by decide +kernel⟩
theorem ok__law_made_plan (c_Plan___init__ : CalI P w K mg base 5 "Plan" C_Plan ["self", "start", "ruler", "r", "sections", "tells"] (spP K T 6 (pre_Plan___init__ K C_Plan C_Ruler))) (c__law_plan_ruler : Cal P w K mg base 6 "_law_plan_ruler" ["ruler"] (spP K T 1 (pre__law_plan_ruler K C_Ruler))) (Z : Zs mg) (dd : Df K mg "_law_made_plan" s__law_made_plan) : Cal P w K mg base 7 "_law_made_plan" ["world"] (spP K T 1 (pre__law_made_plan K C_Plan C_Ruler)) := by
  refine dd.cal (fun f fd F => F.ok sc__law_made_plan (fun vs H Q E h => spP_len h) fun cdv A outer s H vs Q E hr h => ?_) (fun _ _ _ _ _ _ us hl => match us, hl with | [_], _ => rfl)
  have nd := sc__law_made_plan.nd
  have hu := room_u hr
  refine ⟨_, (pss_one (ps_ret (pe_makeC c_Plan___init__ (hr.mono (by decide)) (by rfl) (pa_cons (pe_ix (ix_seqK (K := K) rfl) (pv 0) pe_int (fun _ _ => rfl)) (pa_cons (pe_callC c__law_plan_ruler (hr.mono (by decide)) (by rfl) (pa_cons (pe_ix (ix_seqK (K := K) rfl) (pv 0) pe_int (fun _ _ => rfl)) pa_nil)) (pa_cons (pe_ix (ix_seqK (K := K) rfl) (pv 0) pe_int (fun _ _ => rfl)) (pa_cons (pe_callTy (call_listK (K := K) rfl) (by rfl) Z.list_ boot_list (pa_cons (pe_ix (ix_seqK (K := K) rfl) (pv 0) pe_int (fun _ _ => rfl)) pa_nil)) (pa_cons (pe_callTy (call_listK (K := K) rfl) (by rfl) Z.list_ boot_list (pa_cons (pe_ix (ix_seqK (K := K) rfl) (pv 0) pe_int (fun _ _ => rfl)) pa_nil)) pa_nil)))))))), fn_run h ?_⟩
  intro xs st Φ hl hp
  clear hl h hu hr nd
  try dsimp only [L2.cxOf, NdefX.ncx]
  obtain ⟨p, rfl, ok, q⟩ := hp
  refine ws_ret (we_frz (we_make ?_))
  walk_at "s"
  refine ⟨by rfl, p.ru, rfl, ok.ru, ?_⟩
  refine wa_cons (we_op (we_var rfl (we_c rfl (wr_ixuL rfl rfl (wa_cons (we_pur (we_cb (wa_cons (we_op (we_var rfl (we_c rfl (wr_ixuL rfl rfl (wa_nil (wc_listC rfl ⟨_, _, pur_end, ?_⟩))))))))))))))
  refine wa_cons (we_pur (we_cb (wa_cons (we_op (we_var rfl (we_c rfl (wr_ixuL rfl rfl (wa_nil (wc_listC rfl ⟨_, _, pur_end, wa_nil ?_⟩)))))))))
  refine ⟨by rfl, _, p, rfl, get_end, ok, ?_⟩
  refine ⟨rfl, _, _, _, planQF K C_Ruler p, _, rfl, get_setSelf get_end, frz_plan _ _, get_setSelf get_end, ?_⟩
  refine fin_ob ?_ q
  simp
/-! ### _law_ceilings -/
abbrev N__law_ceilings : List Str := ["world", "found", "a", "b", "c"]
theorem sc__law_ceilings : FnScope N__law_ceilings ["world"] (defScope s__law_ceilings) := ⟨rfl, rfl, rfl, by decide +kernel, rfl, by decide +kernel, by decide +kernel⟩
theorem ok__law_ceilings (c__law_plan_top : Cal P w K mg base 1 "_law_plan_top" ["world"] (spP K T 1 pre__law_plan_top)) (Z : Zs mg) (dd : Df K mg "_law_ceilings" s__law_ceilings) : Cal P w K mg base 2 "_law_ceilings" ["world"] (spP K T 1 pre__law_ceilings) := by
  refine dd.cal (fun f fd F => F.ok sc__law_ceilings (fun vs H Q E h => spP_len h) fun cdv A outer s H vs Q E hr h => ?_) (fun _ _ _ _ _ _ us hl => match us, hl with | [_], _ => rfl)
  have nd := sc__law_ceilings.nd
  have hu := room_u hr
  refine ⟨_, (pss_cons (ps_asg (pe_lst (pa_cons (pe_callC c__law_plan_top (hr.mono (by decide)) (by rfl) (pa_cons (pv 0) pa_nil)) pa_nil)) (pg_name (i := 1) nd rfl (.inl rfl))) (pss_cons (ps_for PassesOwn.never rfl (pi_list (pe_ix (ix_seqK (K := K) rfl) (pv 0) pe_int (fun _ _ => rfl))) (pg_tup (n := 3) rfl (pgs_cons (pg_name (i := 2) nd rfl (.inl rfl)) (pgs_cons (pg_name (i := 3) nd rfl (.inl rfl)) (pgs_cons (pg_name (i := 4) nd rfl (.inl rfl)) pgs_nil)))) (pss_one (ps_expr (pe_bm PySem.F.plainAttrs_list PySem.F.slot_list_append PySem.F.type_list_append mt_append (pv 1) (pa_cons (pe_op (op_addK (K := K) rfl) (pe_op (op_addK (K := K) rfl) (pe_ix (ix_seqK (K := K) rfl) (pv 1) (pe_op op_sub (pe_callB (call_lenK (K := K) rfl) (by rfl) Z.len PySem.boot_len (pa_cons (pv 1) pa_nil)) pe_int) (fun _ _ => rfl)) (pv 3)) (pv 4)) pa_nil))))) (pss_one (ps_ret (pv 1))))), fn_run h ?_⟩
  intro xs st Φ hl hp
  clear hl h hu hr nd
  try dsimp only [L2.cxOf, NdefX.ncx]
  obtain ⟨p, rfl, sn, q⟩ := hp
  have hc0 : (ceilsQ p).getD 0 0 = topQ p := by
    unfold ceilsQ
    rw [ceil_at _ _ _ (Nat.zero_le _)]
    simp
  refine ws_seq (ws_asg (we_lstC (wa_cons (we_call (wa_cons (we_var rfl (wa_nil ⟨by rfl, p, rfl, sn, ?_⟩)))))))
  refine wa_nil ⟨_, _, purs_cons purs_nil, big_le (by simp), wg_name ?_⟩
  refine ws_seq (ws_forL (we_op (we_var rfl (we_c rfl (wr_ixuL rfl rfl ?_)))))
  refine ⟨_, rfl, fun i ss' st' => st' = st ++ [.mu (((ceilsQ p).take (i + 1)).map PyData.int)] ∧ ∃ (y2 y3 y4 : Option Val), ss' = [some (.pd (worldQ p)), some (.cell st.length), y2, y3, y4], ⟨by rw [ceil_take (Nat.zero_le _), hc0]; rfl, _, _, _, rfl⟩, ?_, ?_⟩
  · rintro i d ss' st' hd ⟨rfl, y2, y3, y4, rfl⟩
    obtain ⟨t, ht, rfl⟩ := sec_at hd
    obtain ⟨hi, e⟩ := List.getElem?_eq_some_iff.mp ht
    obtain ⟨a, b, c⟩ := t
    have hst := ceil_step ht
    have hlt : ((ceilsQ p).take i).length ≤ 60 := by rw [List.length_take]; omega
    have hn2 : (ceilsQ p).take (i + 1 + 1) = (ceilsQ p).take i ++ [(ceilsQ p).getD i 0] ++ [(ceilsQ p).getD i 0 + b + c] := by
      rw [ceil_take (show i + 1 ≤ p.ss.length by omega), hst, ceil_take (show i ≤ p.ss.length by omega)]
    rw [ceil_take (show i ≤ p.ss.length by omega)]
    dsimp only
    rw [hn2]
    generalize (ceilsQ p).take i = cs at hlt ⊢
    generalize (ceilsQ p).getD i 0 = z
    rw [show (cs ++ [z]).map PyData.int = cs.map PyData.int ++ [.int z] by rw [List.map_append]; rfl]
    walk_at "s"
    refine wr_ixuL look_end (atI_end _ _) ?_
    walk_at "s"
    exact ⟨by rw [List.map_append, List.map_append]; rfl, _, _, _, rfl⟩
  · rintro ss' st' ⟨rfl, y2, y3, y4, rfl⟩
    rw [List.length_map]
    have hct : (ceilsQ p).take (p.ss.length + 1) = ceilsQ p := List.take_of_length_le (by unfold ceilsQ; rw [ceil_len]; exact Nat.le_refl _)
    rw [hct]
    walk_at "s"
    exact fin_end q
/-! ### _law_cells -/
abbrev N__law_cells : List Str := ["world", "ceilings", "line"]
theorem sc__law_cells : FnScope N__law_cells ["world"] (defScope s__law_cells) := ⟨rfl, rfl, rfl, by decide +kernel, rfl, by decide +kernel, by decide +kernel⟩
theorem ok__law_cells (c__law_plan_cell : Cal P w K mg base 2 "_law_plan_cell" ["ruler", "line"] (spP K T 2 pre__law_plan_cell)) (c__law_ceilings : Cal P w K mg base 2 "_law_ceilings" ["world"] (spP K T 1 pre__law_ceilings)) (Z : Zs mg) (dd : Df K mg "_law_cells" s__law_cells) : Cal P w K mg base 3 "_law_cells" ["world"] (spP K T 1 pre__law_cells) := by
  refine dd.cal (fun f fd F => F.ok sc__law_cells (fun vs H Q E h => spP_len h) fun cdv A outer s H vs Q E hr h => ?_) (fun _ _ _ _ _ _ us hl => match us, hl with | [_], _ => rfl)
  have nd := sc__law_cells.nd
  have hu := room_u hr
  refine ⟨_, (pss_cons (ps_asg (pe_callC c__law_ceilings (hr.mono (by decide)) (by rfl) (pa_cons (pv 0) pa_nil)) (pg_name (i := 1) nd rfl (.inl rfl))) (pss_one (ps_ret (pe_lc (own := [("line", 2)]) (g := gName 2) (tt := tYes) rfl nd (pi_range1 rfl Z.range_ (pa_cons (pe_op (op_addK (K := K) rfl) (pe_ix (ix_seqK (K := K) rfl) (pv 1) (pe_op op_sub (pe_callB (call_lenK (K := K) rfl) (by rfl) Z.len PySem.boot_len (pa_cons (pv 1) pa_nil)) pe_int) (fun _ _ => rfl)) pe_int) pa_nil)) (blkOk_by (N := N__law_cells) (sc := defScope s__law_cells) (by decide +kernel)) (fun _ _ _ _ _ => (pg_name (i := 2) nd rfl (.inl rfl))) (fun _ _ _ _ _ => pts_nil) (fun _ _ _ _ _ => (pe_callC c__law_plan_cell (hr.mono (by decide)) (by rfl) (pa_cons (pe_ix (ix_seqK (K := K) rfl) (pv 0) pe_int (fun _ _ => rfl)) (pa_cons (pv 2) pa_nil)))))))), fn_run h ?_⟩
  intro xs st Φ hl hp
  clear hl h hu hr nd
  try dsimp only [L2.cxOf, NdefX.ncx]
  obtain ⟨p, rfl, sn, ok, ⟨hc0, hc1⟩, q⟩ := hp
  have hct : (ceilsQ p).take (p.ss.length + 1) = ceilsQ p := List.take_of_length_le (by unfold ceilsQ; rw [ceil_len]; exact Nat.le_refl _)
  have hlast : (ceilsQ p).map PyData.int = ((ceilsQ p).take p.ss.length).map PyData.int ++ [.int ((ceilsQ p).getD p.ss.length 0)] := by
    conv => lhs; rw [← hct]
    rw [ceil_take (Nat.le_refl _), List.map_append]
    rfl
  walk_at "s"
  refine ⟨by rfl, p, rfl, sn, ?_⟩
  rw [hlast]
  refine wg_name ?_
  refine ws_ret (we_lcR1 (gw_name (by simp)) ?_)
  walk_at "s"
  refine wr_ixuL rfl (atI_end _ _) ?_
  walk_at "s"
  refine ⟨by omega, by omega, big_lt (by omega), fun i => some (.int (cellQ p.ru (0 + (i : Int)))), ?_, ?_⟩
  · intro i acc hi
    walk_at "s"
    refine ⟨fun _ => ?_, fun h => (by cases h)⟩
    walk_at "s"
    refine ⟨by rfl, p.ru, _, rfl, ok, ?_⟩
    exact ⟨_, _, rfl, take_snoc, rfl⟩
  · rw [filt_all _ fun i => cellQ p.ru (0 + (i : Int))]
    exact fin_pd (by simp) q
/-! ### _law_first_tell -/
abbrev N__law_first_tell : List Str := ["world", "mark", "places", "i", "j"]
theorem sc__law_first_tell : FnScope N__law_first_tell ["world", "mark"] (defScope s__law_first_tell) := ⟨rfl, rfl, rfl, by decide +kernel, rfl, by decide +kernel, by decide +kernel⟩
theorem ok__law_first_tell (Z : Zs mg) (dd : Df K mg "_law_first_tell" s__law_first_tell) : Cal P w K mg base 1 "_law_first_tell" ["world", "mark"] (spP K T 2 pre__law_first_tell) := by
  refine dd.cal (fun f fd F => F.ok sc__law_first_tell (fun vs H Q E h => spP_len h) fun cdv A outer s H vs Q E hr h => ?_) (fun _ _ _ _ _ _ us hl => match us, hl with | [_, _], _ => rfl)
  have nd := sc__law_first_tell.nd
  have hu := room_u hr
  refine ⟨_, (pss_cons (ps_setLc (i := 2) (own := [("i", 3), ("j", 4)]) (g := gTup K 2 (gCons (gName 3) (gCons (gName 4) gNil))) (tt := _) rfl nd rfl rfl (sw_true rfl rfl rfl (by decide +kernel)) (pi_list (pe_ix (ix_seqK (K := K) rfl) (pv 0) pe_int (fun _ _ => rfl))) (blkOk_by (N := N__law_first_tell) (sc := defScope s__law_first_tell) (by decide +kernel)) (fun _ _ _ _ _ => (pg_tup (n := 2) rfl (pgs_cons (pg_name (i := 3) nd rfl (.inl rfl)) (pgs_cons (pg_name (i := 4) nd rfl (.inl rfl)) pgs_nil)))) (fun _ _ _ _ _ => (pts_one (pt_cmpR (op_eqK (K := K) rfl hu) (pv 4) (pv 1) (nomark _)))) (fun _ _ _ _ _ => (pv 3))) (pss_one (ps_ret (pe_ifExp (pt_cmpR (op_neK (K := K) rfl hu) (pv 2) (pe_lst pa_nil) (nomark _)) (pe_callB (cr_minK' (K := K) rfl rfl) (by rfl) Z.min boot_min (pa_cons (pv 2) pa_nil)) pe_non)))), fn_run h ?_⟩
  intro xs st Φ hl hp
  clear hl h hu hr nd
  try dsimp only [L2.cxOf, NdefX.ncx]
  obtain ⟨p, m, rfl, hs, hl, q⟩ := hp
  refine ws_sA (we_lcL (gw_tup (gw_cons gm_name (gm_cons gm_name gm_nil) (gw_name (by simp)) (gw_cons gm_name gm_nil (gw_name (by simp)) gw_nil))) ?_)
  walk_at "s"
  refine ⟨by rw [List.length_map]; exact big_lt (by omega), tellF m, ?_, ?_⟩
  · intro i d acc hd
    obtain ⟨⟨x, y⟩, hz, rfl⟩ := List.mem_map.mp (List.mem_of_getElem? hd)
    walk_at "s"
    refine ⟨fun h => ?_, fun h => ?_⟩
    · walk_at "s"
      exact ⟨_, _, rfl, take_snoc, if_pos (of_decide_eq_true h)⟩
    · exact ⟨take_snoc, if_neg (of_decide_eq_false h)⟩
  rw [tellF_map]
  generalize hE : (p.ts.filter fun t => decide (t.2 = m)).map Prod.fst = E
  refine wg_name ?_
  refine ws_ret (we_if ?_)
  walk_at "s"
  have hsh : SeqAt.shaped (.list (E.map PyData.int)) = true := Sh.shaped (k := 1) (sh_list fun d hd => by
    obtain ⟨x, _, rfl⟩ := List.mem_map.mp hd
    exact sh_int _)
  refine wr_neD rfl rfl hsh rfl ?_
  rw [eqv_isNil]
  walk_at "s"
  refine ⟨fun h => ?_, fun h => ?_⟩
  · have hne : E ≠ [] := fun z => by
      rw [z] at h
      simp at h
    walk_at "s"
    refine wc_min rfl (by
      cases E with
      | nil => exact absurd rfl hne
      | cons x t => simp) fun x hx hle => ?_
    rw [← hE] at hx hle
    rw [first_min hs hx hle] at q
    exact fin_pd (by simp) q
  · have hnil : E = [] := by
      have h : (!decide (E.map PyData.int = [])) = false := h
      simpa using h
    have hf : firstTell p.ts m = none := by
      unfold firstTell
      rw [← List.head?_filter]
      rw [hnil, List.map_eq_nil_iff] at hE
      rw [hE]
      rfl
    rw [hf] at q
    walk_at "s"
    exact fin_pd (by simp) q
/-! ### _law_bits -/
abbrev N__law_bits : List Str := ["first", "last"]
theorem sc__law_bits : FnScope N__law_bits ["first", "last"] (defScope s__law_bits) := ⟨rfl, rfl, rfl, by decide +kernel, rfl, by decide +kernel, by decide +kernel⟩
theorem ok__law_bits (dd : Df K mg "_law_bits" s__law_bits) : Cal P w K mg base 1 "_law_bits" ["first", "last"] (spP K T 2 pre__law_bits) := by
  refine dd.cal (fun f fd F => F.ok sc__law_bits (fun vs H Q E h => spP_len h) fun cdv A outer s H vs Q E hr h => ?_) (fun _ _ _ _ _ _ us hl => match us, hl with | [_, _], _ => rfl)
  have nd := sc__law_bits.nd
  have hu := room_u hr
  refine ⟨_, (pss_one (ps_ret (pe_ifExp (pt_cmpR op_ge (pv 1) (pv 0) (nomark _)) (pe_op op_shlW (pe_op op_sub (pe_op op_shlW pe_int (pe_op (op_addK (K := K) rfl) (pe_op op_sub (pv 1) (pv 0)) pe_int)) pe_int) (pv 0)) pe_int))), fn_run h ?_⟩
  intro xs st Φ hl hp
  clear hl h hu hr nd
  try dsimp only [L2.cxOf, NdefX.ncx]
  obtain ⟨f, l, rfl, h0, h1, h2, q⟩ := hp
  refine ws_ret (we_if ?_)
  walk_at "s"
  refine ⟨fun h => ?_, fun h => ?_⟩
  · have h : f ≤ l := of_decide_eq_true h
    walk_at "s"
    refine wr_shlW (cshl_one (by omega) (by omega)) ?_
    walk_at "s"
    refine wr_shlW (cshl_mask (by omega) (by omega) h0 (by omega)) ?_
    rw [bits_int h0 h]
    exact fin_pd (by simp) q
  · have h : ¬ f ≤ l := of_decide_eq_false h
    walk_at "s"
    unfold bitsN at q
    rw [if_neg (by omega)] at q
    exact fin_pd (by simp) q
/-! ### _law_sums -/
abbrev N__law_sums : List Str := ["sections", "i", "j", "row"]
theorem sc__law_sums : FnScope N__law_sums ["sections", "i", "j"] (defScope s__law_sums) := ⟨rfl, rfl, rfl, by decide +kernel, rfl, by decide +kernel, by decide +kernel⟩
theorem ok__law_sums (Z : Zs mg) (dd : Df K mg "_law_sums" s__law_sums) : Cal P w K mg base 1 "_law_sums" ["sections", "i", "j"] (spP K T 3 pre__law_sums) := by
  refine dd.cal (fun f fd F => F.ok sc__law_sums (fun vs H Q E h => spP_len h) fun cdv A outer s H vs Q E hr h => ?_) (fun _ _ _ _ _ _ us hl => match us, hl with | [_, _, _], _ => rfl)
  have nd := sc__law_sums.nd
  have hu := room_u hr
  refine ⟨_, (pss_one (ps_ret (pe_tup (pa_cons (pe_callB (cr_sumK (K := K) rfl rfl) (by rfl) Z.sum boot_sum (pa_cons (pe_lc (own := [("row", 3)]) (g := gName 3) (tt := tYes) rfl nd (pi_list (pe_slice (sl_listK (K := K) rfl) (pv 0) (po_some (pv 1)) (po_some (pv 2)))) (blkOk_by (N := N__law_sums) (sc := defScope s__law_sums) (by decide +kernel)) (fun _ _ _ _ _ => (pg_name (i := 3) nd rfl (.inl rfl))) (fun _ _ _ _ _ => pts_nil) (fun _ _ _ _ _ => (pe_op (op_addK (K := K) rfl) (pe_ix (ix_seqK (K := K) rfl) (pv 3) pe_int (fun _ _ => rfl)) (pe_ix (ix_seqK (K := K) rfl) (pv 3) pe_int (fun _ _ => rfl))))) pa_nil)) (pa_cons (pe_callB (cr_sumK (K := K) rfl rfl) (by rfl) Z.sum boot_sum (pa_cons (pe_lc (own := [("row", 3)]) (g := gName 3) (tt := tYes) rfl nd (pi_list (pe_slice (sl_listK (K := K) rfl) (pv 0) (po_some (pv 1)) (po_some (pv 2)))) (blkOk_by (N := N__law_sums) (sc := defScope s__law_sums) (by decide +kernel)) (fun _ _ _ _ _ => (pg_name (i := 3) nd rfl (.inl rfl))) (fun _ _ _ _ _ => pts_nil) (fun _ _ _ _ _ => (pe_ix (ix_seqK (K := K) rfl) (pv 3) pe_int (fun _ _ => rfl)))) pa_nil)) pa_nil))))), fn_run h ?_⟩
  intro xs st Φ hl hp
  clear hl h hu hr nd
  try dsimp only [L2.cxOf, NdefX.ncx]
  obtain ⟨ss, i, j, rfl, hij, hj, hl, q⟩ := hp
  unfold sumLow sumHigh at q
  obtain ⟨L, hLe⟩ : ∃ L, L = (ss.drop i).take (j - i) := ⟨_, rfl⟩
  have hL : L.length ≤ 1000 := by
    rw [hLe, List.length_take, List.length_drop]
    omega
  rw [← hLe] at q
  refine ws_ret (we_tup (wa_cons (we_cb (wa_cons (we_lcL (gw_name (by simp)) ?_)))))
  walk_at "s"
  rw [cut_nat _ i j (by rw [List.length_map]; exact hj) hij, ← List.map_drop, ← List.map_take, ← hLe]
  refine ⟨by rw [List.length_map]; exact big_lt (by omega), lowF, ?_, ?_⟩
  · intro k d acc hd
    obtain ⟨⟨a, b, c⟩, ht, rfl⟩ := sec_at hd
    walk_at "s"
    refine ⟨fun _ => ?_, fun h => (by cases h)⟩
    walk_at "s"
    exact ⟨_, _, rfl, take_snoc, rfl⟩
  rw [sec_filt L lowF (fun s => s.1 + s.2.2) fun s => rfl]
  refine wa_nil (wc_sum rfl ?_)
  refine wa_cons (we_cb (wa_cons (we_lcL (gw_name (by simp)) ?_)))
  walk_at "s"
  rw [cut_nat _ i j (by rw [List.length_map]; exact hj) hij, ← List.map_drop, ← List.map_take, ← hLe]
  refine ⟨by rw [List.length_map]; exact big_lt (by omega), highF, ?_, ?_⟩
  · intro k d acc hd
    obtain ⟨⟨a, b, c⟩, ht, rfl⟩ := sec_at hd
    walk_at "s"
    refine ⟨fun _ => ?_, fun h => (by cases h)⟩
    walk_at "s"
    exact ⟨_, _, rfl, take_snoc, rfl⟩
  rw [sec_filt L highF (fun s => s.2.1) fun s => rfl]
  refine wa_nil (wc_sum rfl ?_)
  walk_at "s"
  exact fin_pd (by simp) q
/-! ### _law_pulled -/
abbrev N__law_pulled : List Str := ["bits", "section", "a", "b", "c", "found", "lines", "some", "pad"]
theorem sc__law_pulled : FnScope N__law_pulled ["bits", "section"] (defScope s__law_pulled) := ⟨rfl, rfl, rfl, by decide +kernel, rfl, by decide +kernel, by decide +kernel⟩
theorem ok__law_pulled (Z : Zs mg) (dd : Df K mg "_law_pulled" s__law_pulled) : Cal P w K mg base 1 "_law_pulled" ["bits", "section"] (spP K T 2 pre__law_pulled) := by
  refine dd.cal (fun f fd F => F.ok sc__law_pulled (fun vs H Q E h => spP_len h) fun cdv A outer s H vs Q E hr h => ?_) (fun _ _ _ _ _ _ us hl => match us, hl with | [_, _], _ => rfl)
  have nd := sc__law_pulled.nd
  have hu := room_u hr
  refine ⟨_, (pss_cons (ps_asg (pv 1) (pg_or (pg_tup (n := 3) rfl (pgs_cons (pg_name (i := 2) nd rfl (.inl rfl)) (pgs_cons (pg_name (i := 3) nd rfl (.inl rfl)) (pgs_cons (pg_name (i := 4) nd rfl (.inl rfl)) pgs_nil)))) (pg_unl (n := 3) rfl (pgs_cons (pg_name (i := 2) nd rfl (.inl rfl)) (pgs_cons (pg_name (i := 3) nd rfl (.inl rfl)) (pgs_cons (pg_name (i := 4) nd rfl (.inl rfl)) pgs_nil)))))) (pss_cons (ps_asg (pe_un un_neg pe_int) (pg_name (i := 5) nd rfl (.inl rfl))) (pss_cons (ps_for PassesOwn.never rfl (pi_range2 rfl Z.range_ (pa_cons (pv 2) (pa_cons (pe_op (op_addK (K := K) rfl) (pv 3) pe_int) pa_nil))) (pg_name (i := 6) nd rfl (.inl rfl)) (pss_cons (ps_asg pe_int (pg_name (i := 7) nd rfl (.inl rfl))) (pss_cons (ps_for PassesOwn.never rfl (pi_range1 rfl Z.range_ (pa_cons (pe_op (op_addK (K := K) rfl) (pv 4) pe_int) pa_nil)) (pg_name (i := 8) nd rfl (.inl rfl)) (pss_one (ps_asg (pe_op op_or (pv 7) (pe_op op_shr (pv 0) (pe_op (op_addK (K := K) rfl) (pv 6) (pv 8)))) (pg_name (i := 7) nd rfl (.inl rfl))))) (pss_one (ps_asg (pe_op op_and (pv 5) (pv 7)) (pg_name (i := 5) nd rfl (.inl rfl))))))) (pss_one (ps_ret (pv 5)))))), fn_run h ?_⟩
  intro xs st Φ hl hp
  clear hl h hu hr nd
  try dsimp only [L2.cxOf, NdefX.ncx]
  obtain ⟨m, a, b, c, rfl, ⟨ha, hab, hc, hcb, hb⟩, q⟩ := hp
  have ha : 0 ≤ a := ha
  have hab : a ≤ b := hab
  have hc : 0 ≤ c := hc
  have hcb : c ≤ b - a := hcb
  have hb : b ≤ 10000 := hb
  walk_at "s"
  refine ws_seq (ws_forR2 ?_)
  walk_at "s"
  refine ⟨_, _, rfl, ⟨by omega, by omega, by omega, by omega⟩, fun i ss' st' => st' = st ∧ ∃ (f : Int) (y6 y7 y8 : Option Val), ss' = [vI m, some (.pd (secD (a, b, c))), vI a, vI b, vI c, vI f, y6, y7, y8] ∧ ((i = 0 ∧ f = -1) ∨ ∃ n : Nat, f = (n : Int) ∧ 0 < i ∧ ∀ x, bitS n x ↔ 0 ≤ x ∧ ∀ L, a ≤ L → L < a + i → ∃ d, 0 ≤ d ∧ d ≤ c ∧ bitS m (x + L + d)), ⟨rfl, _, _, _, _, rfl, .inl ⟨rfl, rfl⟩⟩, ?_, ?_⟩
  · rintro i ss' st' hi ⟨rfl, f, y6, y7, y8, rfl, hf⟩
    refine wg_nm ?_
    walk_at "s"
    refine ws_seq (ws_forR1 ?_)
    walk_at "s"
    refine ⟨by omega, by omega, fun k ss' st'' => st'' = st' ∧ ∃ (s : Nat) (y8 : Option Val), ss' = [vI m, some (.pd (secD (a, b, c))), vI a, vI b, vI c, vI f, vI (a + i), vI s, y8] ∧ ∀ x, bitS s x ↔ 0 ≤ x ∧ ∃ d, 0 ≤ d ∧ d < (k : Int) ∧ bitS m (x + (a + i) + d), ⟨rfl, 0, _, rfl, fun x => ⟨fun h => absurd h bitS_zero, fun ⟨_, d, _, _, _⟩ => by omega⟩⟩, ?_, ?_⟩
    · rintro k ss' st'' hk ⟨rfl, s, y8, rfl, hs⟩
      refine wg_nm ?_
      walk_at "s"
      refine wr_shr (by omega) ?_
      refine wr_bor ?_
      rw [shr_nat m (by omega), bor_nat]
      walk_at "s"
      refine ⟨rfl, _, _, rfl, fun x => ?_⟩
      rw [bitS_or, bitS_shr, hs]
      rw [show (((a + (i : Int) + (0 + (k : Int))).toNat : Nat) : Int) = a + i + k by omega]
      constructor
      · rintro (⟨x0, d, d0, d1, h⟩ | ⟨x0, h⟩)
        · exact ⟨x0, d, d0, by omega, h⟩
        · exact ⟨x0, k, by omega, by omega, by rw [show x + (a + (i : Int)) + (k : Int) = x + (a + i + k) by omega]; exact h⟩
      · rintro ⟨x0, d, d0, d1, h⟩
        by_cases e : d = (k : Int)
        · subst e
          exact .inr ⟨x0, by rw [show x + (a + i + (k : Int)) = x + (a + (i : Int)) + k by omega]; exact h⟩
        · exact .inl ⟨x0, d, d0, by omega, h⟩
    · rintro ss' st'' ⟨rfl, s, y8, rfl, hs⟩
      have hs : ∀ x, bitS s x ↔ 0 ≤ x ∧ ∃ d, 0 ≤ d ∧ d ≤ c ∧ bitS m (x + (a + i) + d) := fun x => by
        rw [hs]
        exact ⟨fun ⟨x0, d, d0, d1, h⟩ => ⟨x0, d, d0, by omega, h⟩, fun ⟨x0, d, d0, d1, h⟩ => ⟨x0, d, d0, by omega, h⟩⟩
      rcases hf with ⟨rfl, rfl⟩ | ⟨n, rfl, hi0, hn⟩
      · walk_at "s"
        refine ⟨rfl, _, _, _, _, rfl, .inr ⟨s, band_neg1 s, by omega, fun x => ?_⟩⟩
        rw [hs]
        constructor
        · rintro ⟨x0, d, d0, d1, h⟩
          refine ⟨x0, fun L l1 l2 => ⟨d, d0, d1, ?_⟩⟩
          rw [show x + L + d = x + (a + ((0 : Nat) : Int)) + d by omega]
          exact h
        · rintro ⟨x0, h⟩
          obtain ⟨d, d0, d1, h⟩ := h a (by omega) (by omega)
          exact ⟨x0, d, d0, d1, by rw [show x + (a + ((0 : Nat) : Int)) + d = x + a + d by omega]; exact h⟩
      · walk_at "s"
        refine ⟨rfl, _, _, _, _, rfl, .inr ⟨n &&& s, band_nat n s, by omega, fun x => ?_⟩⟩
        rw [bitS_and, hs, hn]
        constructor
        · rintro ⟨⟨x0, h1⟩, _, d, d0, d1, h⟩
          refine ⟨x0, fun L l1 l2 => ?_⟩
          by_cases e : L = a + (i : Int)
          · subst e
            exact ⟨d, d0, d1, h⟩
          · exact h1 L l1 (by omega)
        · rintro ⟨x0, h⟩
          exact ⟨⟨x0, fun L l1 l2 => h L l1 (by omega)⟩, x0, h (a + i) (by omega) (by omega)⟩
  · rintro ss' st' ⟨rfl, f, y6, y7, y8, rfl, hf⟩
    rcases hf with ⟨hf, _⟩ | ⟨n, rfl, _, hn⟩
    · omega
    · walk_at "s"
      refine fin_pd (by simp) (q n fun x => ?_)
      rw [hn]
      dsimp only
      exact ⟨fun ⟨x0, h⟩ => ⟨x0, fun L l1 l2 => h L l1 (by omega)⟩, fun ⟨x0, h⟩ => ⟨x0, fun L l1 l2 => h L l1 (by omega)⟩⟩
/-! ### _law_open -/
abbrev N__law_open : List Str := ["world", "t", "found", "j", "first"]
theorem sc__law_open : FnScope N__law_open ["world", "t"] (defScope s__law_open) := ⟨rfl, rfl, rfl, by decide +kernel, rfl, by decide +kernel, by decide +kernel⟩
theorem ok__law_open (c__law_first_tell : Cal P w K mg base 1 "_law_first_tell" ["world", "mark"] (spP K T 2 pre__law_first_tell)) (Z : Zs mg) (dd : Df K mg "_law_open" s__law_open) : Cal P w K mg base 2 "_law_open" ["world", "t"] (spP K T 2 pre__law_open) := by
  refine dd.cal (fun f fd F => F.ok sc__law_open (fun vs H Q E h => spP_len h) fun cdv A outer s H vs Q E hr h => ?_) (fun _ _ _ _ _ _ us hl => match us, hl with | [_, _], _ => rfl)
  have nd := sc__law_open.nd
  have hu := room_u hr
  refine ⟨_, (pss_cons (ps_asg (pe_lst pa_nil) (pg_name (i := 2) nd rfl (.inl rfl))) (pss_cons (ps_for PassesOwn.never rfl (pi_range2 rfl Z.range_ (pa_cons (pe_op (op_addK (K := K) rfl) (pv 1) pe_int) (pa_cons (pe_op (op_addK (K := K) rfl) (pe_callB (call_lenK (K := K) rfl) (by rfl) Z.len PySem.boot_len (pa_cons (pe_ix (ix_seqK (K := K) rfl) (pv 0) pe_int (fun _ _ => rfl)) pa_nil)) pe_int) pa_nil))) (pg_name (i := 3) nd rfl (.inl rfl)) (pss_cons (ps_asg (pe_callC c__law_first_tell (hr.mono (by decide)) (by rfl) (pa_cons (pv 0) (pa_cons (pv 3) pa_nil))) (pg_name (i := 4) nd rfl (.inl rfl))) (pss_one (ps_if (PW.pt (pw_and (pt_cmpR op_notN (pv 4) pe_non (nomark _)) (pw_and1 (pt_cmpR op_le (pv 4) (pv 1) (nomark _))))) (pss_one (ps_expr (pe_bm PySem.F.plainAttrs_list PySem.F.slot_list_append PySem.F.type_list_append mt_append (pv 2) (pa_cons (pv 3) pa_nil)))) pss_nil)))) (pss_one (ps_ret (pv 2))))), fn_run h ?_⟩
  intro xs st Φ hl hp
  clear hl h hu hr nd
  try dsimp only [L2.cxOf, NdefX.ncx]
  obtain ⟨p, t, rfl, hs, hl, h2, h3, q⟩ := hp
  walk_at "c"
  refine ws_seq (ws_forR2 ?_)
  walk_at "s"
  rw [List.length_map]
  refine ⟨_, _, rfl, ⟨by omega, by omega, by omega, by omega⟩, fun i ss' st' => st' = st ++ [.mu (openUp p t i)] ∧ ∃ (y3 y4 : Option Val), ss' = [some (.pd (worldQ p)), vI t, some (.cell st.length), y3, y4], ⟨rfl, _, _, rfl⟩, ?_, ?_⟩
  · rintro i ss' st' hi ⟨rfl, y3, y4, rfl⟩
    refine wg_nm ?_
    refine ws_sA (we_call ?_)
    walk_at "s"
    refine ⟨by rfl, p, _, rfl, hs, hl, wg_nm ?_⟩
    have hlen := openUp_len p t i
    have hstep := openUp_step p t i
    rw [show (t : Int) + 1 + (i : Int) = ((t + 1 + i : Nat) : Int) by omega]
    cases hf : firstTell p.ts ((t + 1 + i : Nat) : Int) with
    | none =>
      have hb : toldBy p.ts t ((t + 1 + i : Nat) : Int) = false := by unfold toldBy; rw [hf]
      rw [if_neg (by rw [hb]; exact Bool.false_ne_true), List.append_nil] at hstep
      dsimp only [oI]
      walk_at "s"
      refine ⟨fun h => (by cases h), fun _ => ⟨fun h => (by cases h), fun _ => ?_⟩⟩
      exact ws_next ⟨by rw [hstep], _, _, rfl⟩
    | some z =>
      have hb : toldBy p.ts t ((t + 1 + i : Nat) : Int) = decide (z ≤ (t : Int)) := by unfold toldBy; rw [hf]
      rw [hb] at hstep
      dsimp only [oI]
      walk_at "s"
      refine ⟨fun _ => ?_, fun h => (by cases h)⟩
      walk_at "s"
      refine ⟨fun h => ?_, fun h => ?_⟩
      · rw [if_pos h] at hstep
        walk_at "s"
        exact ⟨by rw [hstep], _, _, rfl⟩
      · rw [if_neg (by rw [h]; exact Bool.false_ne_true), List.append_nil] at hstep
        walk_at "s"
        exact ⟨by rw [hstep], _, _, rfl⟩
  · rintro ss' st' ⟨rfl, y3, y4, rfl⟩
    walk_at "s"
    rw [show ((p.ss.length : Int) + 1 - ((t : Int) + 1)).toNat = p.ss.length - t by omega]
    exact fin_end q
/-! ### _law_groups -/
abbrev N__law_groups : List Str := ["world", "t", "marks", "ceiling", "cells", "sums", "found", "begin", "before", "line", "row", "j", "low", "high"]
theorem sc__law_groups : FnScope N__law_groups ["world", "t", "marks", "ceiling", "cells"] (defScope s__law_groups) := ⟨rfl, rfl, rfl, by decide +kernel, rfl, by decide +kernel, by decide +kernel⟩
theorem ok__law_groups (c__law_bits : Cal P w K mg base 1 "_law_bits" ["first", "last"] (spP K T 2 pre__law_bits)) (c__law_sums : Cal P w K mg base 1 "_law_sums" ["sections", "i", "j"] (spP K T 3 pre__law_sums)) (Z : Zs mg) (dd : Df K mg "_law_groups" s__law_groups) : Cal P w K mg base 2 "_law_groups" ["world", "t", "marks", "ceiling", "cells"] (spP K T 5 (pre__law_groups K)) := by
  refine dd.cal (fun f fd F => F.ok sc__law_groups (fun vs H Q E h => spP_len h) fun cdv A outer s H vs Q E hr h => ?_) (fun _ _ _ _ _ _ us hl => match us, hl with | [_, _, _, _, _], _ => rfl)
  have nd := sc__law_groups.nd
  have hu := room_u hr
  refine ⟨_, (pss_cons (ps_setLc (i := 5) (own := [("j", 11)]) (g := gName 11) (tt := tYes) rfl nd rfl rfl (sw_true rfl rfl rfl (by decide +kernel)) (pi_list (pv 2)) (blkOk_by (N := N__law_groups) (sc := defScope s__law_groups) (by decide +kernel)) (fun _ _ _ _ _ => (pg_name (i := 11) nd rfl (.inl rfl))) (fun _ _ _ _ _ => pts_nil) (fun _ _ _ _ _ => (pe_callC c__law_sums (hr.mono (by decide)) (by rfl) (pa_cons (pe_ix (ix_seqK (K := K) rfl) (pv 0) pe_int (fun _ _ => rfl)) (pa_cons (pv 1) (pa_cons (pv 11) pa_nil)))))) (pss_cons (ps_asg pe_dnewT (pg_name (i := 6) nd rfl (.inl rfl))) (pss_cons (ps_asg pe_int (pg_name (i := 7) nd rfl (.inl rfl))) (pss_cons (ps_asg pe_non (pg_name (i := 8) nd rfl (.inl rfl))) (pss_cons (ps_for PassesOwn.never rfl (pi_range1 rfl Z.range_ (pa_cons (pe_op (op_addK (K := K) rfl) (pv 3) pe_int) pa_nil)) (pg_name (i := 9) nd rfl (.inr rfl)) (pss_cons (ps_asg pe_non (pg_name (i := 10) nd rfl (.inl rfl))) (pss_cons (ps_if (pt_cmpR op_le (pv 9) (pv 3) (nomark _)) (pss_cons (ps_asg (pe_callTy (call_tupleK (K := K) rfl) (by rfl) Z.tuple_ boot_tuple (pa_cons (pe_lc (own := [("low", 12), ("high", 13)]) (g := gTup K 2 (gCons (gName 12) (gCons (gName 13) gNil))) (tt := tYes) rfl nd (pi_list (pv 5)) (blkOk_by (N := N__law_groups) (sc := defScope s__law_groups) (by decide +kernel)) (fun _ _ _ _ _ => (pg_tup (n := 2) rfl (pgs_cons (pg_name (i := 12) nd rfl (.inl rfl)) (pgs_cons (pg_name (i := 13) nd rfl (.inl rfl)) pgs_nil)))) (fun _ _ _ _ _ => pts_nil) (fun _ _ _ _ _ => (pe_ix (ix_seqK (K := K) rfl) (pv 4) (pe_op (op_addK (K := K) rfl) (pv 9) (pv 12)) (fun _ _ => rfl)))) pa_nil)) (pg_name (i := 10) nd rfl (.inl rfl))) (pss_one (ps_if (pt_cmpR (op_neK (K := K) rfl hu) (pv 10) (pe_callTy (call_tupleK (K := K) rfl) (by rfl) Z.tuple_ boot_tuple (pa_cons (pe_lc (own := [("low", 12), ("high", 13)]) (g := gTup K 2 (gCons (gName 12) (gCons (gName 13) gNil))) (tt := tYes) rfl nd (pi_list (pv 5)) (blkOk_by (N := N__law_groups) (sc := defScope s__law_groups) (by decide +kernel)) (fun _ _ _ _ _ => (pg_tup (n := 2) rfl (pgs_cons (pg_name (i := 12) nd rfl (.inl rfl)) (pgs_cons (pg_name (i := 13) nd rfl (.inl rfl)) pgs_nil)))) (fun _ _ _ _ _ => pts_nil) (fun _ _ _ _ _ => (pe_ix (ix_seqK (K := K) rfl) (pv 4) (pe_op (op_addK (K := K) rfl) (pv 9) (pv 13)) (fun _ _ => rfl)))) pa_nil)) (nomark _)) (pss_one (ps_asg pe_non (pg_name (i := 10) nd rfl (.inl rfl)))) pss_nil))) pss_nil) (pss_one (ps_if (pt_cmpR (op_neK (K := K) rfl hu) (pv 10) (pv 8) (nomark _)) (pss_cons (ps_if (pt_cmpR op_notN (pv 8) pe_non (nomark _)) (pss_one (ps_asg (pe_op op_or (pe_dget2 (hu_of hr) (pv 6) (pv 8) pe_int ⟨rfl, rfl, rfl, rfl⟩) (pe_callC c__law_bits (hr.mono (by decide)) (by rfl) (pa_cons (pv 7) (pa_cons (pe_op op_sub (pv 9) pe_int) pa_nil)))) (pg_sub (pv 6) (pv 8) (set_dict (hu_of hr))))) pss_nil) (pss_cons (ps_asg (pv 9) (pg_name (i := 7) nd rfl (.inl rfl))) (pss_one (ps_asg (pv 10) (pg_name (i := 8) nd rfl (.inl rfl)))))) pss_nil))))) (pss_one (ps_ret (pe_frz (pv 6))))))))), fn_run h ?_⟩
  intro xs st Φ hl hp
  clear hl h hu hr nd
  try dsimp only [L2.cxOf, NdefX.ncx]
  obtain ⟨p, t, ms, rfl, ⟨ht, sn⟩, s0, ok, sec, hml, hms, hcl, q⟩ := hp
  have htop := top_nn s0 sec
  have hce := ceil_ge s0 sec ht
  have hcm := ceil_mono sec (p.ss.length - t) t (by omega)
  rw [show t + (p.ss.length - t) = p.ss.length by omega] at hcm
  refine ws_sA (we_lcL (gw_name (by simp)) ?_)
  walk_at "s"
  refine ⟨by rw [List.length_map]; exact big_lt (by omega), fun d => match d with | .int j => some (sumD p t j.toNat) | _ => none, ?_, ?_⟩
  · intro i d acc hd
    obtain ⟨j, hj, rfl⟩ := List.mem_map.mp (List.mem_of_getElem? hd)
    obtain ⟨j1, j2⟩ := hms j hj
    walk_at "s"
    refine ⟨fun _ => ?_, fun h => (by cases h)⟩
    walk_at "s"
    exact ⟨by rfl, p.ss, t, j, rfl, j1, j2, by omega, _, _, rfl, take_snoc, rfl⟩
  rw [mark_filt ms (fun d => match d with | .int j => some (sumD p t j.toNat) | _ => none) (sumD p t) fun j => rfl]
  refine wg_nm ?_
  refine ws_sA (we_dnew (wg_nm ?_))
  walk_at "s"
  obtain ⟨R, hR⟩ : ∃ R : Int → Option (List Int), ∀ x, R x = if x ≤ (ceilsQ p).getD t 0 then rowQ p.ru (sumLow p.ss t) (sumHigh p.ss t) ms x else none := ⟨_, fun x => rfl⟩
  have hceil : 0 ≤ (ceilsQ p).getD t 0 := by omega
  refine ws_seq (ws_forR1 ?_)
  walk_at "s"
  refine ⟨by omega, by omega, fun i ss' st' => ∃ (kvs : List (List Int × PyData)) (bg : Int) (o : Option (List Int)) (y9 y10 : Option Val), ss' = [some (.pd (worldQ p)), vI t, some (.pd (marksD ms)), vI ((ceilsQ p).getD t 0), some (.pd (cellsD p)), vL (ms.map (sumD p t)), some (.cell st.length), vI bg, some (rowV o), y9, y10, none, none, none] ∧
    st' = st ++ [.dt kvs] ∧ GrpI R i kvs bg o, ⟨[], 0, none, _, _, rfl, rfl, GrpI.init⟩, ?_, ?_⟩
  · rintro i ss' st' hi ⟨kvs, bg, o, y9, y10, rfl, rfl, hI⟩
    rw [Int.zero_add]
    refine wg_nm ?_
    walk_at "s"
    have hlh := fun j (hj : j ∈ ms) => sum_lh sec t j
    have hcs := fun j (hj : j ∈ ms) => ceil_sum sec (hms j hj).1 (hms j hj).2
    refine ws_mid (fun ss' st' => ss' = [some (.pd (worldQ p)), vI t, some (.pd (marksD ms)), vI ((ceilsQ p).getD t 0), some (.pd (cellsD p)), vL (ms.map (sumD p t)), some (.cell st.length), vI bg, some (rowV o), vI i, some (rowV (R i)), none, none, none] ∧ st' = st ++ [.dt kvs]) ?_ ?_
    · refine ws_if ?_
      walk_at "s"
      refine ⟨fun h => ?_, fun h => ?_⟩
      · have h := of_decide_eq_true h
        rw [hR, if_pos h]
        refine ws_sA (we_cb (wa_cons (we_lcL (gw_tup (gw_cons gm_name (gm_cons gm_name gm_nil) (gw_name (by simp)) (gw_cons gm_name gm_nil (gw_name (by simp)) gw_nil))) ?_)))
        walk_at "s"
        refine ⟨by rw [List.length_map]; exact big_lt (by omega), fun d => match d with | .tuple [.int lo, .int hi] => some (.int (cellQ p.ru ((i : Int) + lo))) | _ => none, ?_, ?_⟩
        · intro k d acc hd
          obtain ⟨j, hj, rfl⟩ := List.mem_map.mp (List.mem_of_getElem? hd)
          have l1 := hlh j hj
          have l2 := hcs j hj
          unfold sumD
          walk_at "s"
          refine ⟨fun _ => ?_, fun h => (by cases h)⟩
          walk_at "s"
          refine wr_ixuL rfl (cells_at (p := p) (by omega) (by omega)) ?_
          exact ⟨_, _, rfl, take_snoc, rfl⟩
        rw [sum_filt p t ms _ (fun j => cellQ p.ru ((i : Int) + sumLow p.ss t j)) fun j => rfl]
        refine wa_nil (wc_tupO rfl (wg_nm ?_))
        refine ws_if (wt_test (we_op (we_var rfl (we_cb (wa_cons (we_lcL (gw_tup (gw_cons gm_name (gm_cons gm_name gm_nil) (gw_name (by simp)) (gw_cons gm_name gm_nil (gw_name (by simp)) gw_nil))) ?_))))))
        walk_at "s"
        refine ⟨by rw [List.length_map]; exact big_lt (by omega), fun d => match d with | .tuple [.int lo, .int hi] => some (.int (cellQ p.ru ((i : Int) + hi))) | _ => none, ?_, ?_⟩
        · intro k d acc hd
          obtain ⟨j, hj, rfl⟩ := List.mem_map.mp (List.mem_of_getElem? hd)
          have l1 := hlh j hj
          have l2 := hcs j hj
          unfold sumD
          walk_at "s"
          refine ⟨fun _ => ?_, fun h => (by cases h)⟩
          walk_at "s"
          refine wr_ixuL rfl (cells_at (p := p) (by omega) (by omega)) ?_
          exact ⟨_, _, rfl, take_snoc, rfl⟩
        rw [sum_filt p t ms _ (fun j => cellQ p.ru ((i : Int) + sumHigh p.ss t j)) fun j => rfl]
        refine wa_nil (wc_tupO rfl ?_)
        refine wr_rowNe (a := some _) (b := some _) ⟨_, rfl, fun h2 => ?_, fun h2 => ?_⟩
        · have h2 : ¬ (ms.map fun j => cellQ p.ru ((i : Int) + sumLow p.ss t j)) = ms.map fun j => cellQ p.ru ((i : Int) + sumHigh p.ss t j) := by simpa using h2
          unfold rowQ
          rw [if_neg h2]
          walk_at "s"
          exact ⟨rfl, rfl⟩
        · have h2 : (ms.map fun j => cellQ p.ru ((i : Int) + sumLow p.ss t j)) = ms.map fun j => cellQ p.ru ((i : Int) + sumHigh p.ss t j) := by simpa using h2
          unfold rowQ
          rw [if_pos h2]
          walk_at "s"
          exact ⟨rfl, rfl⟩
      · have h := of_decide_eq_false h
        rw [hR, if_neg h]
        walk_at "s"
        exact ⟨rfl, rfl⟩
    · rintro ss' st' ⟨rfl, rfl⟩
      refine ws_if (wt_test (we_op (we_var rfl (we_var rfl (wr_rowNe ⟨_, rfl, fun h => ?_, fun h => ?_⟩)))))
      · have h : ¬ R i = o := by simpa using h
        refine ws_mid (fun ss' st' => ∃ kvs', GrpI R (i + 1) kvs' i (R i) ∧ ss' = [some (.pd (worldQ p)), vI t, some (.pd (marksD ms)), vI ((ceilsQ p).getD t 0), some (.pd (cellsD p)), vL (ms.map (sumD p t)), some (.cell st.length), vI bg, some (rowV o), vI i, some (rowV (R i)), none, none, none] ∧ st' = st ++ [.dt kvs']) ?_ ?_
        · refine ws_if (wt_test (we_op (we_var rfl (we_c rfl (wr_rowNot ⟨_, rfl, fun h2 => ?_, fun h2 => ?_⟩)))))
          · cases o with
            | none => cases h2
            | some ks =>
              obtain ⟨n, hn⟩ := nv_get hI.nv ks
              have b0 := hI.b0
              have b1 := hI.b1
              refine ws_asg (we_op (we_dget2 (we_var rfl ⟨.cell get_end, we_var rfl ⟨rfl, we_c rfl ⟨rfl, .cell get_end, ?_⟩⟩⟩)))
              rw [hn]
              refine we_call ?_
              walk_at "s"
              refine ⟨by rfl, _, _, rfl, b0, by omega, by omega, ?_⟩
              walk_at "s"
              rw [bor_nat]
              refine wg_sub (we_var rfl (we_var rfl (wx_dict get_end (big_lt (by have := hI.len; omega)) ?_)))
              rw [set_end]
              exact ⟨_, hI.flush hn, rfl, rfl⟩
          · cases o with
            | none =>
              walk_at "s"
              exact ⟨kvs, hI.skip, rfl, rfl⟩
            | some ks => cases h2
        · rintro ss' st' ⟨kvs', hI', rfl, rfl⟩
          walk_at "s"
          exact ⟨kvs', _, _, _, _, rfl, rfl, hI'⟩
      · have h : R i = o := by simpa using h
        walk_at "s"
        exact ⟨kvs, bg, o, _, _, rfl, rfl, hI.same h⟩
  · rintro ss' st' ⟨kvs, bg, o, y9, y10, rfl, rfl, hI⟩
    have hd := GrpI.done hceil hI fun x hx => by rw [hR, if_neg (by omega)]
    refine ws_ret (we_dfrz (we_var rfl ⟨_, kvs, rfl, get_end, ?_⟩))
    refine fin_ob (by simp) (q kvs hI.nv fun ks x => ?_)
    rw [hd, hR]
    constructor
    · rintro ⟨x0, hr⟩
      by_cases hx : x ≤ (ceilsQ p).getD t 0
      · rw [if_pos hx] at hr
        exact ⟨x0, hx, hr⟩
      · rw [if_neg hx] at hr
        cases hr
    · rintro ⟨x0, hx, hr⟩
      exact ⟨x0, by rw [if_pos hx]; exact hr⟩
/-! ### _law_wide_sets -/
abbrev N__law_wide_sets : List Str := ["world", "ceilings", "cells", "many", "sets", "t", "marks", "before", "after", "bits", "row"]
theorem sc__law_wide_sets : FnScope N__law_wide_sets ["world"] (defScope s__law_wide_sets) := ⟨rfl, rfl, rfl, by decide +kernel, rfl, by decide +kernel, by decide +kernel⟩
theorem ok__law_wide_sets (c__law_pulled : Cal P w K mg base 1 "_law_pulled" ["bits", "section"] (spP K T 2 pre__law_pulled)) (c__law_groups : Cal P w K mg base 2 "_law_groups" ["world", "t", "marks", "ceiling", "cells"] (spP K T 5 (pre__law_groups K))) (c__law_open : Cal P w K mg base 2 "_law_open" ["world", "t"] (spP K T 2 pre__law_open)) (c__law_bits : Cal P w K mg base 1 "_law_bits" ["first", "last"] (spP K T 2 pre__law_bits)) (c__law_cells : Cal P w K mg base 3 "_law_cells" ["world"] (spP K T 1 pre__law_cells)) (c__law_ceilings : Cal P w K mg base 2 "_law_ceilings" ["world"] (spP K T 1 pre__law_ceilings)) (Z : Zs mg) (dd : Df K mg "_law_wide_sets" s__law_wide_sets) : Cal P w K mg base 4 "_law_wide_sets" ["world"] (spP K T 1 pre__law_wide_sets) := by
  refine dd.cal (fun f fd F => F.ok sc__law_wide_sets (fun vs H Q E h => spP_len h) fun cdv A outer s H vs Q E hr h => ?_) (fun _ _ _ _ _ _ us hl => match us, hl with | [_], _ => rfl)
  have nd := sc__law_wide_sets.nd
  have hu := room_u hr
  refine ⟨_, (pss_cons (ps_asg (pe_callC c__law_ceilings (hr.mono (by decide)) (by rfl) (pa_cons (pv 0) pa_nil)) (pg_name (i := 1) nd rfl (.inl rfl))) (pss_cons (ps_asg (pe_callC c__law_cells (hr.mono (by decide)) (by rfl) (pa_cons (pv 0) pa_nil)) (pg_name (i := 2) nd rfl (.inl rfl))) (pss_cons (ps_asg (pe_callB (call_lenK (K := K) rfl) (by rfl) Z.len PySem.boot_len (pa_cons (pe_ix (ix_seqK (K := K) rfl) (pv 0) pe_int (fun _ _ => rfl)) pa_nil)) (pg_name (i := 3) nd rfl (.inl rfl))) (pss_cons (ps_asg (pe_lst (pa_cons (pe_callC c__law_bits (hr.mono (by decide)) (by rfl) (pa_cons pe_int (pa_cons (pe_ix (ix_seqK (K := K) rfl) (pv 1) (pv 3) (fun _ _ => rfl)) pa_nil))) pa_nil)) (pg_name (i := 4) nd rfl (.inl rfl))) (pss_cons (ps_for PassesOwn.never rfl (pi_range3 rfl Z.range_ (pa_cons (pv 3) (pa_cons pe_int (pa_cons (pe_un un_neg pe_int) pa_nil)))) (pg_name (i := 5) nd rfl (.inl rfl)) (pss_cons (ps_asg (pe_callC c__law_open (hr.mono (by decide)) (by rfl) (pa_cons (pv 0) (pa_cons (pe_op op_sub (pv 5) pe_int) pa_nil))) (pg_name (i := 6) nd rfl (.inl rfl))) (pss_cons (ps_asg (pe_callC c__law_groups (hr.mono (by decide)) (by rfl) (pa_cons (pv 0) (pa_cons (pe_op op_sub (pv 5) pe_int) (pa_cons (pv 6) (pa_cons (pe_ix (ix_seqK (K := K) rfl) (pv 1) (pe_op op_sub (pv 5) pe_int) (fun _ _ => rfl)) (pa_cons (pv 2) pa_nil)))))) (pg_name (i := 7) nd rfl (.inl rfl))) (pss_cons (ps_asg (pe_callC c__law_groups (hr.mono (by decide)) (by rfl) (pa_cons (pv 0) (pa_cons (pv 5) (pa_cons (pv 6) (pa_cons (pe_ix (ix_seqK (K := K) rfl) (pv 1) (pv 5) (fun _ _ => rfl)) (pa_cons (pv 2) pa_nil)))))) (pg_name (i := 8) nd rfl (.inl rfl))) (pss_cons (ps_asg pe_int (pg_name (i := 9) nd rfl (.inl rfl))) (pss_cons (ps_for PassesOwn.never rfl (pi_keys (pv 7)) (pg_name (i := 10) nd rfl (.inl rfl)) (pss_one (ps_asg (pe_op op_or (pv 9) (pe_op op_and (pe_dget (hu_of hr) (pv 7) (pv 10) (fun _ _ => rfl)) (pe_callC c__law_pulled (hr.mono (by decide)) (by rfl) (pa_cons (pe_op op_and (pe_dget2 (hu_of hr) (pv 8) (pv 10) pe_int ⟨rfl, rfl, rfl, rfl⟩) (pe_ix (ix_seqK (K := K) rfl) (pv 4) pe_int (fun _ _ => rfl))) (pa_cons (pe_ix (ix_seqK (K := K) rfl) (pe_ix (ix_seqK (K := K) rfl) (pv 0) pe_int (fun _ _ => rfl)) (pe_op op_sub (pv 5) pe_int) (fun _ _ => rfl)) pa_nil))))) (pg_name (i := 9) nd rfl (.inl rfl))))) (pss_one (ps_asg (pe_op (op_addK (K := K) rfl) (pe_lst (pa_cons (pv 9) pa_nil)) (pv 4)) (pg_name (i := 4) nd rfl (.inl rfl)))))))))) (pss_one (ps_ret (pv 4)))))))), fn_run h ?_⟩
  intro xs st Φ hl hp
  clear hl h hu hr nd
  try dsimp only [L2.cxOf, NdefX.ncx]
  obtain ⟨p, rfl, sn, s0, ok, sec, ⟨hs, hl⟩, hcl, q⟩ := hp
  have htop := top_nn s0 sec
  have hcN := ceil_ge s0 sec (Nat.le_refl p.ss.length)
  refine ws_sA (we_call (wa_cons (we_var rfl (wa_nil ⟨by rfl, p, rfl, sn, wg_nm ?_⟩))))
  refine ws_sA (we_call (wa_cons (we_var rfl (wa_nil ⟨by rfl, p, rfl, sn, ok, ⟨by omega, hcl⟩, wg_nm ?_⟩))))
  walk_at "s"
  rw [List.length_map]
  refine wr_ixuL rfl (ceil_D p (Nat.le_refl _)) ?_
  walk_at "s"
  refine ⟨by rfl, _, _, rfl, Int.le_refl _, by omega, by omega, ?_⟩
  walk_at "s"
  refine ws_seq (ws_forR3d ?_)
  walk_at "s"
  refine ⟨_, _, rfl, ⟨by omega, by omega, by omega, by omega⟩, fun i ss' st' => st' = st ∧ ∃ (ns : List Nat) (y5 y6 y7 y8 y9 y10 : Option Val), ss' = [some (.pd (worldQ p)), vL ((ceilsQ p).map PyData.int), some (.pd (cellsD p)), vI p.ss.length, vL (ns.map fun n : Nat => PyData.int (n : Int)), y5, y6, y7, y8, y9, y10] ∧
    i ≤ p.ss.length ∧ ns.length = i + 1 ∧ ∀ k, k ≤ i → ∃ n, ns[k]? = some n ∧ SetB p (p.ss.length - i + k) n, ⟨rfl, [_], _, _, _, _, _, _, rfl, Nat.zero_le _, rfl, ?_⟩, ?_, ?_⟩
  · intro k hk
    obtain rfl : k = 0 := by omega
    exact ⟨_, rfl, setB_last s0 sec⟩
  · rintro i ss' st' hi0 ⟨rfl, ns, y5, y6, y7, y8, y9, y10, rfl, hil, hnl, hns⟩
    obtain ⟨u, hu⟩ : ∃ u, p.ss.length - i = u + 1 := ⟨p.ss.length - i - 1, by omega⟩
    have et : (p.ss.length : Int) + (i : Int) * (-1) = ((u + 1 : Nat) : Int) := by omega
    have et2 : ((u + 1 : Nat) : Int) - 1 = (u : Int) := by omega
    obtain ⟨⟨a, b, c⟩, hsu⟩ : ∃ s, p.ss[u]? = some s := ⟨_, List.getElem?_eq_getElem (by omega)⟩
    have hso := sec _ (List.mem_of_getElem? hsu)
    have hol : (openQ p u).length ≤ 60 := by
      unfold openQ
      refine Nat.le_trans (List.length_filter_le _ _) ?_
      simp
      omega
    have hom : ∀ j ∈ openQ p u, u + 1 ≤ j ∧ j ≤ p.ss.length := fun j hj => open_mem hj
    obtain ⟨n0, hn0, hB0⟩ := hns 0 (Nat.zero_le _)
    rw [hu] at hB0
    rw [et]
    refine wg_nm ?_
    refine ws_sA (we_call ?_)
    walk_at "s"
    rw [et2]
    refine ⟨by rfl, p, u, rfl, hs, hl, by omega, sn, wg_nm ?_⟩
    refine ws_sA (we_call ?_)
    walk_at "s"
    rw [et2]
    refine wr_ixuL rfl (ceil_D p (t := u) (by omega)) ?_
    walk_at "s"
    refine ⟨by rfl, p, u, openQ p u, rfl, ⟨by omega, sn⟩, s0, ok, sec, hol, fun j hj => ⟨by have := hom j hj; omega, (hom j hj).2⟩, hcl, fun kb nvb hkb => wg_nm ?_⟩
    refine ws_sA (we_call ?_)
    walk_at "s"
    refine wr_ixuL rfl (ceil_D p (t := u + 1) (by omega)) ?_
    walk_at "s"
    refine ⟨by rfl, p, u + 1, openQ p u, rfl, ⟨by omega, sn⟩, s0, ok, sec, hol, hom, hcl, fun ka nva hka => wg_nm ?_⟩
    refine ws_sA (we_c rfl (wg_nm ?_))
    refine ws_seq (ws_forK (we_var rfl ⟨kb, rfl, fun k ss' st'' => st'' = st' ∧ ∃ (n : Nat) (y10 : Option Val), ss' = [some (.pd (worldQ p)), vL ((ceilsQ p).map PyData.int), some (.pd (cellsD p)), vI p.ss.length, vL (ns.map fun n : Nat => PyData.int (n : Int)), vI ((u + 1 : Nat) : Int), some (.pd (marksD (openQ p u))), some (.ob (dicO K kb)), some (.ob (dicO K ka)), vI (n : Int), y10] ∧
      Gat a b c kb ka n0 k n, ⟨rfl, 0, _, rfl, gat_zero⟩, ?_, ?_⟩))
    · rintro k ks d ss' st'' hk ⟨rfl, n, y10, rfl, hg⟩
      obtain ⟨e, he⟩ := mem_valL hk
      obtain ⟨nb, rfl⟩ := nvb ks e he
      obtain ⟨na, hna⟩ := nv_get nva ks
      refine wg_nm ?_
      refine ws_asg (we_op (we_var rfl (we_op (we_dget (we_var rfl (we_var rfl ⟨.ob, rfl, he, ?_⟩))))))
      refine we_call (wa_cons (we_op (we_dget2 (we_var rfl ⟨.ob, we_var rfl ⟨rfl, we_c rfl ⟨rfl, .ob, ?_⟩⟩⟩))))
      rw [hna]
      walk_at "s"
      refine wr_ixuL rfl (d := .int (n0 : Int)) (atI_nat (j := 0) (by rw [List.getElem?_map, hn0]; rfl)) ?_
      walk_at "s"
      rw [et2]
      refine wr_ixuL rfl (d := secD (a, b, c)) (atI_nat (by rw [List.getElem?_map, hsu]; rfl)) ?_
      walk_at "s"
      refine ⟨by rfl, na &&& n0, a, b, c, by rw [band_nat], hso, fun m hm => ?_⟩
      walk_at "s"
      rw [band_nat, bor_nat]
      refine ⟨rfl, _, _, rfl, fun x => ?_⟩
      have ea : ∀ y, inK ka ks y ↔ bitS na y := fun y => inK_getD hna y
      have eb : ∀ y, inK kb ks y ↔ bitS nb y := fun y => inK_getD (by rw [he]; rfl) y
      rw [bitS_or, bitS_and, hg, hm]
      constructor
      · rintro (⟨k', ks', d', k1, k2, k3⟩ | ⟨h1, x0, h2⟩)
        · exact ⟨k', ks', d', by omega, k2, k3⟩
        · exact ⟨k, ks, d, Nat.lt_succ_self _, hk, (eb x).mpr h1, x0, h2.congr fun y hy => ⟨(ea y).mpr (bitS_and.mp hy).1, (bitS_and.mp hy).2⟩⟩
      · rintro ⟨k', ks', d', k1, k2, k3, x0, k4⟩
        by_cases e : k' = k
        · subst e
          rw [hk] at k2
          cases k2
          exact .inr ⟨(eb x).mp k3, x0, k4.congr fun y hy => bitS_and.mpr ⟨(ea y).mp hy.1, hy.2⟩⟩
        · exact .inl ⟨k', ks', d', by omega, k2, k3, x0, k4⟩
    · rintro ss' st'' ⟨rfl, n, y10, rfl, hg⟩
      have hB := gat_done ok sec hsu hkb hka hB0 hg
      refine ws_asg (we_op (we_lst (wa_cons (we_var rfl (wa_nil ⟨_, _, purs_cons purs_nil, big_le (by simp), we_var rfl (wr_addL rfl rfl (by rw [List.length_map]; exact big_le (by simp; omega)) (wg_nm ?_))⟩)))))
      refine ⟨rfl, n :: ns, _, _, _, _, _, _, rfl, by omega, by rw [List.length_cons, hnl], fun k hk => ?_⟩
      cases k with
      | zero => exact ⟨n, rfl, by rw [show p.ss.length - (i + 1) + 0 = u by omega]; exact hB⟩
      | succ k =>
        obtain ⟨n', h1, h2⟩ := hns k (by omega)
        exact ⟨n', h1, by rw [show p.ss.length - (i + 1) + (k + 1) = p.ss.length - i + k by omega]; exact h2⟩
  · rintro ss' st' ⟨rfl, ns, y5, y6, y7, y8, y9, y10, rfl, hil, hnl, hns⟩
    walk_at "s"
    refine fin_pd (by simp) (q ns (by omega) fun t ht => ?_)
    obtain ⟨n, h1, h2⟩ := hns t (by omega)
    exact ⟨n, h1, by rw [show p.ss.length - ((p.ss.length : Int) - 0).toNat + t = t by omega] at h2; exact h2⟩
/-! ### _law_plan_sets -/
abbrev N__law_plan_sets : List Str := ["world", "whole", "bits"]
theorem sc__law_plan_sets : FnScope N__law_plan_sets ["world"] (defScope s__law_plan_sets) := ⟨rfl, rfl, rfl, by decide +kernel, rfl, by decide +kernel, by decide +kernel⟩
theorem ok__law_plan_sets (c__law_wide_sets : Cal P w K mg base 4 "_law_wide_sets" ["world"] (spP K T 1 pre__law_wide_sets)) (c__law_bits : Cal P w K mg base 1 "_law_bits" ["first", "last"] (spP K T 2 pre__law_bits)) (c__law_plan_top : Cal P w K mg base 1 "_law_plan_top" ["world"] (spP K T 1 pre__law_plan_top)) (dd : Df K mg "_law_plan_sets" s__law_plan_sets) : Cal P w K mg base 5 "_law_plan_sets" ["world"] (spP K T 1 pre__law_plan_sets) := by
  refine dd.cal (fun f fd F => F.ok sc__law_plan_sets (fun vs H Q E h => spP_len h) fun cdv A outer s H vs Q E hr h => ?_) (fun _ _ _ _ _ _ us hl => match us, hl with | [_], _ => rfl)
  have nd := sc__law_plan_sets.nd
  have hu := room_u hr
  refine ⟨_, (pss_cons (ps_asg (pe_callC c__law_bits (hr.mono (by decide)) (by rfl) (pa_cons pe_int (pa_cons (pe_callC c__law_plan_top (hr.mono (by decide)) (by rfl) (pa_cons (pv 0) pa_nil)) pa_nil))) (pg_name (i := 1) nd rfl (.inr rfl))) (pss_one (ps_ret (pe_lc (own := [("bits", 2)]) (g := gName 2) (tt := tYes) rfl nd (pi_list (pe_callC c__law_wide_sets (hr.mono (by decide)) (by rfl) (pa_cons (pv 0) pa_nil))) (blkOk_by (N := N__law_plan_sets) (sc := defScope s__law_plan_sets) (by decide +kernel)) (fun _ _ _ _ _ => (pg_name (i := 2) nd rfl (.inl rfl))) (fun _ _ _ _ _ => pts_nil) (fun _ _ _ _ _ => (pe_op op_and (pv 2) (pv 1))))))), fn_run h ?_⟩
  intro xs st Φ hl hp
  clear hl h hu hr nd
  try dsimp only [L2.cxOf, NdefX.ncx]
  obtain ⟨p, rfl, sn, s0, ok, sec, hts, hcl, q⟩ := hp
  have htop := top_nn s0 sec
  have hcN := ceil_ge s0 sec (Nat.le_refl p.ss.length)
  refine ws_sA (we_call (wa_cons (we_c rfl (wa_cons (we_call (wa_cons (we_var rfl (wa_nil ⟨by rfl, p, rfl, sn, wa_nil ?_⟩))))))))
  refine ⟨by rfl, _, _, rfl, Int.le_refl _, by omega, by omega, wg_nm ?_⟩
  refine ws_ret (we_lcL (gw_name (by simp)) (we_call (wa_cons (we_var rfl (wa_nil ⟨by rfl, p, rfl, sn, s0, ok, sec, hts, hcl, fun ns hnl hns => ?_⟩)))))
  refine ⟨_, rfl, by rw [List.length_map]; exact big_lt (by omega), natF fun n => n &&& bitsN 0 (topQ p), ?_, ?_⟩
  · intro i d acc hd
    obtain ⟨n, hn, rfl⟩ := nat_at hd
    walk_at "s"
    refine ⟨fun _ => ?_, fun h => (by cases h)⟩
    walk_at "s"
    exact ⟨_, _, rfl, take_snoc, by rw [band_nat]; rfl⟩
  · rw [natF_map]
    refine fin_pd (by simp) (q _ (by rw [List.length_map, hnl]) fun t ht => ?_)
    obtain ⟨n, h1, h2⟩ := hns t ht
    refine ⟨_, by rw [List.getElem?_map, h1]; rfl, fun x => ?_⟩
    rw [bitS_and, bitS_bits (Int.le_refl _), h2]
    have hc := ceil_ge s0 sec ht
    constructor
    · rintro ⟨⟨h1, h2⟩, h3, h4⟩
      exact ⟨h1, h4⟩
    · rintro ⟨h1, h2⟩
      exact ⟨⟨h1, by omega⟩, Dn_nn h1, h2⟩
/-! ### _law_arcs_of -/
abbrev N__law_arcs_of : List Str := ["bits", "found", "begin", "line", "held"]
theorem sc__law_arcs_of : FnScope N__law_arcs_of ["bits"] (defScope s__law_arcs_of) := ⟨rfl, rfl, rfl, by decide +kernel, rfl, by decide +kernel, by decide +kernel⟩
theorem ok__law_arcs_of (Z : Zs mg) (dd : Df K mg "_law_arcs_of" s__law_arcs_of) : Cal P w K mg base 1 "_law_arcs_of" ["bits"] (spP K T 1 pre__law_arcs_of) := by
  refine dd.cal (fun f fd F => F.ok sc__law_arcs_of (fun vs H Q E h => spP_len h) fun cdv A outer s H vs Q E hr h => ?_) (fun _ _ _ _ _ _ us hl => match us, hl with | [_], _ => rfl)
  have nd := sc__law_arcs_of.nd
  have hu := room_u hr
  refine ⟨_, (pss_cons (ps_asg (pe_lst pa_nil) (pg_name (i := 1) nd rfl (.inl rfl))) (pss_cons (ps_asg pe_non (pg_name (i := 2) nd rfl (.inl rfl))) (pss_cons (ps_for PassesOwn.never rfl (pi_range1 rfl Z.range_ (pa_cons (pe_op (op_addK (K := K) rfl) (pe_bits (pv 0)) pe_int) pa_nil)) (pg_name (i := 3) nd rfl (.inl rfl)) (pss_cons (ps_asg (pe_cmpR (op_eqK (K := K) rfl hu) (pe_op op_and (pe_op op_shr (pv 0) (pv 3)) pe_int) pe_int (nomark _)) (pg_name (i := 4) nd rfl (.inl rfl))) (pss_cons (ps_if (PW.pt (pw_and (pt_val (pv 4)) (pw_and1 (pt_cmpR op_isN (pv 2) pe_non (nomark _))))) (pss_one (ps_asg (pv 3) (pg_name (i := 2) nd rfl (.inl rfl)))) pss_nil) (pss_one (ps_if (PW.pt (pw_and (pt_not (pt_val (pv 4))) (pw_and1 (pt_cmpR op_notN (pv 2) pe_non (nomark _))))) (pss_cons (ps_expr (pe_bm PySem.F.plainAttrs_list PySem.F.slot_list_append PySem.F.type_list_append mt_append (pv 1) (pa_cons (pe_tup (pa_cons (pv 2) (pa_cons (pe_op op_sub (pv 3) pe_int) pa_nil))) pa_nil))) (pss_one (ps_asg pe_non (pg_name (i := 2) nd rfl (.inl rfl))))) pss_nil))))) (pss_one (ps_ret (pv 1)))))), fn_run h ?_⟩
  intro xs st Φ hl hp
  clear hl h hu hr nd
  try dsimp only [L2.cxOf, NdefX.ncx]
  obtain ⟨n, rfl, hn, q⟩ := hp
  have hbl := bits_le hn
  walk_at "c"
  walk_at "s"
  refine ws_seq (ws_forR1 (wa_cons (we_op (we_bits (we_var rfl ⟨_, rfl, ?_⟩)))))
  walk_at "s"
  refine ⟨by omega, by omega, fun i ss' st' => ∃ (F : List Seg) (b : Option Int) (y3 y4 : Option Val), ss' = [vI n, some (.cell st.length), some (.pd (oB b)), y3, y4] ∧ st' = st ++ [.mu (F.map pairT)] ∧ ArcI n i F b, ⟨[], none, _, _, rfl, rfl, ArcI.init⟩, ?_, ?_⟩
  · rintro i ss' st' hi ⟨F, b, y3, y4, rfl, rfl, hI⟩
    have hFl := hI.len
    rw [Int.zero_add]
    refine wg_nm ?_
    refine ws_seq (ws_asg (we_op (we_op (we_op (we_var rfl (we_var rfl (wr_shr (Int.natCast_nonneg _) (we_c rfl (wr_band (we_c rfl (wr_eqInt ?_)))))))))))
    obtain ⟨hb, he, hbt⟩ : ∃ hb : Bool, decide (Builtin.bitAnd ((n : Int) / 2 ^ (i : Int).toNat) 1 = 1) = hb ∧ (hb = true ↔ bitS n i) := ⟨_, rfl, by rw [decide_eq_true_iff]; exact bit_test n (Int.natCast_nonneg _)⟩
    rw [he]
    refine wg_nm ?_
    cases b with
    | none =>
      refine ws_mid (fun ss' st' => ss' = [vI n, some (.cell st.length), some (.pd (oB (if hb = true then some (i : Int) else none))), vI i, some (.pd (.bool hb))] ∧ st' = st ++ [.mu (F.map pairT)]) ?_ ?_
      · walk_at "s"
        refine ⟨fun h => ?_, fun h => ?_⟩
        · subst h
          walk_at "s"
          refine ⟨fun _ => ?_, fun h => (by cases h)⟩
          walk_at "s"
          exact ⟨rfl, rfl⟩
        · subst h
          exact ⟨fun h => (by cases h), fun _ => ws_next ⟨rfl, rfl⟩⟩
      · rintro ss' st' ⟨rfl, rfl⟩
        walk_at "s"
        refine ⟨fun h => ?_, fun h => ?_⟩
        · have h : hb = false := by simpa using h
          subst h
          have hb' : ¬ bitS n i := fun z => by cases hbt.mpr z
          walk_at "s"
          refine ⟨fun h => (by cases h), fun _ => ?_⟩
          walk_at "s"
          exact ⟨F, none, _, _, rfl, rfl, hI.stay hb'⟩
        · have h : hb = true := by simpa using h
          subst h
          exact ⟨fun h => (by cases h), fun _ => ws_next ⟨F, some (i : Int), _, _, rfl, rfl, hI.on (hbt.mp rfl)⟩⟩
    | some f =>
      refine ws_mid (fun ss' st' => ss' = [vI n, some (.cell st.length), vI f, vI i, some (.pd (.bool hb))] ∧ st' = st ++ [.mu (F.map pairT)]) ?_ ?_
      · dsimp only [oB]
        walk_at "s"
        refine ⟨fun h => ?_, fun h => ?_⟩
        · subst h
          walk_at "s"
          refine ⟨fun h => (by cases h), fun _ => ?_⟩
          walk_at "s"
          exact ⟨rfl, rfl⟩
        · subst h
          exact ⟨fun h => (by cases h), fun _ => ws_next ⟨rfl, rfl⟩⟩
      · rintro ss' st' ⟨rfl, rfl⟩
        walk_at "s"
        refine ⟨fun h => ?_, fun h => ?_⟩
        · have h : hb = false := by simpa using h
          subst h
          have hb' : ¬ bitS n i := fun z => by cases hbt.mpr z
          walk_at "s"
          refine ⟨fun _ => ?_, fun h => (by cases h)⟩
          walk_at "s"
          exact ⟨_, none, _, _, rfl, by rw [← snoc_seg], hI.off hb'⟩
        · have h : hb = true := by simpa using h
          subst h
          exact ⟨fun h => (by cases h), fun _ => ws_next ⟨F, some f, _, _, rfl, rfl, hI.more (hbt.mp rfl)⟩⟩
  · rintro ss' st' ⟨F, b, y3, y4, rfl, rfl, hI⟩
    have hI2 : b = none ∧ ∀ x, memS F x ↔ bitS n x := by
      cases b with
      | none =>
        obtain ⟨h1, h2⟩ := hI.no rfl
        refine ⟨rfl, fun x => ?_⟩
        rw [h1]
        exact ⟨fun h => h.1, fun h => ⟨h, by have := bits_hi n h; omega⟩⟩
      | some f =>
        obtain ⟨⟨h1, h2⟩, _, _, h4⟩ := hI.yes f rfl
        have := bits_hi n (h4 ((Builtin.Int.intBits (n : Int) : Nat) : Int) (by omega) (by omega))
        omega
    obtain ⟨rfl, hm⟩ := hI2
    rw [arcsN_eq hI.srt hm] at q
    walk_at "s"
    exact fin_end q
/-! ### _law_bits_of -/
abbrev N__law_bits_of : List Str := ["arcs", "top", "bits", "first", "last"]
theorem sc__law_bits_of : FnScope N__law_bits_of ["arcs", "top"] (defScope s__law_bits_of) := ⟨rfl, rfl, rfl, by decide +kernel, rfl, by decide +kernel, by decide +kernel⟩
theorem ok__law_bits_of (c__law_bits : Cal P w K mg base 1 "_law_bits" ["first", "last"] (spP K T 2 pre__law_bits)) (dd : Df K mg "_law_bits_of" s__law_bits_of) : Cal P w K mg base 2 "_law_bits_of" ["arcs", "top"] (spP K T 2 pre__law_bits_of) := by
  refine dd.cal (fun f fd F => F.ok sc__law_bits_of (fun vs H Q E h => spP_len h) fun cdv A outer s H vs Q E hr h => ?_) (fun _ _ _ _ _ _ us hl => match us, hl with | [_, _], _ => rfl)
  have nd := sc__law_bits_of.nd
  have hu := room_u hr
  refine ⟨_, (pss_cons (ps_asg pe_int (pg_name (i := 2) nd rfl (.inl rfl))) (pss_cons (ps_for PassesOwn.never rfl (pi_list (pv 0)) (pg_tup (n := 2) rfl (pgs_cons (pg_name (i := 3) nd rfl (.inl rfl)) (pgs_cons (pg_name (i := 4) nd rfl (.inl rfl)) pgs_nil))) (pss_one (ps_asg (pe_op op_or (pv 2) (pe_callC c__law_bits (hr.mono (by decide)) (by rfl) (pa_cons (pv 3) (pa_cons (pe_ifExp (pt_cmpR op_isN (pv 4) pe_non (nomark _)) (pv 1) (pv 4)) pa_nil)))) (pg_name (i := 2) nd rfl (.inl rfl))))) (pss_one (ps_ret (pv 2))))), fn_run h ?_⟩
  intro xs st Φ hl hp
  clear hl h hu hr nd
  try dsimp only [L2.cxOf, NdefX.ncx]
  obtain ⟨F, top, rfl, hF, q⟩ := hp
  walk_at "s"
  refine ws_seq (ws_forL (we_var rfl ?_))
  refine ⟨_, rfl, fun i ss' st' => st' = st ∧ ∃ (y3 y4 : Option Val), ss' = [some (.pd (eSegs F)), vI top, vI ((bitsOf (F.take i) : Nat) : Int), y3, y4], ⟨rfl, _, _, rfl⟩, ?_, ?_⟩
  · rintro i d ss' st' hd ⟨rfl, y3, y4, rfl⟩
    obtain ⟨⟨f, l⟩, ht, rfl⟩ := seg_at hd
    obtain ⟨hi, e⟩ := List.getElem?_eq_some_iff.mp ht
    obtain ⟨f0, f1, l1⟩ := hF _ (List.mem_of_getElem? ht)
    have hst : bitsOf (F.take (i + 1)) = bitsOf (F.take i) ||| bitsN f l := by
      unfold bitsOf
      rw [List.take_succ_eq_append_getElem hi, e, List.foldl_append]
      rfl
    walk_at "s"
    refine ⟨fun h => (by cases h), fun _ => ?_⟩
    walk_at "s"
    refine ⟨by rfl, f, l, rfl, f0, f1, l1, ?_⟩
    walk_at "s"
    rw [bor_nat]
    exact ⟨rfl, _, _, by rw [hst]; rfl⟩
  · rintro ss' st' ⟨rfl, y3, y4, rfl⟩
    rw [List.length_map, List.take_length]
    walk_at "s"
    exact fin_pd (by simp) q
/-! ### _law_sets_told -/
abbrev N__law_sets_told : List Str := ["world", "told", "due", "arcs", "bits"]
theorem sc__law_sets_told : FnScope N__law_sets_told ["world"] (defScope s__law_sets_told) := ⟨rfl, rfl, rfl, by decide +kernel, rfl, by decide +kernel, by decide +kernel⟩
theorem ok__law_sets_told (c__law_bits_of : Cal P w K mg base 2 "_law_bits_of" ["arcs", "top"] (spP K T 2 pre__law_bits_of)) (c_plan_verdict : Cal P w K mg base 10 "plan_verdict" ["plan"] (spP K T 1 (pre_plan_verdict K C_Plan C_Ruler))) (c__law_made_plan : Cal P w K mg base 7 "_law_made_plan" ["world"] (spP K T 1 (pre__law_made_plan K C_Plan C_Ruler))) (c__law_arcs_of : Cal P w K mg base 1 "_law_arcs_of" ["bits"] (spP K T 1 pre__law_arcs_of)) (c__law_plan_sets : Cal P w K mg base 5 "_law_plan_sets" ["world"] (spP K T 1 pre__law_plan_sets)) (c_plan_sets : Cal P w K mg base 9 "plan_sets" ["plan"] (spP K T 1 (pre_plan_sets K C_Plan C_Ruler))) (Z : Zs mg) (dd : Df K mg "_law_sets_told" s__law_sets_told) : Cal P w K mg base 11 "_law_sets_told" ["world"] (spP K T 1 pre__law_sets_told) := by
  refine dd.cal (fun f fd F => F.ok sc__law_sets_told (fun vs H Q E h => spP_len h) fun cdv A outer s H vs Q E hr h => ?_) (fun _ _ _ _ _ _ us hl => match us, hl with | [_], _ => rfl)
  have nd := sc__law_sets_told.nd
  have hu := room_u hr
  refine ⟨_, (pss_cons (ps_asg (pe_callC c_plan_sets (hr.mono (by decide)) (by rfl) (pa_cons (pe_callC c__law_made_plan (hr.mono (by decide)) (by rfl) (pa_cons (pv 0) pa_nil)) pa_nil)) (pg_name (i := 1) nd rfl (.inl rfl))) (pss_cons (ps_asg (pe_callC c__law_plan_sets (hr.mono (by decide)) (by rfl) (pa_cons (pv 0) pa_nil)) (pg_name (i := 2) nd rfl (.inl rfl))) (pss_cons (ps_if (PW.pt (pw_or (pt_not (pt_val (pe_callB (call_isiK (K := K) rfl) (by rfl) Z.isinstance boot_isinstance (pa_cons (pv 1) (pa_cons (pe_tyN (by rfl) Z.list_ boot_list) pa_nil))))) (pw_or1 (pt_cmpR (op_neK (K := K) rfl hu) (pv 1) (pe_lc (own := [("bits", 4)]) (g := gName 4) (tt := tYes) rfl nd (pi_list (pv 2)) (blkOk_by (N := N__law_sets_told) (sc := defScope s__law_sets_told) (by decide +kernel)) (fun _ _ _ _ _ => (pg_name (i := 4) nd rfl (.inl rfl))) (fun _ _ _ _ _ => pts_nil) (fun _ _ _ _ _ => (pe_callC c__law_arcs_of (hr.mono (by decide)) (by rfl) (pa_cons (pv 4) pa_nil)))) (nomark _))))) (pss_one (ps_ret pe_non)) pss_nil) (pss_cons (ps_if (pt_cmpR op_gt (pe_callB (call_lenK (K := K) rfl) (by rfl) Z.len PySem.boot_len (pa_cons (pe_lc (own := [("arcs", 3)]) (g := gName 3) (tt := _) rfl nd (pi_list (pv 1)) (blkOk_by (N := N__law_sets_told) (sc := defScope s__law_sets_told) (by decide +kernel)) (fun _ _ _ _ _ => (pg_name (i := 3) nd rfl (.inl rfl))) (fun _ _ _ _ _ => (pts_one (pt_not (pt_val (pe_callB (call_isiK (K := K) rfl) (by rfl) Z.isinstance boot_isinstance (pa_cons (pv 3) (pa_cons (pe_tyN (by rfl) Z.list_ boot_list) pa_nil))))))) (fun _ _ _ _ _ => (pv 3))) pa_nil)) pe_int (nomark _)) (pss_one (ps_ret pe_non)) pss_nil) (pss_cons (ps_if (pt_cmpR (op_neK (K := K) rfl hu) (pe_ix (ix_seqK (K := K) rfl) (pe_callC c_plan_verdict (hr.mono (by decide)) (by rfl) (pa_cons (pe_callC c__law_made_plan (hr.mono (by decide)) (by rfl) (pa_cons (pv 0) pa_nil)) pa_nil)) pe_int (fun _ _ => rfl)) (pe_ifExp (pt_cmpR (op_eqK (K := K) rfl hu) (pe_op op_and (pe_op op_shr (pe_ix (ix_seqK (K := K) rfl) (pv 2) pe_int (fun _ _ => rfl)) (pe_ix (ix_seqK (K := K) rfl) (pv 0) pe_int (fun _ _ => rfl))) pe_int) pe_int (nomark _)) pe_str pe_str) (nomark _)) (pss_one (ps_ret pe_non)) pss_nil) (pss_one (ps_ret (pe_lc (own := [("arcs", 3)]) (g := gName 3) (tt := tYes) rfl nd (pi_list (pv 1)) (blkOk_by (N := N__law_sets_told) (sc := defScope s__law_sets_told) (by decide +kernel)) (fun _ _ _ _ _ => (pg_name (i := 3) nd rfl (.inl rfl))) (fun _ _ _ _ _ => pts_nil) (fun _ _ _ _ _ => (pe_callC c__law_bits_of (hr.mono (by decide)) (by rfl) (pa_cons (pv 3) (pa_cons pe_int pa_nil)))))))))))), fn_run h ?_⟩
  intro xs st Φ hl hp
  clear hl h hu hr nd
  try dsimp only [L2.cxOf, NdefX.ncx]
  obtain ⟨p, rfl, ok, hr, hsp, hcl, q⟩ := hp
  have sn := ok.sn
  have tn := ok.tn
  have htop := top_nn ok.s0 ok.sec
  have hcN := ceil_ge ok.s0 ok.sec (Nat.le_refl p.ss.length)
  obtain ⟨hsl, hss⟩ := sets_spec ok.ru ok.s0 ok.sec
  refine ws_sA (we_call (wa_cons (we_call (wa_cons (we_var rfl (wa_nil ⟨by rfl, p, rfl, ok, wa_nil ?_⟩))))))
  refine ⟨by rfl, p, rfl, sn, ok.s0, hr, ok.ru, ok.sec, hsp, hcl, wg_nm ?_⟩
  refine ws_sA (we_call (wa_cons (we_var rfl (wa_nil ⟨by rfl, p, rfl, sn, ok.s0, ok.ru, ok.sec, ⟨ok.srt, by omega⟩, hcl, fun ns hnl hns => wg_nm ?_⟩))))
  have hA := sets_arcs ok.ru ok.s0 ok.sec hnl hns
  refine ws_seq (ws_if (wt_or (wt_not (wt_B (we_cb (wa_cons (we_var rfl (wa_cons (we_ty (wa_nil (wc_isi rfl rfl ?_)))))))))))
  refine ⟨_, rfl, fun h => (by cases h), fun _ => ?_⟩
  refine wt_test (we_op (we_var rfl (we_lcL (gw_name (by simp)) (we_var rfl ?_))))
  refine ⟨_, rfl, by rw [List.length_map]; exact big_lt (by omega), arcF, ?_, ?_⟩
  · intro i d acc hd
    obtain ⟨n, hn, rfl⟩ := nat_at hd
    have hi := (List.getElem?_eq_some_iff.mp hn).1
    obtain ⟨n', e1, e2⟩ := hns i (by omega)
    rw [hn] at e1
    cases e1
    walk_at "s"
    refine ⟨fun _ => ?_, fun h => (by cases h)⟩
    walk_at "s"
    exact ⟨by rfl, n, rfl, setT_lt e2 (by omega), _, _, rfl, take_snoc, rfl⟩
  rw [arcF_map, hA]
  refine wr_neD rfl rfl (sh_sets _).shaped (sh_sets _).shaped ?_
  rw [PySem.SeqAt.eqv_refl _ (sh_sets _).1]
  refine ⟨_, rfl, fun h => (by cases h), fun _ => ?_⟩
  refine ws_next ?_
  refine ws_seq (ws_if (wt_test (we_op (we_cb (wa_cons (we_lcL (gw_name (by simp)) (we_var rfl ?_)))))))
  refine ⟨_, rfl, by rw [List.length_map]; exact big_lt (by omega), fun _ => none, ?_, ?_⟩
  · intro i d acc hd
    obtain ⟨B, hB, rfl⟩ := sets_at hd
    refine wg_name (wt_not (wt_B (we_cb (wa_cons (we_var rfl (wa_cons (we_ty (wa_nil (wc_isi rfl rfl ?_)))))))))
    refine ⟨_, rfl, fun h => (by cases h), fun _ => ⟨take_snoc, rfl⟩⟩
  rw [none_map]
  walk_at "s"
  refine ⟨fun h => (by cases h), fun _ => ?_⟩
  refine ws_next ?_
  obtain ⟨n0, hn0, hT0⟩ := hns 0 (Nat.zero_le _)
  have hst := start_le ok.sec
  have hbit : bitS n0 p.s ↔ Dq p 0 p.s := by
    rw [hT0]
    exact ⟨fun h => h.1, fun h => ⟨h, hst⟩⟩
  refine ws_mid (fun ss' st' => st' = st ∧ ss' = [some (.pd (worldQ p)), vL ((setsQ p).map fun S => eSegs S), vL (ns.map fun n : Nat => PyData.int (n : Int)), none, none]) ?_ ?_
  · refine ws_if (wt_test (we_op (we_op (we_call (wa_cons (we_call (wa_cons (we_var rfl (wa_nil ⟨by rfl, p, rfl, ok, wa_nil ?_⟩)))))))))
    refine ⟨by rfl, p, rfl, ok, hr, hsp, hcl, fun hD => ?_, fun hD k => ?_⟩
    · refine we_c rfl (wr_ixuT (d := .str "kept") rfl (we_if ?_))
      walk_at "s"
      refine wr_ixuL (d := .int (n0 : Int)) rfl (atI_nat (j := 0) (by rw [List.getElem?_map, hn0]; rfl)) ?_
      walk_at "s"
      refine wr_shr ok.s0 ?_
      walk_at "s"
      refine ⟨fun _ => ?_, fun h => ?_⟩
      · walk_at "s"
        refine ⟨fun h => absurd h (by simp), fun _ => ws_next ⟨rfl, rfl⟩⟩
      · exact absurd ((bit_test n0 ok.s0).mpr (hbit.mpr hD)) (of_decide_eq_false h)
    · refine we_c rfl (wr_ixuT (d := .str "caught") rfl (we_if ?_))
      walk_at "s"
      refine wr_ixuL (d := .int (n0 : Int)) rfl (atI_nat (j := 0) (by rw [List.getElem?_map, hn0]; rfl)) ?_
      walk_at "s"
      refine wr_shr ok.s0 ?_
      walk_at "s"
      refine ⟨fun h => ?_, fun _ => ?_⟩
      · exact absurd (hbit.mp ((bit_test n0 ok.s0).mp (of_decide_eq_true h))) hD
      · walk_at "s"
        refine ⟨fun h => absurd h (by simp), fun _ => ws_next ⟨rfl, rfl⟩⟩
  · rintro ss' st' ⟨rfl, rfl⟩
    refine ws_ret (we_lcL (gw_name (by simp)) (we_var rfl ?_))
    refine ⟨_, rfl, by rw [List.length_map]; exact big_lt (by omega), segsF, ?_, ?_⟩
    · intro i d acc hd
      obtain ⟨B, hB, rfl⟩ := sets_at hd
      have hi := (List.getElem?_eq_some_iff.mp hB).1
      obtain ⟨B', e3, e4, e5⟩ := hss i (by omega)
      rw [hB] at e3
      cases e3
      have hbd := segs_bd e4 e5
      walk_at "s"
      refine ⟨fun _ => ?_, fun h => (by cases h)⟩
      walk_at "s"
      refine ⟨by rfl, B, 0, rfl, fun y hy => ⟨(hbd y hy).1, by have := hbd y hy; omega, by have := hbd y hy; omega⟩, ?_⟩
      exact ⟨_, _, rfl, take_snoc, by unfold segsF; rw [unS_e]⟩
    · rw [segsF_map]
      refine fin_pd (by simp) (q _ (by rw [List.length_map, hsl]) fun t ht => ?_)
      obtain ⟨B, e3, e4, e5⟩ := hss t ht
      refine ⟨_, by rw [List.getElem?_map, e3]; rfl, fun x => ?_⟩
      rw [bitsOf_spec fun y hy => (segs_bd e4 e5 y hy).1, e5]
/-! ### _law_draw_ruler -/
abbrev N__law_draw_ruler : List Str := ["purse", "top", "turn"]
theorem sc__law_draw_ruler : FnScope N__law_draw_ruler ["purse", "top"] (defScope s__law_draw_ruler) := ⟨rfl, rfl, rfl, by decide +kernel, rfl, by decide +kernel, by decide +kernel⟩
theorem ok__law_draw_ruler (c__law_draw : Cal P w K mg base 1 "_law_draw" ["purse", "many"] (spP K T 2 pre__law_draw)) (Z : Zs mg) (dd : Df K mg "_law_draw_ruler" s__law_draw_ruler) : Cal P w K mg base 2 "_law_draw_ruler" ["purse", "top"] (spP K T 2 pre__law_draw_ruler) := by
  refine dd.cal (fun f fd F => F.ok sc__law_draw_ruler (fun vs H Q E h => spP_len h) fun cdv A outer s H vs Q E hr h => ?_) (fun _ _ _ _ _ _ us hl => match us, hl with | [_, _], _ => rfl)
  have nd := sc__law_draw_ruler.nd
  have hu := room_u hr
  refine ⟨_, (pss_cons (ps_if (pt_cmpR op_gt (pe_callC c__law_draw (hr.mono (by decide)) (by rfl) (pa_cons (pv 0) (pa_cons pe_int pa_nil))) pe_int (nomark _)) (pss_one (ps_ret (pe_tup (pa_cons pe_str (pa_cons (pe_op (op_addK (K := K) rfl) pe_int (pe_callC c__law_draw (hr.mono (by decide)) (by rfl) (pa_cons (pv 0) (pa_cons pe_int pa_nil)))) pa_nil))))) pss_nil) (pss_one (ps_ret (pe_lc (own := [("turn", 2)]) (g := gName 2) (tt := tYes) rfl nd (pi_range1 rfl Z.range_ (pa_cons (pe_op (op_addK (K := K) rfl) pe_int (pe_callC c__law_draw (hr.mono (by decide)) (by rfl) (pa_cons (pv 0) (pa_cons pe_int pa_nil)))) pa_nil)) (blkOk_by (N := N__law_draw_ruler) (sc := defScope s__law_draw_ruler) (by decide +kernel)) (fun _ _ _ _ _ => (pg_name (i := 2) nd rfl (.inl rfl))) (fun _ _ _ _ _ => pts_nil) (fun _ _ _ _ _ => (pe_op (op_addK (K := K) rfl) pe_int (pe_callC c__law_draw (hr.mono (by decide)) (by rfl) (pa_cons (pv 0) (pa_cons pe_int pa_nil))))))))), fn_run h ?_⟩
  intro xs st Φ hl hp
  clear hl h hu hr nd
  try dsimp only [L2.cxOf, NdefX.ncx]
  obtain ⟨n, top, rfl, hP, q⟩ := hp
  have hn := pur_lt hP
  refine ws_seq (ws_if (wt_test (we_op (we_call (wa_cons (we_var rfl (wa_cons (we_c rfl (wa_nil ⟨by rfl, n, 3, rfl, by omega, by omega, hP, fun v st1 v0 v1 o1 p1 => we_c rfl ?_⟩)))))))))
  walk_at "s"
  refine ⟨fun _ => ?_, fun _ => ws_next ?_⟩
  · refine ws_ret (we_tup (wa_cons (we_c rfl (wa_cons (we_op (we_c rfl (we_call (wa_cons (we_var rfl (wa_cons (we_c rfl (wa_nil ⟨by rfl, n, 7, rfl, by omega, by omega, p1, fun u st2 u0 u1 o2 p2 => wr_addI (wa_nil ?_)⟩))))))))))))
    walk_at "s"
    exact fin_all (q (.pages (3 + u)) st2 ⟨by omega, by omega⟩ (only_grow (o1.trans o2)) p2)
  · refine ws_ret (we_pur (we_lcR1S (gw_name (by simp)) (wa_cons (we_op (we_c rfl (we_call (wa_cons (we_var rfl (wa_cons (we_c rfl (wa_nil ⟨by rfl, n, 4, rfl, by omega, by omega, p1, fun u st2 u0 u1 o2 p2 => wr_addI (wa_nil ?_)⟩)))))))))))
    refine ⟨_, rfl, by omega, by omega, fun i st' => Grow st st' n ∧ Pur st' n ∧ ∃ Ls : List Int, Ls.length = i ∧ (∀ L ∈ Ls, 1 ≤ L ∧ L ≤ 8) ∧ st'[st2.length]? = some (.mu (Ls.map PyData.int)), ⟨(only_grow (o1.trans o2)).trans Grow.app, pur_app p2, [], rfl, fun L h => (by cases h), get_end⟩, ?_, ?_⟩
    · rintro i st' hi ⟨gr, pu, Ls, l1, l2, l3⟩
      have hl : st2.length = st.length := by rw [o2.len, o1.len]
      walk_at "s"
      refine ⟨fun _ => ?_, fun h => (by cases h)⟩
      walk_at "s"
      refine ⟨by rfl, n, 8, rfl, by omega, by omega, pu, fun v st3 v0 v1 o3 p3 => ?_⟩
      walk_at "s"
      have l3' : st3[st2.length]? = some (.mu (Ls.map PyData.int)) := (o3.at_ _ (by omega)).trans l3
      refine ⟨.int (1 + v), st3, _, rfl, l3', by rw [List.length_map]; exact big_lt (by omega), (gr.trans (only_grow o3)).set (by omega), pur_set p3 (by omega), Ls ++ [1 + v], by rw [List.length_append, l1]; rfl, fun z hz => ?_, ?_⟩
      · rcases List.mem_append.mp hz with hz | hz
        · exact l2 z hz
        · rw [List.mem_singleton.mp hz]
          omega
      · rw [List.map_append]
        exact get_setSelf l3'
    · rintro st' ⟨gr, pu, Ls, l1, l2, l3⟩
      have hl : st2.length = st.length := by rw [o2.len, o1.len]
      refine ⟨.list (Ls.map PyData.int), st'.set st2.length (.fr (Ls.map PyData.int)), (by simp only [pur, l3]), ?_⟩
      exact fin_all (q (.cells Ls) _ ⟨by omega, l2⟩ (gr.set (by omega)) (pur_set pu (by omega)))
/-! ### _law_draw_section -/
abbrev N__law_draw_section : List Str := ["purse", "wide", "a", "w", "c"]
theorem sc__law_draw_section : FnScope N__law_draw_section ["purse", "wide"] (defScope s__law_draw_section) := ⟨rfl, rfl, rfl, by decide +kernel, rfl, by decide +kernel, by decide +kernel⟩
theorem ok__law_draw_section (c__law_draw : Cal P w K mg base 1 "_law_draw" ["purse", "many"] (spP K T 2 pre__law_draw)) (Z : Zs mg) (dd : Df K mg "_law_draw_section" s__law_draw_section) : Cal P w K mg base 2 "_law_draw_section" ["purse", "wide"] (spP K T 2 pre__law_draw_section) := by
  refine dd.cal (fun f fd F => F.ok sc__law_draw_section (fun vs H Q E h => spP_len h) fun cdv A outer s H vs Q E hr h => ?_) (fun _ _ _ _ _ _ us hl => match us, hl with | [_, _], _ => rfl)
  have nd := sc__law_draw_section.nd
  have hu := room_u hr
  refine ⟨_, (pss_cons (ps_asg (pe_callC c__law_draw (hr.mono (by decide)) (by rfl) (pa_cons (pv 0) (pa_cons pe_int pa_nil))) (pg_name (i := 2) nd rfl (.inl rfl))) (pss_cons (ps_asg (pe_callC c__law_draw (hr.mono (by decide)) (by rfl) (pa_cons (pv 0) (pa_cons (pe_op (op_addK (K := K) rfl) (pv 1) pe_int) pa_nil))) (pg_name (i := 3) nd rfl (.inl rfl))) (pss_cons (ps_asg (pe_op op_sub (pv 3) (pe_callB (call_min2 rfl) (by rfl) Z.min boot_min (pa_cons (pv 3) (pa_cons (pe_callC c__law_draw (hr.mono (by decide)) (by rfl) (pa_cons (pv 0) (pa_cons pe_int pa_nil))) pa_nil)))) (pg_name (i := 4) nd rfl (.inl rfl))) (pss_one (ps_ret (pe_tup (pa_cons (pv 2) (pa_cons (pe_op (op_addK (K := K) rfl) (pv 2) (pv 3)) (pa_cons (pv 4) pa_nil))))))))), fn_run h ?_⟩
  intro xs st Φ hl hp
  clear hl h hu hr nd
  try dsimp only [L2.cxOf, NdefX.ncx]
  obtain ⟨n, wide, rfl, w0, w1, hP, q⟩ := hp
  refine ws_sA (we_call (wa_cons (we_var rfl (wa_cons (we_c rfl (wa_nil ⟨by rfl, n, 5, rfl, by omega, by omega, hP, fun a st1 a0 a1 o1 p1 => wg_nm ?_⟩))))))
  refine ws_sA (we_call (wa_cons (we_var rfl (wa_cons (we_op (we_var rfl (we_c rfl (wr_addI (wa_nil ⟨by rfl, n, wide + 1, rfl, by omega, by omega, p1, fun v st2 v0 v1 o2 p2 => wg_nm ?_⟩)))))))))
  walk_at "s"
  refine ⟨by rfl, n, 4, rfl, by omega, by omega, p2, fun u st3 u0 u1 o3 p3 => ?_⟩
  walk_at "s"
  refine fin_all (q (a, a + v, v - if u < v then u else v) st3 ⟨a0, ?_, ?_, ?_, ?_⟩ ?_ ((o1.trans o2).trans o3) p3)
  · show a ≤ a + v
    omega
  · show 0 ≤ v - if u < v then u else v
    split <;> omega
  · show (v - if u < v then u else v) ≤ a + v - a
    split <;> omega
  · show a + v ≤ 10000
    omega
  · show a + v ≤ 8
    omega
/-! ### _law_draw_tells -/
abbrev N__law_draw_tells : List Str := ["purse", "many", "most", "share", "tells", "j"]
theorem sc__law_draw_tells : FnScope N__law_draw_tells ["purse", "many", "most", "share"] (defScope s__law_draw_tells) := ⟨rfl, rfl, rfl, by decide +kernel, rfl, by decide +kernel, by decide +kernel⟩
theorem ok__law_draw_tells (c__law_draw : Cal P w K mg base 1 "_law_draw" ["purse", "many"] (spP K T 2 pre__law_draw)) (Z : Zs mg) (dd : Df K mg "_law_draw_tells" s__law_draw_tells) : Cal P w K mg base 2 "_law_draw_tells" ["purse", "many", "most", "share"] (spP K T 4 pre__law_draw_tells) := by
  refine dd.cal (fun f fd F => F.ok sc__law_draw_tells (fun vs H Q E h => spP_len h) fun cdv A outer s H vs Q E hr h => ?_) (fun _ _ _ _ _ _ us hl => match us, hl with | [_, _, _, _], _ => rfl)
  have nd := sc__law_draw_tells.nd
  have hu := room_u hr
  refine ⟨_, (pss_cons (ps_asg (pe_lst pa_nil) (pg_name (i := 4) nd rfl (.inl rfl))) (pss_cons (ps_for PassesOwn.never rfl (pi_range2 rfl Z.range_ (pa_cons pe_int (pa_cons (pe_op (op_addK (K := K) rfl) (pv 1) pe_int) pa_nil))) (pg_name (i := 5) nd rfl (.inl rfl)) (pss_one (ps_if (pt_cmpR op_lt (pe_callC c__law_draw (hr.mono (by decide)) (by rfl) (pa_cons (pv 0) (pa_cons pe_int pa_nil))) (pv 3) (nomark _)) (pss_one (ps_expr (pe_bm PySem.F.plainAttrs_list PySem.F.slot_list_append PySem.F.type_list_append mt_append (pv 4) (pa_cons (pe_tup (pa_cons (pe_callB (call_max2 rfl) (by rfl) Z.max boot_max (pa_cons pe_int (pa_cons (pe_op op_sub (pe_op op_sub (pv 5) pe_int) (pe_callC c__law_draw (hr.mono (by decide)) (by rfl) (pa_cons (pv 0) (pa_cons (pv 2) pa_nil)))) pa_nil))) (pa_cons (pv 5) pa_nil))) pa_nil)))) pss_nil))) (pss_one (ps_ret (pe_callB (cr_sortedK (K := K) rfl rfl) (by rfl) Z.sorted boot_sorted (pa_cons (pv 4) pa_nil)))))), fn_run h ?_⟩
  intro xs st Φ hl hp
  clear hl h hu hr nd
  try dsimp only [L2.cxOf, NdefX.ncx]
  obtain ⟨n, many, most, share, rfl, ⟨m0, m1⟩, ⟨k0, k1⟩, hP, q⟩ := hp
  have hn := pur_lt hP
  walk_at "c"
  refine ws_seq (ws_forR2 ?_)
  walk_at "s"
  refine ⟨_, _, rfl, ⟨by omega, by omega, by omega, by omega⟩, fun i ss' st' => ∃ (ts : List (Int × Int)) (y5 : Option Val), ss' = [some (.cell n), vI many, vI most, vI share, some (.cell st.length), y5] ∧ st'.length = st.length + 1 ∧ st'[st.length]? = some (.mu (ts.map pairT)) ∧ Grow st st' n ∧ Pur st' n ∧
    ts.length ≤ i ∧ (∀ t ∈ ts, 0 ≤ t.1 ∧ t.1 < t.2 ∧ t.2 ≤ (i : Int)) ∧ (ts.map Prod.snd).Nodup, ⟨[], _, rfl, by simp, get_end, Grow.app, pur_app hP, Nat.le_refl _, fun t h => (by cases h), List.nodup_nil⟩, ?_, ?_⟩
  · rintro i ss' st' hi ⟨ts, y5, rfl, e1, e2, gr, pu, l1, l2, l3⟩
    refine wg_nm ?_
    refine ws_if (wt_test (we_op (we_call (wa_cons (we_var rfl (wa_cons (we_c rfl (wa_nil ⟨by rfl, n, 4, rfl, by omega, by omega, pu, fun v st1 v0 v1 o1 p1 => we_var rfl ?_⟩))))))))
    have e2' : st1[st.length]? = some (.mu (ts.map pairT)) := (o1.at_ _ (by omega)).trans e2
    have g1 := gr.trans (only_grow o1)
    walk_at "s"
    refine ⟨fun _ => ?_, fun _ => ?_⟩
    · refine ws_app (we_var rfl ⟨_, _, rfl, e2', ?_⟩)
      walk_at "s"
      refine ⟨by rfl, n, most, rfl, k0, k1, p1, fun u st2 u0 u1 o2 p2 => ?_⟩
      have e2'' : st2[st.length]? = some (.mu (ts.map pairT)) := (o2.at_ _ (by omega)).trans e2'
      walk_at "s"
      refine ⟨_, _, _, rfl, e2'', by rw [List.length_map]; exact big_lt (by omega), ?_⟩
      refine ⟨ts ++ [(if 1 + (i : Int) - 1 - u > 0 then 1 + (i : Int) - 1 - u else 0, 1 + (i : Int))], _, rfl, by rw [List.length_set, o2.len, o1.len, e1], by rw [List.map_append]; exact get_setSelf e2'', (g1.trans (only_grow o2)).set (Nat.le_refl _), pur_set p2 (by omega), by rw [List.length_append]; exact Nat.succ_le_succ l1, fun t ht => ?_, ?_⟩
      · rcases List.mem_append.mp ht with ht | ht
        · have := l2 t ht
          omega
        · rw [List.mem_singleton.mp ht]
          dsimp only
          split <;> omega
      · rw [List.map_append]
        refine List.nodup_append.mpr ⟨l3, by simp, fun a ha b hb => ?_⟩
        obtain ⟨t, ht, rfl⟩ := List.mem_map.mp ha
        have := (l2 t ht).2.2
        have hb : b = 1 + (i : Int) := by simpa using hb
        omega
    · refine ws_next ⟨ts, _, rfl, by rw [o1.len, e1], e2', g1, p1, by omega, fun t ht => ?_, l3⟩
      have := l2 t ht
      omega
  · rintro ss' st' ⟨ts, y5, rfl, e1, e2, gr, pu, l1, l2, l3⟩
    refine ws_ret (we_cb (wa_cons (we_var rfl (wa_nil (wc_sortP (look_mu e2) fun qs h1 h2 => ?_)))))
    have hnd : ts.Nodup := nodup_of_snd l3
    have hlen := h1.length_eq
    refine fin_all (q qs st' ⟨fun t ht => ?_, srt_lt h1 hnd h2⟩ ((h1.map Prod.snd).nodup_iff.mpr l3) (by omega) gr pu)
    have := l2 t (h1.mem_iff.mp ht)
    omega
/-! ### _law_draw_world -/
abbrev N__law_draw_world : List Str := ["purse", "many", "sections", "ruler", "start", "tells", "i", "j", "turn"]
theorem sc__law_draw_world : FnScope N__law_draw_world ["purse", "many"] (defScope s__law_draw_world) := ⟨rfl, rfl, rfl, by decide +kernel, rfl, by decide +kernel, by decide +kernel⟩
theorem ok__law_draw_world (c__law_draw : Cal P w K mg base 1 "_law_draw" ["purse", "many"] (spP K T 2 pre__law_draw)) (c__law_draw_tells : Cal P w K mg base 2 "_law_draw_tells" ["purse", "many", "most", "share"] (spP K T 4 pre__law_draw_tells)) (c__law_draw_ruler : Cal P w K mg base 2 "_law_draw_ruler" ["purse", "top"] (spP K T 2 pre__law_draw_ruler)) (c__law_draw_section : Cal P w K mg base 2 "_law_draw_section" ["purse", "wide"] (spP K T 2 pre__law_draw_section)) (Z : Zs mg) (dd : Df K mg "_law_draw_world" s__law_draw_world) : Cal P w K mg base 3 "_law_draw_world" ["purse", "many"] (spP K T 2 pre__law_draw_world) := by
  refine dd.cal (fun f fd F => F.ok sc__law_draw_world (fun vs H Q E h => spP_len h) fun cdv A outer s H vs Q E hr h => ?_) (fun _ _ _ _ _ _ us hl => match us, hl with | [_, _], _ => rfl)
  have nd := sc__law_draw_world.nd
  have hu := room_u hr
  refine ⟨_, (pss_cons (ps_setLc (i := 2) (own := [("turn", 8)]) (g := gName 8) (tt := tYes) rfl nd rfl rfl (sw_true rfl rfl rfl (by decide +kernel)) (pi_range1 rfl Z.range_ (pa_cons (pv 1) pa_nil)) (blkOk_by (N := N__law_draw_world) (sc := defScope s__law_draw_world) (by decide +kernel)) (fun _ _ _ _ _ => (pg_name (i := 8) nd rfl (.inl rfl))) (fun _ _ _ _ _ => pts_nil) (fun _ _ _ _ _ => (pe_callC c__law_draw_section (hr.mono (by decide)) (by rfl) (pa_cons (pv 0) (pa_cons pe_int pa_nil))))) (pss_cons (ps_asg (pe_callC c__law_draw_ruler (hr.mono (by decide)) (by rfl) (pa_cons (pv 0) (pa_cons pe_int pa_nil))) (pg_name (i := 3) nd rfl (.inl rfl))) (pss_cons (ps_asg (pe_callC c__law_draw (hr.mono (by decide)) (by rfl) (pa_cons (pv 0) (pa_cons pe_int pa_nil))) (pg_name (i := 4) nd rfl (.inl rfl))) (pss_cons (ps_asg (pe_callC c__law_draw_tells (hr.mono (by decide)) (by rfl) (pa_cons (pv 0) (pa_cons (pv 1) (pa_cons (pe_op (op_addK (K := K) rfl) pe_int (pe_callC c__law_draw (hr.mono (by decide)) (by rfl) (pa_cons (pv 0) (pa_cons pe_int pa_nil)))) (pa_cons (pe_op (op_addK (K := K) rfl) pe_int (pe_callC c__law_draw (hr.mono (by decide)) (by rfl) (pa_cons (pv 0) (pa_cons pe_int pa_nil)))) pa_nil))))) (pg_name (i := 5) nd rfl (.inl rfl))) (pss_cons (ps_if (PW.pt (pw_and (pt_cmpR (op_neK (K := K) rfl hu) (pv 5) (pe_lst pa_nil) (nomark _)) (pw_and1 (pt_cmpR (op_eqK (K := K) rfl hu) (pe_callC c__law_draw (hr.mono (by decide)) (by rfl) (pa_cons (pv 0) (pa_cons pe_int pa_nil))) pe_int (nomark _))))) (pss_cons (ps_asg (pe_ix (ix_seqK (K := K) rfl) (pv 5) (pe_callC c__law_draw (hr.mono (by decide)) (by rfl) (pa_cons (pv 0) (pa_cons (pe_callB (call_lenK (K := K) rfl) (by rfl) Z.len PySem.boot_len (pa_cons (pv 5) pa_nil)) pa_nil))) (fun _ _ => rfl)) (pg_or (pg_tup (n := 2) rfl (pgs_cons (pg_name (i := 6) nd rfl (.inl rfl)) (pgs_cons (pg_name (i := 7) nd rfl (.inl rfl)) pgs_nil))) (pg_unl (n := 2) rfl (pgs_cons (pg_name (i := 6) nd rfl (.inl rfl)) (pgs_cons (pg_name (i := 7) nd rfl (.inl rfl)) pgs_nil))))) (pss_one (ps_if (pt_cmpR op_gt (pe_op op_sub (pv 7) (pv 6)) pe_int (nomark _)) (pss_one (ps_asg (pe_callB (cr_sortedK (K := K) rfl rfl) (by rfl) Z.sorted boot_sorted (pa_cons (pe_op (op_addK (K := K) rfl) (pv 5) (pe_lst (pa_cons (pe_tup (pa_cons (pe_op op_sub (pv 7) pe_int) (pa_cons (pv 7) pa_nil))) pa_nil))) pa_nil)) (pg_name (i := 5) nd rfl (.inl rfl)))) pss_nil))) pss_nil) (pss_one (ps_ret (pe_lst (pa_cons (pv 4) (pa_cons (pv 3) (pa_cons pe_int (pa_cons (pv 2) (pa_cons (pv 5) pa_nil))))))))))))), fn_run h ?_⟩
  intro xs st Φ hl hp
  clear hl h hu hr nd
  try dsimp only [L2.cxOf, NdefX.ncx]
  obtain ⟨n, many, rfl, ⟨m0, m1⟩, hP, q⟩ := hp
  have hn := pur_lt hP
  refine ws_sA (we_pur (we_lcR1S (gw_name (by simp)) (wa_cons (we_var rfl (wa_nil ?_)))))
  refine ⟨_, rfl, by omega, by omega, fun i st' => Grow st st' n ∧ Pur st' n ∧ ∃ ss : List Sec, ss.length = i ∧ (∀ s ∈ ss, SecOk s ∧ s.2.1 ≤ 8) ∧ st'[st.length]? = some (.mu (ss.map secD)), ⟨Grow.app, pur_app hP, [], rfl, fun L h => (by cases h), get_end⟩, ?_, ?_⟩
  · rintro i st' hi ⟨gr, pu, Ls, l1, l2, l3⟩
    walk_at "s"
    refine ⟨fun _ => ?_, fun h => (by cases h)⟩
    walk_at "s"
    refine ⟨by rfl, n, 4, rfl, by omega, by omega, pu, fun s st3 s0 s1 o3 p3 => ?_⟩
    have l3' : st3[st.length]? = some (.mu (Ls.map secD)) := (o3.at_ _ (by omega)).trans l3
    refine ⟨secD s, st3, _, rfl, l3', by rw [List.length_map]; exact big_lt (by omega), (gr.trans (only_grow o3)).set (Nat.le_refl _), pur_set p3 (by omega), Ls ++ [s], by rw [List.length_append, l1]; rfl, fun z hz => ?_, ?_⟩
    · rcases List.mem_append.mp hz with hz | hz
      · exact l2 z hz
      · rw [List.mem_singleton.mp hz]
        exact ⟨s0, s1⟩
    · rw [List.map_append]
      exact get_setSelf l3'
  rintro st1 ⟨gr, pu, ss, l1, l2, l3⟩
  refine ⟨.list (ss.map secD), st1.set st.length (.fr (ss.map secD)), (by simp only [pur, l3]), wg_nm ?_⟩
  have g1 : Grow st (st1.set st.length (.fr (ss.map secD))) n := gr.set (Nat.le_refl _)
  have p1 : Pur (st1.set st.length (.fr (ss.map secD))) n := pur_set pu (by omega)
  generalize st1.set st.length (.fr (ss.map secD)) = st2 at g1 p1 ⊢
  clear gr pu l3
  refine ws_sA (we_call (wa_cons (we_var rfl (wa_cons (we_c rfl (wa_nil ⟨by rfl, n, 40, rfl, p1, fun ru st3 hru g2 p2 => wg_nm ?_⟩))))))
  refine ws_sA (we_call (wa_cons (we_var rfl (wa_cons (we_c rfl (wa_nil ⟨by rfl, n, 12, rfl, by omega, by omega, p2, fun start st4 v0 v1 o3 p3 => wg_nm ?_⟩))))))
  refine ws_sA (we_call (wa_cons (we_var rfl (wa_cons (we_var rfl (wa_cons (we_op (we_c rfl (we_call (wa_cons (we_var rfl (wa_cons (we_c rfl (wa_nil ⟨by rfl, n, 3, rfl, by omega, by omega, p3, fun a st5 a0 a1 o4 p4 => wr_addI ?_⟩))))))))))))))
  refine wa_cons (we_op (we_c rfl (we_call (wa_cons (we_var rfl (wa_cons (we_c rfl (wa_nil ⟨by rfl, n, 3, rfl, by omega, by omega, p4, fun b st6 b0 b1 o5 p5 => wr_addI (wa_nil ?_)⟩))))))))
  refine ⟨by rfl, n, many, _, _, rfl, ⟨m0, m1⟩, ⟨by omega, by omega⟩, p5, fun ts st7 hts hnd htl g6 p6 => wg_nm ?_⟩
  have gA : Grow st st7 n := ((g1.trans g2).trans (only_grow o3)).trans (((only_grow o4).trans (only_grow o5)).trans g6)
  obtain ⟨tel, tsrt⟩ := hts
  have hnd2 := nodup_of_snd hnd
  refine ws_mid (fun ss' st' => ∃ (us : List (Int × Int)) (y6 y7 : Option Val), ss' = [some (.cell n), vI many, vL (ss.map secD), some (.pd (rulD ru)), vI start, vL (us.map pairT), y6, y7, none] ∧ TellsOk us many ∧ (us.length : Int) ≤ many + 1 ∧ Grow st st' n ∧ Pur st' n) ?_ ?_
  · refine ws_if (wt_and (wt_test (we_op (we_var rfl (we_lst (wa_nil ⟨_, _, purs_nil, by simp, ?_⟩))))))
    refine wr_neD rfl rfl (sh_segs ts) (sh_segs []) ?_
    rw [eqv_isNil]
    have skip : WS K T tNext [some (.cell n), vI many, vL (ss.map secD), some (.pd (rulD ru)), vI start, vL (ts.map pairT), none, none, none] st7 { PoF st Φ with nx := fun ss' st' => ∃ (us : List (Int × Int)) (y6 y7 : Option Val), ss' = [some (.cell n), vI many, vL (ss.map secD), some (.pd (rulD ru)), vI start, vL (us.map pairT), y6, y7, none] ∧ TellsOk us many ∧ (us.length : Int) ≤ many + 1 ∧ Grow st st' n ∧ Pur st' n } :=
      ws_next ⟨ts, _, _, rfl, ⟨tel, tsrt⟩, by omega, gA, p6⟩
    refine ⟨_, rfl, fun h => ?_, fun h => ⟨fun h => (by cases h), fun _ => skip⟩⟩
    have hne : ts ≠ [] := fun z => by
      rw [z] at h
      simp at h
    have hpos : 0 < ts.length := List.length_pos_iff.mpr hne
    refine wt_test (we_op (we_call (wa_cons (we_var rfl (wa_cons (we_c rfl (wa_nil ⟨by rfl, n, 4, rfl, by omega, by omega, p6, fun v st8 v0 v1 o8 p8 => we_c rfl (wr_eqInt ?_)⟩)))))))
    have g8 := gA.trans (only_grow o8)
    refine ⟨_, rfl, fun h => ?_, fun h => ?_⟩
    rotate_left
    · exact ws_next ⟨ts, _, _, rfl, ⟨tel, tsrt⟩, by omega, g8, p8⟩
    refine ws_sA (we_op (we_var rfl (we_call (wa_cons (we_var rfl (wa_cons (we_cb (wa_cons (we_var rfl (wa_nil (wc_len rfl (wa_nil ?_))))))))))))
    rw [List.length_map]
    refine ⟨by rfl, n, _, rfl, by omega, by omega, p8, fun u st9 u0 u1 o9 p9 => ?_⟩
    obtain ⟨k, rfl⟩ := Int.eq_ofNat_of_zero_le u0
    have hk : k < ts.length := by omega
    refine wr_ixuL rfl (d := pairT ts[k]) (atI_nat (by rw [List.getElem?_map, List.getElem?_eq_getElem hk]; rfl)) ?_
    have htm := List.getElem_mem hk
    generalize ts[k] = t at htm ⊢
    obtain ⟨x, y⟩ := t
    have g9 := g8.trans (only_grow o9)
    have htx := tel _ htm
    dsimp only at htx
    walk_at "s"
    refine ⟨fun h => ?_, fun h => ?_⟩
    · have h := of_decide_eq_true h
      refine ws_asg (we_cb (wa_cons (we_op (we_var rfl (we_lst ?_)))))
      walk_at "s"
      refine wr_addL rfl rfl (by rw [List.length_map]; exact big_le (by simp; omega)) (wa_nil ?_)
      have hx : (y - 1, y) ∉ ts := fun z => by
        have := snd_inj hnd htm z rfl
        have : x = y - 1 := congrArg Prod.fst this
        omega
      have e : ts.map pairT ++ [.tuple [.int (y - 1), .int y]] = (ts ++ [(y - 1, y)]).map pairT := by rw [List.map_append]; rfl
      rw [e]
      refine wc_sortP rfl fun qs h1 h2 => wg_nm ?_
      have hlen := h1.length_eq
      rw [List.length_append] at hlen
      have hlen : qs.length = ts.length + 1 := hlen
      refine ⟨qs, _, _, rfl, ⟨fun t ht => ?_, srt_lt h1 (List.nodup_append.mpr ⟨hnd2, by simp, fun a ha b hb => ?_⟩) h2⟩, by omega, g9, p9⟩
      · rcases List.mem_append.mp (h1.mem_iff.mp ht) with ht | ht
        · exact tel t ht
        · rw [List.mem_singleton.mp ht]
          dsimp only
          omega
      · rw [List.mem_singleton.mp hb]
        rintro rfl
        exact hx ha
    · exact ws_next ⟨ts, _, _, rfl, ⟨tel, tsrt⟩, by omega, g9, p9⟩
  · rintro ss' st' ⟨us, y6, y7, rfl, hus, hul, gr, pu⟩
    walk_at "s"
    refine fin_all (q ⟨start, ru, 1, ss, us⟩ st' ⟨⟨v0, by show start ≤ 1000000; omega, rulDr_ok hru, Int.le_refl _, by show (1 : Int) ≤ 10; omega, by show ss.length ≤ 60; omega, by show us.length ≤ 60; omega, fun s hs => (l2 s hs).1, fun t ht => ?_, hus.2⟩, rfl, ?_, by show start ≤ 11; omega, hru, fun s hs => (l2 s hs).2, hul⟩ gr pu)
    · have := hus.1 t ht
      show 0 ≤ t.1 ∧ t.1 < t.2 ∧ t.2 ≤ (ss.length : Int)
      omega
    · show (ss.length : Int) = many
      omega
/-! ### _law_section_put -/
abbrev N__law_section_put : List Str := ["world", "at", "row"]
theorem sc__law_section_put : FnScope N__law_section_put ["world", "at", "row"] (defScope s__law_section_put) := ⟨rfl, rfl, rfl, by decide +kernel, rfl, by decide +kernel, by decide +kernel⟩
theorem ok__law_section_put (dd : Df K mg "_law_section_put" s__law_section_put) : Cal P w K mg base 1 "_law_section_put" ["world", "at", "row"] (spP K T 3 pre__law_section_put) := by
  refine dd.cal (fun f fd F => F.ok sc__law_section_put (fun vs H Q E h => spP_len h) fun cdv A outer s H vs Q E hr h => ?_) (fun _ _ _ _ _ _ us hl => match us, hl with | [_, _, _], _ => rfl)
  have nd := sc__law_section_put.nd
  have hu := room_u hr
  refine ⟨_, (pss_one (ps_ret (pe_lst (pa_cons (pe_ix (ix_seqK (K := K) rfl) (pv 0) pe_int (fun _ _ => rfl)) (pa_cons (pe_ix (ix_seqK (K := K) rfl) (pv 0) pe_int (fun _ _ => rfl)) (pa_cons pe_int (pa_cons (pe_op (op_addK (K := K) rfl) (pe_op (op_addK (K := K) rfl) (pe_slice (sl_listK (K := K) rfl) (pe_ix (ix_seqK (K := K) rfl) (pv 0) pe_int (fun _ _ => rfl)) po_none (po_some (pv 1))) (pe_lst (pa_cons (pv 2) pa_nil))) (pe_slice (sl_listK (K := K) rfl) (pe_ix (ix_seqK (K := K) rfl) (pv 0) pe_int (fun _ _ => rfl)) (po_some (pe_op (op_addK (K := K) rfl) (pv 1) pe_int)) po_none)) (pa_cons (pe_ix (ix_seqK (K := K) rfl) (pv 0) pe_int (fun _ _ => rfl)) pa_nil)))))))), fn_run h ?_⟩
  intro xs st Φ hl hp
  clear hl h hu hr nd
  try dsimp only [L2.cxOf, NdefX.ncx]
  obtain ⟨p, i, s, rfl, hi, sn, q⟩ := hp
  have hi1 : i ≤ (p.ss.map secD).length := by
    rw [List.length_map]
    omega
  have e2 : (i : Int) + 1 = ((i + 1 : Nat) : Int) := rfl
  refine ws_ret (we_lst ?_)
  walk_at "s"
  rw [cut_to _ i hi1]
  refine wr_addL rfl rfl (by rw [List.length_take, List.length_map]; exact big_le (by simp; omega)) ?_
  walk_at "s"
  rw [e2, cut_from _ (i + 1) (by rw [List.length_map]; omega)]
  refine wr_addL rfl rfl (by rw [List.length_append, List.length_take, List.length_drop, List.length_map]; exact big_le (by simp; omega)) ?_
  walk_at "s"
  have e : (p.ss.map secD).take i ++ [secD s] ++ (p.ss.map secD).drop (i + 1) = (p.ss.take i ++ [s] ++ p.ss.drop (i + 1)).map secD := by
    rw [List.map_append, List.map_append, List.map_take, List.map_drop]
    rfl
  have e : (p.ss.map secD).take i ++ [.tuple [.int s.1, .int s.2.1, .int s.2.2]] ++ (p.ss.map secD).drop (i + 1) = (p.ss.take i ++ [s] ++ p.ss.drop (i + 1)).map secD := e
  rw [e]
  exact fin_pd (by simp) q
/-! ### _law_tells_put -/
abbrev N__law_tells_put : List Str := ["world", "tells"]
theorem sc__law_tells_put : FnScope N__law_tells_put ["world", "tells"] (defScope s__law_tells_put) := ⟨rfl, rfl, rfl, by decide +kernel, rfl, by decide +kernel, by decide +kernel⟩
theorem ok__law_tells_put (Z : Zs mg) (dd : Df K mg "_law_tells_put" s__law_tells_put) : Cal P w K mg base 1 "_law_tells_put" ["world", "tells"] (spP K T 2 pre__law_tells_put) := by
  refine dd.cal (fun f fd F => F.ok sc__law_tells_put (fun vs H Q E h => spP_len h) fun cdv A outer s H vs Q E hr h => ?_) (fun _ _ _ _ _ _ us hl => match us, hl with | [_, _], _ => rfl)
  have nd := sc__law_tells_put.nd
  have hu := room_u hr
  refine ⟨_, (pss_one (ps_ret (pe_lst (pa_cons (pe_ix (ix_seqK (K := K) rfl) (pv 0) pe_int (fun _ _ => rfl)) (pa_cons (pe_ix (ix_seqK (K := K) rfl) (pv 0) pe_int (fun _ _ => rfl)) (pa_cons pe_int (pa_cons (pe_ix (ix_seqK (K := K) rfl) (pv 0) pe_int (fun _ _ => rfl)) (pa_cons (pe_callB (cr_sortedK (K := K) rfl rfl) (by rfl) Z.sorted boot_sorted (pa_cons (pv 1) pa_nil)) pa_nil)))))))), fn_run h ?_⟩
  intro xs st Φ hl hp
  clear hl h hu hr nd
  try dsimp only [L2.cxOf, NdefX.ncx]
  obtain ⟨p, us, rfl, hn, hl, q⟩ := hp
  refine ws_ret (we_lst ?_)
  walk_at "s"
  refine wc_sortP rfl fun qs h1 h2 => ?_
  walk_at "s"
  exact fin_pd (by simp) (q qs h1 (srt_lt h1 hn h2))
/-! ### _law_new_tells -/
abbrev N__law_new_tells : List Str := ["world", "many", "found", "i", "j"]
theorem sc__law_new_tells : FnScope N__law_new_tells ["world"] (defScope s__law_new_tells) := ⟨rfl, rfl, rfl, by decide +kernel, rfl, by decide +kernel, by decide +kernel⟩
theorem ok__law_new_tells (Z : Zs mg) (dd : Df K mg "_law_new_tells" s__law_new_tells) : Cal P w K mg base 1 "_law_new_tells" ["world"] (spP K T 1 pre__law_new_tells) := by
  refine dd.cal (fun f fd F => F.ok sc__law_new_tells (fun vs H Q E h => spP_len h) fun cdv A outer s H vs Q E hr h => ?_) (fun _ _ _ _ _ _ us hl => match us, hl with | [_], _ => rfl)
  have nd := sc__law_new_tells.nd
  have hu := room_u hr
  refine ⟨_, (pss_cons (ps_asg (pe_callB (call_lenK (K := K) rfl) (by rfl) Z.len PySem.boot_len (pa_cons (pe_ix (ix_seqK (K := K) rfl) (pv 0) pe_int (fun _ _ => rfl)) pa_nil)) (pg_name (i := 1) nd rfl (.inl rfl))) (pss_cons (ps_asg (pe_lst pa_nil) (pg_name (i := 2) nd rfl (.inl rfl))) (pss_cons (ps_for PassesOwn.never rfl (pi_range1 rfl Z.range_ (pa_cons (pv 1) pa_nil)) (pg_name (i := 3) nd rfl (.inr rfl)) (pss_one (ps_asg (pe_op (op_addK (K := K) rfl) (pv 2) (pe_lc (own := [("j", 4)]) (g := gName 4) (tt := _) rfl nd (pi_range2 rfl Z.range_ (pa_cons (pe_op (op_addK (K := K) rfl) (pv 3) pe_int) (pa_cons (pe_op (op_addK (K := K) rfl) (pv 1) pe_int) pa_nil))) (blkOk_by (N := N__law_new_tells) (sc := defScope s__law_new_tells) (by decide +kernel)) (fun _ _ _ _ _ => (pg_name (i := 4) nd rfl (.inl rfl))) (fun _ _ _ _ _ => (pts_one (pt_cmpR (op_notInDK (K := K) rfl (room_u65 hr)) (pe_tup (pa_cons (pv 3) (pa_cons (pv 4) pa_nil))) (pe_ix (ix_seqK (K := K) rfl) (pv 0) pe_int (fun _ _ => rfl)) (by rfl)))) (fun _ _ _ _ _ => (pe_tup (pa_cons (pv 3) (pa_cons (pv 4) pa_nil)))))) (pg_name (i := 2) nd rfl (.inl rfl))))) (pss_one (ps_ret (pv 2)))))), fn_run h ?_⟩
  intro xs st Φ hl hp
  clear hl h hu hr nd
  try dsimp only [L2.cxOf, NdefX.ncx]
  obtain ⟨p, rfl, sn, hl, q⟩ := hp
  walk_at "s"
  rw [List.length_map]
  walk_at "s"
  refine ws_seq (ws_forR1 ?_)
  walk_at "s"
  refine ⟨by omega, by omega, fun i ss' st' => st' = st ∧ ∃ (us : List (Int × Int)) (y3 : Option Val), ss' = [some (.pd (worldQ p)), vI p.ss.length, vL (us.map pairT), y3, none] ∧ us.length ≤ 60 * i ∧ ∀ t ∈ us, 0 ≤ t.1 ∧ t.1 < t.2 ∧ t.2 ≤ p.ss.length ∧ t ∉ p.ts, ⟨rfl, [], _, rfl, by simp, fun t h => (by cases h)⟩, ?_, ?_⟩
  · rintro i ss' st' hi ⟨rfl, us, y3, rfl, hul, hus⟩
    rw [Int.zero_add]
    refine wg_nm ?_
    refine ws_asg (we_op (we_var rfl (we_lcR2 (gw_name (by simp)) ?_)))
    walk_at "s"
    refine ⟨_, _, rfl, ⟨by omega, by omega, by omega, by omega⟩, big_lt (by omega), fun k => if decide (((i : Int), ((i + 1 + k : Nat) : Int)) ∈ p.ts) = true then none else some (pairT ((i : Int), ((i + 1 + k : Nat) : Int))), ?_, ?_⟩
    · intro k acc hk
      rw [show (i : Int) + 1 + (k : Int) = ((i + 1 + k : Nat) : Int) by omega]
      walk_at "s"
      refine wr_ninD (d := pairT ((i : Int), ((i + 1 + k : Nat) : Int))) rfl rfl (Sh.shaped (k := 1) (sh_tuple fun d hd => ?_)) (sh_segs _) ?_
      · simp only [List.mem_cons, List.not_mem_nil, or_false] at hd
        rcases hd with rfl | rfl <;> exact sh_int _
      rw [pair_any]
      refine ⟨_, rfl, fun h => ?_, fun h => ?_⟩
      · have h : decide (((i : Int), ((i + 1 + k : Nat) : Int)) ∈ p.ts) = false := by simpa using h
        walk_at "s"
        exact ⟨_, _, rfl, take_snoc, if_neg (by rw [h]; exact Bool.false_ne_true)⟩
      · have h : decide (((i : Int), ((i + 1 + k : Nat) : Int)) ∈ p.ts) = true := by simpa using h
        exact ⟨take_snoc, if_pos h⟩
    · rw [show ((p.ss.length : Int) + 1 - ((i : Int) + 1)).toNat = p.ss.length - i by omega, newF_map]
      have hnl := newF_len (p := p) (i := i)
      refine wr_addL rfl rfl (by rw [List.length_map, List.length_map]; exact big_le (by omega)) (wg_nm ?_)
      refine ⟨rfl, us ++ newF p i, _, by rw [List.map_append], by rw [List.length_append]; omega, fun t ht => ?_⟩
      rcases List.mem_append.mp ht with ht | ht
      · exact hus t ht
      · exact newF_spec t ht
  · rintro ss' st' ⟨rfl, us, y3, rfl, hul, hus⟩
    walk_at "s"
    exact fin_pd (by simp) (q us (by omega) hus)
/-! ### _law_no_less -/
abbrev N__law_no_less : List Str := ["great", "small", "top", "whole", "t"]
theorem sc__law_no_less : FnScope N__law_no_less ["great", "small", "top"] (defScope s__law_no_less) := ⟨rfl, rfl, rfl, by decide +kernel, rfl, by decide +kernel, by decide +kernel⟩
theorem ok__law_no_less (c__law_bits : Cal P w K mg base 1 "_law_bits" ["first", "last"] (spP K T 2 pre__law_bits)) (Z : Zs mg) (dd : Df K mg "_law_no_less" s__law_no_less) : Cal P w K mg base 2 "_law_no_less" ["great", "small", "top"] (spP K T 3 pre__law_no_less) := by
  refine dd.cal (fun f fd F => F.ok sc__law_no_less (fun vs H Q E h => spP_len h) fun cdv A outer s H vs Q E hr h => ?_) (fun _ _ _ _ _ _ us hl => match us, hl with | [_, _, _], _ => rfl)
  have nd := sc__law_no_less.nd
  have hu := room_u hr
  refine ⟨_, (pss_cons (ps_if (PW.pt (pw_or (pt_cmpR op_isN (pv 0) pe_non (nomark _)) (pw_or1 (pt_cmpR op_isN (pv 1) pe_non (nomark _))))) (pss_one (ps_ret pe_bl)) pss_nil) (pss_cons (ps_asg (pe_callC c__law_bits (hr.mono (by decide)) (by rfl) (pa_cons pe_int (pa_cons (pv 2) pa_nil))) (pg_name (i := 3) nd rfl (.inl rfl))) (pss_cons (ps_for PassesOwn.never rfl (pi_range1 rfl Z.range_ (pa_cons (pe_callB (call_lenK (K := K) rfl) (by rfl) Z.len PySem.boot_len (pa_cons (pv 1) pa_nil)) pa_nil)) (pg_name (i := 4) nd rfl (.inl rfl)) (pss_one (ps_if (pt_cmpR (op_neK (K := K) rfl hu) (pe_op op_and (pe_op op_and (pe_ix (ix_seqK (K := K) rfl) (pv 1) (pv 4) (fun _ _ => rfl)) (pv 3)) (pe_ix (ix_seqK (K := K) rfl) (pv 0) (pv 4) (fun _ _ => rfl))) (pe_op op_and (pe_ix (ix_seqK (K := K) rfl) (pv 1) (pv 4) (fun _ _ => rfl)) (pv 3)) (nomark _)) (pss_one (ps_ret pe_bl)) pss_nil))) (pss_one (ps_ret pe_bl))))), fn_run h ?_⟩
  intro xs st Φ hl hp
  clear hl h hu hr nd
  try dsimp only [L2.cxOf, NdefX.ncx]
  obtain ⟨gs, ns, top, rfl, ⟨t0, t1⟩, hl, hn, h, q⟩ := hp
  refine ws_seq (ws_if ?_)
  walk_at "s"
  refine ⟨fun h => (by cases h), fun _ => ?_⟩
  walk_at "s"
  refine ⟨fun h => (by cases h), fun _ => ws_next ?_⟩
  refine ws_sA (we_call (wa_cons (we_c rfl (wa_cons (we_var rfl (wa_nil ⟨by rfl, _, _, rfl, Int.le_refl _, by omega, t1, wg_nm ?_⟩))))))
  refine ws_seq (ws_forR1 ?_)
  walk_at "s"
  rw [List.length_map]
  refine ⟨by omega, by omega, fun i ss' st' => st' = st ∧ ∃ (y4 : Option Val), ss' = [vL (gs.map fun n : Nat => PyData.int (n : Int)), vL (ns.map fun n : Nat => PyData.int (n : Int)), vI top, vI ((bitsN 0 top : Nat) : Int), y4], ⟨rfl, _, rfl⟩, ?_, ?_⟩
  · rintro i ss' st' hi ⟨rfl, y4, rfl⟩
    have hi : i < ns.length := by omega
    rw [Int.zero_add]
    obtain ⟨n, hn0⟩ : ∃ n, ns[i]? = some n := ⟨_, List.getElem?_eq_getElem hi⟩
    obtain ⟨m, hm0⟩ : ∃ m, gs[i]? = some m := ⟨_, List.getElem?_eq_getElem (by omega)⟩
    have an : atI (ns.map fun n : Nat => PyData.int (n : Int)) (i : Int) = some (.int (n : Int)) := atI_nat (by rw [List.getElem?_map, hn0]; rfl)
    have am : atI (gs.map fun n : Nat => PyData.int (n : Int)) (i : Int) = some (.int (m : Int)) := atI_nat (by rw [List.getElem?_map, hm0]; rfl)
    refine wg_nm ?_
    refine ws_if ?_
    walk_at "s"
    refine wr_ixuL rfl an ?_
    walk_at "s"
    refine wr_ixuL rfl am ?_
    walk_at "s"
    refine wr_ixuL rfl an ?_
    walk_at "s"
    rw [band_nat, band_nat]
    have e : n &&& bitsN 0 top &&& m = n &&& bitsN 0 top := bitS_ext fun x => by
      rw [bitS_and, bitS_and, bitS_bits (Int.le_refl _)]
      exact ⟨fun h => h.1, fun k => ⟨k, h i n m hn0 hm0 x k.1 k.2.2⟩⟩
    rw [e]
    walk_at "s"
    refine ⟨fun h => absurd h (by simp), fun _ => ws_next ⟨rfl, _, rfl⟩⟩
  · rintro ss' st' ⟨rfl, y4, rfl⟩
    walk_at "s"
    exact fin_pd (by simp) q
/-! ### law -/
abbrev N_law : List Str := ["script", "purse", "world", "mine", "top", "at", "wide", "a", "b", "c", "gone", "fresh", "tell"]
theorem sc_law : FnScope N_law ["script"] (defScope s_law) := ⟨rfl, rfl, rfl, by decide +kernel, rfl, by decide +kernel, by decide +kernel⟩
theorem fn_law (c__law_no_less : Cal P w K mg base 2 "_law_no_less" ["great", "small", "top"] (spP K T 3 pre__law_no_less)) (c__law_sets_told : Cal P w K mg base 11 "_law_sets_told" ["world"] (spP K T 1 pre__law_sets_told)) (c__law_tells_put : Cal P w K mg base 1 "_law_tells_put" ["world", "tells"] (spP K T 2 pre__law_tells_put)) (c__law_draw : Cal P w K mg base 1 "_law_draw" ["purse", "many"] (spP K T 2 pre__law_draw)) (c__law_new_tells : Cal P w K mg base 1 "_law_new_tells" ["world"] (spP K T 1 pre__law_new_tells)) (c__law_section_put : Cal P w K mg base 1 "_law_section_put" ["world", "at", "row"] (spP K T 3 pre__law_section_put)) (c__law_plan_top : Cal P w K mg base 1 "_law_plan_top" ["world"] (spP K T 1 pre__law_plan_top)) (c__law_draw_world : Cal P w K mg base 3 "_law_draw_world" ["purse", "many"] (spP K T 2 pre__law_draw_world)) (c__law_purse : Cal P w K mg base 1 "_law_purse" ["script", "at"] (spP K T 2 pre__law_purse)) (Z : Zs mg) {f : Addr} {fd : FuncData} (F : Fun K "law" "law" s_law f fd) : FnOk P w K mg base CX0 12 f fd ["script"] (spP K T 1 pre_law) := by
  refine F.ok sc_law (fun vs H Q E h => spP_len h) fun cdv A outer s H vs Q E hr h => ?_
  have nd := sc_law.nd
  have hu := room_u hr
  refine ⟨_, (pss_cons (ps_asg (pe_callC c__law_purse (hr.mono (by decide)) (by rfl) (pa_cons (pv 0) (pa_cons pe_int pa_nil))) (pg_name (i := 1) nd rfl (.inl rfl))) (pss_cons (ps_asg (pe_callC c__law_draw_world (hr.mono (by decide)) (by rfl) (pa_cons (pv 1) (pa_cons (pe_op (op_addK (K := K) rfl) pe_int (pe_callC c__law_draw (hr.mono (by decide)) (by rfl) (pa_cons (pv 1) (pa_cons pe_int pa_nil)))) pa_nil))) (pg_name (i := 2) nd rfl (.inr rfl))) (pss_cons (ps_asg (pe_callC c__law_sets_told (hr.mono (by decide)) (by rfl) (pa_cons (pv 2) pa_nil)) (pg_name (i := 3) nd rfl (.inl rfl))) (pss_cons (ps_if (pt_cmpR op_isN (pv 3) pe_non (nomark _)) (pss_one (ps_ret pe_bl)) pss_nil) (pss_cons (ps_asg (pe_callC c__law_plan_top (hr.mono (by decide)) (by rfl) (pa_cons (pv 2) pa_nil)) (pg_name (i := 4) nd rfl (.inl rfl))) (pss_cons (ps_setLc (i := 6) (own := [("at", 5)]) (g := gName 5) (tt := _) rfl nd rfl rfl (sw_true rfl rfl rfl (by decide +kernel)) (pi_range1 rfl Z.range_ (pa_cons (pe_callB (call_lenK (K := K) rfl) (by rfl) Z.len PySem.boot_len (pa_cons (pe_ix (ix_seqK (K := K) rfl) (pv 2) pe_int (fun _ _ => rfl)) pa_nil)) pa_nil)) (blkOk_by (N := N_law) (sc := defScope s_law) (by decide +kernel)) (fun _ _ _ _ _ => (pg_name (i := 5) nd rfl (.inl rfl))) (fun _ _ _ _ _ => (pts_one (pt_cmpR op_lt (pe_ix (ix_seqK (K := K) rfl) (pe_ix (ix_seqK (K := K) rfl) (pe_ix (ix_seqK (K := K) rfl) (pv 2) pe_int (fun _ _ => rfl)) (pv 5) (fun _ _ => rfl)) pe_int (fun _ _ => rfl)) (pe_op op_sub (pe_ix (ix_seqK (K := K) rfl) (pe_ix (ix_seqK (K := K) rfl) (pe_ix (ix_seqK (K := K) rfl) (pv 2) pe_int (fun _ _ => rfl)) (pv 5) (fun _ _ => rfl)) pe_int (fun _ _ => rfl)) (pe_ix (ix_seqK (K := K) rfl) (pe_ix (ix_seqK (K := K) rfl) (pe_ix (ix_seqK (K := K) rfl) (pv 2) pe_int (fun _ _ => rfl)) (pv 5) (fun _ _ => rfl)) pe_int (fun _ _ => rfl))) (nomark _)))) (fun _ _ _ _ _ => (pv 5))) (pss_cons (ps_if (pt_cmpR (op_neK (K := K) rfl hu) (pv 6) (pe_lst pa_nil) (nomark _)) (pss_cons (ps_asg (pe_ix (ix_seqK (K := K) rfl) (pv 6) (pe_callC c__law_draw (hr.mono (by decide)) (by rfl) (pa_cons (pv 1) (pa_cons (pe_callB (call_lenK (K := K) rfl) (by rfl) Z.len PySem.boot_len (pa_cons (pv 6) pa_nil)) pa_nil))) (fun _ _ => rfl)) (pg_name (i := 5) nd rfl (.inl rfl))) (pss_cons (ps_asg (pe_ix (ix_seqK (K := K) rfl) (pe_ix (ix_seqK (K := K) rfl) (pv 2) pe_int (fun _ _ => rfl)) (pv 5) (fun _ _ => rfl)) (pg_or (pg_tup (n := 3) rfl (pgs_cons (pg_name (i := 7) nd rfl (.inl rfl)) (pgs_cons (pg_name (i := 8) nd rfl (.inl rfl)) (pgs_cons (pg_name (i := 9) nd rfl (.inl rfl)) pgs_nil)))) (pg_unl (n := 3) rfl (pgs_cons (pg_name (i := 7) nd rfl (.inl rfl)) (pgs_cons (pg_name (i := 8) nd rfl (.inl rfl)) (pgs_cons (pg_name (i := 9) nd rfl (.inl rfl)) pgs_nil)))))) (pss_one (ps_if (pt_not (pt_val (pe_callC c__law_no_less (hr.mono (by decide)) (by rfl) (pa_cons (pe_callC c__law_sets_told (hr.mono (by decide)) (by rfl) (pa_cons (pe_callC c__law_section_put (hr.mono (by decide)) (by rfl) (pa_cons (pv 2) (pa_cons (pv 5) (pa_cons (pe_tup (pa_cons (pv 7) (pa_cons (pv 8) (pa_cons (pe_op (op_addK (K := K) rfl) (pv 9) pe_int) pa_nil)))) pa_nil)))) pa_nil)) (pa_cons (pv 3) (pa_cons (pv 4) pa_nil)))))) (pss_one (ps_ret pe_bl)) pss_nil)))) pss_nil) (pss_cons (ps_asg (pe_callC c__law_draw (hr.mono (by decide)) (by rfl) (pa_cons (pv 1) (pa_cons (pe_callB (call_lenK (K := K) rfl) (by rfl) Z.len PySem.boot_len (pa_cons (pe_ix (ix_seqK (K := K) rfl) (pv 2) pe_int (fun _ _ => rfl)) pa_nil)) pa_nil))) (pg_name (i := 5) nd rfl (.inl rfl))) (pss_cons (ps_asg (pe_ix (ix_seqK (K := K) rfl) (pe_ix (ix_seqK (K := K) rfl) (pv 2) pe_int (fun _ _ => rfl)) (pv 5) (fun _ _ => rfl)) (pg_or (pg_tup (n := 3) rfl (pgs_cons (pg_name (i := 7) nd rfl (.inl rfl)) (pgs_cons (pg_name (i := 8) nd rfl (.inl rfl)) (pgs_cons (pg_name (i := 9) nd rfl (.inl rfl)) pgs_nil)))) (pg_unl (n := 3) rfl (pgs_cons (pg_name (i := 7) nd rfl (.inl rfl)) (pgs_cons (pg_name (i := 8) nd rfl (.inl rfl)) (pgs_cons (pg_name (i := 9) nd rfl (.inl rfl)) pgs_nil)))))) (pss_cons (ps_if (pt_not (pt_val (pe_callC c__law_no_less (hr.mono (by decide)) (by rfl) (pa_cons (pv 3) (pa_cons (pe_callC c__law_sets_told (hr.mono (by decide)) (by rfl) (pa_cons (pe_callC c__law_section_put (hr.mono (by decide)) (by rfl) (pa_cons (pv 2) (pa_cons (pv 5) (pa_cons (pe_tup (pa_cons (pv 7) (pa_cons (pe_op (op_addK (K := K) rfl) (pv 8) pe_int) (pa_cons (pv 9) pa_nil)))) pa_nil)))) pa_nil)) (pa_cons (pv 4) pa_nil)))))) (pss_one (ps_ret pe_bl)) pss_nil) (pss_cons (ps_if (pt_cmpR (op_neK (K := K) rfl hu) (pe_ix (ix_seqK (K := K) rfl) (pv 2) pe_int (fun _ _ => rfl)) (pe_lst pa_nil) (nomark _)) (pss_cons (ps_asg (pe_callC c__law_draw (hr.mono (by decide)) (by rfl) (pa_cons (pv 1) (pa_cons (pe_callB (call_lenK (K := K) rfl) (by rfl) Z.len PySem.boot_len (pa_cons (pe_ix (ix_seqK (K := K) rfl) (pv 2) pe_int (fun _ _ => rfl)) pa_nil)) pa_nil))) (pg_name (i := 10) nd rfl (.inl rfl))) (pss_one (ps_if (pt_not (pt_val (pe_callC c__law_no_less (hr.mono (by decide)) (by rfl) (pa_cons (pe_callC c__law_sets_told (hr.mono (by decide)) (by rfl) (pa_cons (pe_callC c__law_tells_put (hr.mono (by decide)) (by rfl) (pa_cons (pv 2) (pa_cons (pe_op (op_addK (K := K) rfl) (pe_slice (sl_listK (K := K) rfl) (pe_ix (ix_seqK (K := K) rfl) (pv 2) pe_int (fun _ _ => rfl)) po_none (po_some (pv 10))) (pe_slice (sl_listK (K := K) rfl) (pe_ix (ix_seqK (K := K) rfl) (pv 2) pe_int (fun _ _ => rfl)) (po_some (pe_op (op_addK (K := K) rfl) (pv 10) pe_int)) po_none)) pa_nil))) pa_nil)) (pa_cons (pv 3) (pa_cons (pv 4) pa_nil)))))) (pss_one (ps_ret pe_bl)) pss_nil))) pss_nil) (pss_cons (ps_asg (pe_callC c__law_new_tells (hr.mono (by decide)) (by rfl) (pa_cons (pv 2) pa_nil)) (pg_name (i := 11) nd rfl (.inl rfl))) (pss_cons (ps_if (pt_cmpR (op_neK (K := K) rfl hu) (pv 11) (pe_lst pa_nil) (nomark _)) (pss_cons (ps_asg (pe_ix (ix_seqK (K := K) rfl) (pv 11) (pe_callC c__law_draw (hr.mono (by decide)) (by rfl) (pa_cons (pv 1) (pa_cons (pe_callB (call_lenK (K := K) rfl) (by rfl) Z.len PySem.boot_len (pa_cons (pv 11) pa_nil)) pa_nil))) (fun _ _ => rfl)) (pg_name (i := 12) nd rfl (.inl rfl))) (pss_one (ps_ret (pe_callC c__law_no_less (hr.mono (by decide)) (by rfl) (pa_cons (pv 3) (pa_cons (pe_callC c__law_sets_told (hr.mono (by decide)) (by rfl) (pa_cons (pe_callC c__law_tells_put (hr.mono (by decide)) (by rfl) (pa_cons (pv 2) (pa_cons (pe_op (op_addK (K := K) rfl) (pe_ix (ix_seqK (K := K) rfl) (pv 2) pe_int (fun _ _ => rfl)) (pe_lst (pa_cons (pv 12) pa_nil))) pa_nil))) pa_nil)) (pa_cons (pv 4) pa_nil))))))) pss_nil) (pss_one (ps_ret pe_bl))))))))))))))), fn_run h ?_⟩
  intro xs st Φ hl hp
  clear hl h hu hr nd
  try dsimp only [L2.cxOf, NdefX.ncx]
  obtain ⟨ns, rfl, hl, q⟩ := hp
  refine ws_sA (we_call (wa_cons (we_var rfl (wa_cons (we_c rfl (wa_nil ⟨by rfl, ns, 0, rfl, hl, by omega, by omega, fun p0 p1 => wg_nm ?_⟩))))))
  refine ws_sA (we_call (wa_cons (we_var rfl (wa_cons (we_op (we_c rfl (we_call (wa_cons (we_var rfl (wa_cons (we_c rfl (wa_nil ⟨by rfl, st.length, 3, rfl, by omega, by omega, purse_pur get_end, fun v st1 v0 v1 o1 p1 => wr_addI (wa_nil ?_)⟩))))))))))))
  refine ⟨by rfl, st.length, 2 + v, rfl, ⟨by omega, by omega⟩, p1, fun p st2 D g2 p2 => wg_nm ?_⟩
  have hlen := D.len
  have hts := D.tn
  have ok := D.ok
  have sn : p.ss.length ≤ 10 := by omega
  obtain ⟨b1, b2, b3⟩ := small_bd ok D.s sn fun s hs => by have := D.sec s hs; omega
  have htop := top_nn ok.s0 ok.sec
  have hr : p.r ≤ 1 := by rw [D.r]; omega
  generalize st.length = n at p2 ⊢
  clear g2 p1 o1
  refine ws_sA (we_call (wa_cons (we_var rfl (wa_nil ⟨by rfl, p, rfl, ok, hr, b1, b2, fun ms hml hms => wg_nm ?_⟩))))
  refine ws_seq (ws_if ?_)
  walk_at "s"
  refine ⟨fun h => (by cases h), fun _ => ws_next ?_⟩
  refine ws_sA (we_call (wa_cons (we_var rfl (wa_nil ⟨by rfl, p, rfl, by omega, wg_nm ?_⟩))))
  refine ws_sA (we_lcR1 (gw_name (by simp)) ?_)
  walk_at "s"
  rw [List.length_map]
  refine ⟨by omega, by omega, big_lt (by omega), fun i => if wideB p i = true then some (.int ((i : Nat) : Int)) else none, ?_, ?_⟩
  · intro i acc hi
    have hi : i < p.ss.length := by omega
    obtain ⟨⟨a, b, c⟩, hs⟩ : ∃ s, p.ss[i]? = some s := ⟨_, List.getElem?_eq_getElem hi⟩
    have hb : wideB p i = decide (c < b - a) := by unfold wideB; rw [hs]
    have hat : atI (p.ss.map secD) (i : Int) = some (secD (a, b, c)) := atI_nat (by rw [List.getElem?_map, hs]; rfl)
    rw [Int.zero_add]
    walk_at "s"
    refine wr_ixuL rfl hat ?_
    walk_at "s"
    refine wr_ixuL rfl hat ?_
    walk_at "s"
    refine wr_ixuL rfl hat ?_
    walk_at "s"
    refine ⟨fun h => ?_, fun h => ?_⟩
    · walk_at "s"
      exact ⟨_, _, rfl, take_snoc, if_pos (by rw [hb]; exact h)⟩
    · exact ⟨take_snoc, if_neg (by rw [hb, h]; exact Bool.false_ne_true)⟩
  rw [show (p.ss.length : Int).toNat = p.ss.length by omega, filt_if (wideB p) (fun i : Nat => PyData.int (i : Int)), show (List.range p.ss.length).filter (wideB p) = wideI p from rfl]
  have hwl := wideI_len p
  have hws := fun i (h : i ∈ wideI p) => wideI_spec h
  generalize wideI p = W at hwl hws ⊢
  refine wg_nm ?_
  have spM : ∀ i : Nat, i < p.ss.length → ∃ s, p.ss[i]? = some s := fun i hi => ⟨_, List.getElem?_eq_getElem hi⟩
  refine ws_mid (fun ss' st' => ∃ (y5 y7 y8 y9 : Option Val), ss' = [vL (ns.map PyData.int), some (.cell n), some (.pd (worldQ p)), vL (ms.map fun n : Nat => PyData.int (n : Int)), vI (topQ p), y5, vL (W.map fun i : Nat => PyData.int (i : Int)), y7, y8, y9, none, none, none] ∧ Pur st' n) ?_ ?_
  · refine ws_if (wt_test (we_op (we_var rfl (we_lst (wa_nil ⟨_, _, purs_nil, by simp, ?_⟩)))))
    refine wr_neD rfl rfl (sh_nats W) (sh_nats []) ?_
    rw [eqv_isNil]
    refine ⟨_, rfl, fun h => ?_, fun h => ws_next ⟨_, _, _, _, rfl, p2⟩⟩
    have hpos : 0 < W.length := List.length_pos_iff.mpr fun z => by
      rw [z] at h
      simp at h
    refine ws_sA (we_op (we_var rfl (we_call (wa_cons (we_var rfl (wa_cons (we_cb (wa_cons (we_var rfl (wa_nil (wc_len rfl (wa_nil ?_))))))))))))
    rw [List.length_map]
    refine ⟨by rfl, n, _, rfl, by omega, by omega, p2, fun u st3 u0 u1 o3 p3 => ?_⟩
    obtain ⟨k, rfl⟩ := Int.eq_ofNat_of_zero_le u0
    have hk : k < W.length := by omega
    refine wr_ixuL rfl (d := .int ((W[k] : Nat) : Int)) (atI_nat (by rw [List.getElem?_map, List.getElem?_eq_getElem hk]; rfl)) ?_
    obtain ⟨⟨a, b, c⟩, hs, hc⟩ := hws _ (List.getElem_mem hk)
    generalize W[k] = i at hs ⊢
    have hi : i < p.ss.length := (List.getElem?_eq_some_iff.mp hs).1
    have hc : c < b - a := hc
    have hso : SecOk (a, b, c) := ok.sec _ (List.mem_of_getElem? hs)
    have hb8 : b ≤ 8 := D.sec _ (List.mem_of_getElem? hs)
    have hat : atI (p.ss.map secD) (i : Int) = some (secD (a, b, c)) := atI_nat (by rw [List.getElem?_map, hs]; rfl)
    refine wg_nm ?_
    refine ws_sA ?_
    walk_at "s"
    refine wr_ixuL rfl hat ?_
    walk_at "s"
    refine ⟨by rfl, p, i, (a, b, c + 1), rfl, hi, by omega, ?_⟩
    have hso' : SecOk (a, b, c + 1) := by
      obtain ⟨h1, h2, h3, h4, h5⟩ := hso
      dsimp only at h1 h2 h3 h4 h5
      exact ⟨h1, h2, by show 0 ≤ c + 1; omega, by show c + 1 ≤ b - a; omega, h5⟩
    have okP := putS_ok ok hi hso'
    have ht' := top_putS (s' := (a, b, c + 1)) hs
    obtain ⟨c1, c2, c3⟩ := small_bd okP D.s (by show (p.ss.take i ++ [(a, b, c + 1)] ++ p.ss.drop (i + 1)).length ≤ 10; rw [put_len hi]; exact sn) fun s hm => (put_mem hm).elim (fun e => by rw [e]; show b ≤ 9; omega) fun hm => by have := D.sec s hm; omega
    have hl' : (putS p i (a, b, c + 1)).ss.length = p.ss.length := put_len hi
    walk_at "s"
    refine ⟨by rfl, _, rfl, okP, by show (1 : Int) ≤ 1; omega, c1, c2, fun gs hgl hgs => ?_⟩
    walk_at "s"
    have hle := sets_le (p := p) (q := putS p i (a, b, c + 1)) (top := topQ p) ⟨hml, hms⟩ ⟨hgl, hgs⟩ hl'.symm fun t x h1 h2 h3 => ⟨mono_pad ok hs hso' h1, by dsimp only at ht'; omega⟩
    refine ⟨by rfl, gs, ms, topQ p, rfl, ⟨htop, by omega⟩, by omega, by omega, hle, ?_⟩
    walk_at "s"
    refine ⟨fun h => (by cases h), fun _ => ws_next ⟨_, _, _, _, rfl, p3⟩⟩
  rintro ss' st3 ⟨y5, y7, y8, y9, rfl, p3⟩
  clear p2
  refine ws_sA (we_call (wa_cons (we_var rfl (wa_cons (we_cb (wa_cons (we_op (we_var rfl (we_c rfl ?_)))))))))
  walk_at "s"
  rw [List.length_map]
  refine ⟨by rfl, n, _, rfl, by omega, by omega, p3, fun u st4 u0 u1 o4 p4 => ?_⟩
  obtain ⟨i, rfl⟩ := Int.eq_ofNat_of_zero_le u0
  have hi : i < p.ss.length := by omega
  obtain ⟨⟨a, b, c⟩, hs⟩ := spM i hi
  have hso : SecOk (a, b, c) := ok.sec _ (List.mem_of_getElem? hs)
  have hb8 : b ≤ 8 := D.sec _ (List.mem_of_getElem? hs)
  have hat : atI (p.ss.map secD) (i : Int) = some (secD (a, b, c)) := atI_nat (by rw [List.getElem?_map, hs]; rfl)
  refine wg_nm ?_
  refine ws_sA ?_
  walk_at "s"
  refine wr_ixuL rfl hat ?_
  walk_at "s"
  refine ws_seq (ws_if ?_)
  walk_at "s"
  refine ⟨by rfl, p, i, (a, b + 1, c), rfl, hi, by omega, ?_⟩
  have hso' : SecOk (a, b + 1, c) := by
    obtain ⟨h1, h2, h3, h4, h5⟩ := hso
    dsimp only at h1 h2 h3 h4 h5
    exact ⟨h1, by show a ≤ b + 1; omega, h3, by show c ≤ b + 1 - a; omega, by show b + 1 ≤ 10000; omega⟩
  have okP := putS_ok ok hi hso'
  obtain ⟨c1, c2, c3⟩ := small_bd okP D.s (by show (p.ss.take i ++ [(a, b + 1, c)] ++ p.ss.drop (i + 1)).length ≤ 10; rw [put_len hi]; exact sn) fun s hm => (put_mem hm).elim (fun e => by rw [e]; show b + 1 ≤ 9; omega) fun hm => by have := D.sec s hm; omega
  have hl' : (putS p i (a, b + 1, c)).ss.length = p.ss.length := put_len hi
  walk_at "s"
  refine ⟨by rfl, _, rfl, okP, by show (1 : Int) ≤ 1; omega, c1, c2, fun gs hgl hgs => ?_⟩
  walk_at "s"
  have hle := sets_le (p := putS p i (a, b + 1, c)) (q := p) (top := topQ p) ⟨hgl, hgs⟩ ⟨hml, hms⟩ hl' fun t x h1 h2 h3 => ⟨mono_free ok hs h1, h3⟩
  refine ⟨by rfl, ms, gs, topQ p, rfl, ⟨htop, by omega⟩, by omega, by omega, hle, ?_⟩
  clear hle hgs hgl gs c1 c2 c3 okP
  walk_at "s"
  refine ⟨fun h => (by cases h), fun _ => ws_next ?_⟩
  have tnd : p.ts.Nodup := ok.srt.imp fun {x y} h e => by
    subst e
    omega
  refine ws_mid (fun ss' st' => ∃ (y10 : Option Val), ss' = [vL (ns.map PyData.int), some (.cell n), some (.pd (worldQ p)), vL (ms.map fun n : Nat => PyData.int (n : Int)), vI (topQ p), vI i, vL (W.map fun i : Nat => PyData.int (i : Int)), vI a, vI b, vI c, y10, none, none] ∧ Pur st' n) ?_ ?_
  · refine ws_if (wt_test (we_op (we_op (we_var rfl (we_c rfl (wr_ixuL (d := .list (p.ts.map pairT)) rfl rfl (we_lst (wa_nil ⟨_, _, purs_nil, by simp, ?_⟩))))))))
    refine wr_neD rfl rfl (sh_segs p.ts) (sh_segs []) ?_
    rw [eqv_isNil]
    refine ⟨_, rfl, fun h => ?_, fun h => ws_next ⟨_, rfl, p4⟩⟩
    have hpos : 0 < p.ts.length := List.length_pos_iff.mpr fun z => by
      rw [z] at h
      simp at h
    refine ws_sA (we_call (wa_cons (we_var rfl (wa_cons (we_cb (wa_cons (we_op (we_var rfl (we_c rfl ?_)))))))))
    walk_at "s"
    rw [List.length_map]
    refine ⟨by rfl, n, _, rfl, by omega, by omega, p4, fun u st5 u0 u1 o5 p5 => ?_⟩
    obtain ⟨k, rfl⟩ := Int.eq_ofNat_of_zero_le u0
    have hk : k < p.ts.length := by omega
    have hkm : k ≤ (p.ts.map pairT).length := by rw [List.length_map]; omega
    refine wg_nm ?_
    refine ws_if ?_
    walk_at "s"
    rw [cut_to _ k hkm]
    rw [show (k : Int) + 1 = ((k + 1 : Nat) : Int) from rfl, cut_from _ (k + 1) (by rw [List.length_map]; omega)]
    refine wr_addL rfl rfl (by rw [List.length_take, List.length_drop, List.length_map]; exact big_le (by omega)) ?_
    have e : (p.ts.map pairT).take k ++ (p.ts.map pairT).drop (k + 1) = (p.ts.take k ++ p.ts.drop (k + 1)).map pairT := by rw [List.map_append, List.map_take, List.map_drop]
    rw [e]
    walk_at "s"
    have sub : (p.ts.take k ++ p.ts.drop (k + 1)).Sublist p.ts := by
      rw [← List.eraseIdx_eq_take_drop_succ]
      exact List.eraseIdx_sublist _ _
    refine ⟨by rfl, p, _, rfl, sub.nodup tnd, Nat.le_trans sub.length_le (by omega), fun qs h1 h2 => ?_⟩
    have hmem : ∀ u ∈ qs, u ∈ p.ts := fun u hu => sub.subset (h1.mem_iff.mp hu)
    have hlen := h1.length_eq
    have hsl := sub.length_le
    have okT := putT_ok ok (us := qs) (by have := ok.tn; omega) (fun t ht => ok.tel t (hmem t ht)) h2
    obtain ⟨c1, c2, c3⟩ := small_bd okT D.s sn fun s hm => by have := D.sec s hm; omega
    walk_at "s"
    refine ⟨by rfl, _, rfl, okT, by show (1 : Int) ≤ 1; omega, c1, c2, fun gs hgl hgs => ?_⟩
    walk_at "s"
    have hle := sets_le (p := p) (q := putT p qs) (top := topQ p) ⟨hml, hms⟩ ⟨hgl, hgs⟩ rfl fun t x h1 h2 h3 => ⟨mono_less ok hmem h1, h3⟩
    refine ⟨by rfl, gs, ms, topQ p, rfl, ⟨htop, by omega⟩, by rw [hml, hgl]; rfl, by omega, hle, ?_⟩
    walk_at "s"
    refine ⟨fun h => (by cases h), fun _ => ws_next ⟨_, rfl, p5⟩⟩
  rintro ss' st5 ⟨y10, rfl, p5⟩
  refine ws_sA (we_call (wa_cons (we_var rfl (wa_nil ⟨by rfl, p, rfl, by omega, by omega, fun us hul hus => wg_nm ?_⟩))))
  refine ws_seq (ws_if (wt_test (we_op (we_var rfl (we_lst (wa_nil ⟨_, _, purs_nil, by simp, ?_⟩))))))
  refine wr_neD rfl rfl (sh_segs us) (sh_segs []) ?_
  rw [eqv_isNil]
  refine ⟨_, rfl, fun h => ?_, fun h => ws_next ?_⟩
  · have hpos : 0 < us.length := List.length_pos_iff.mpr fun z => by
      rw [z] at h
      simp at h
    refine ws_sA (we_op (we_var rfl (we_call (wa_cons (we_var rfl (wa_cons (we_cb (wa_cons (we_var rfl (wa_nil (wc_len rfl (wa_nil ?_))))))))))))
    rw [List.length_map]
    refine ⟨by rfl, n, _, rfl, by omega, by omega, p5, fun u st6 u0 u1 o6 p6 => ?_⟩
    obtain ⟨k, rfl⟩ := Int.eq_ofNat_of_zero_le u0
    have hk : k < us.length := by omega
    refine wr_ixuL rfl (d := pairT us[k]) (atI_nat (by rw [List.getElem?_map, List.getElem?_eq_getElem hk]; rfl)) ?_
    obtain ⟨t1, t2, t3, t4⟩ := hus _ (List.getElem_mem hk)
    generalize us[k] = tl at t1 t2 t3 t4 ⊢
    refine wg_nm ?_
    refine ws_ret (we_call ?_)
    walk_at "s"
    refine wr_addL rfl rfl (by rw [List.length_map]; exact big_le (by simp; omega)) ?_
    have e : p.ts.map pairT ++ [pairT tl] = (p.ts ++ [tl]).map pairT := by rw [List.map_append]; rfl
    rw [e]
    walk_at "s"
    refine ⟨by rfl, p, _, rfl, List.nodup_append.mpr ⟨tnd, by simp, fun a ha b hb => ?_⟩, by rw [List.length_append]; simp; omega, fun qs h1 h2 => ?_⟩
    · rw [List.mem_singleton.mp hb]
      rintro rfl
      exact t4 ha
    have hlen := h1.length_eq
    rw [List.length_append] at hlen
    have hlen : qs.length = p.ts.length + 1 := hlen
    have okT := putT_ok ok (us := qs) (by omega) (fun t ht => by
      rcases List.mem_append.mp (h1.mem_iff.mp ht) with ht | ht
      · exact ok.tel t ht
      · rw [List.mem_singleton.mp ht]
        exact ⟨t1, t2, t3⟩) h2
    obtain ⟨c1, c2, c3⟩ := small_bd okT D.s sn fun s hm => by have := D.sec s hm; omega
    walk_at "s"
    refine ⟨by rfl, _, rfl, okT, by show (1 : Int) ≤ 1; omega, c1, c2, fun gs hgl hgs => ?_⟩
    walk_at "s"
    have hle := sets_le (p := putT p qs) (q := p) (top := topQ p) ⟨hgl, hgs⟩ ⟨hml, hms⟩ rfl fun t x k1 k2 k3 => ⟨mono_more ok h2 (fun u hu => h1.mem_iff.mpr (List.mem_append.mpr (.inl hu))) k1, k3⟩
    refine ⟨by rfl, ms, gs, topQ p, rfl, ⟨htop, by omega⟩, by rw [hml, hgl]; rfl, by rw [hgl]; show p.ss.length + 1 ≤ 1000; omega, hle, ?_⟩
    exact fin_all (q _)
  · walk_at "s"
    exact fin_all (q _)
end
end K75

/-! EV: from the head's facts to the law: methods, classes. -/
namespace Ct
open PySem PySem.Spec PyProof.Rows L2 NdefX
theorem dm_mk {K : PySem.W.Frag} {C : Addr} {m qual : Str} {st : Stmt} {f : Addr} {oc kV doc pm cdv ct : Value} {od an : Option Addr} {osl : Array (Option Value)} (a : PySem.W.findIn K (.ref C) m = some (some (.ref f))) (i : PySem.W.isFn K (.ref f) = true)
    (l : K.lookup f = some ⟨oc, od, .func (PySem.W.fnOf m qual (defArgs st) (defBody st) (defScope st) .none kV doc pm an cdv ct), osl⟩) (c : PySem.W.codeIn K cdv qual = true) (k : PySem.W.keepIn K (.ref f) = true) : Dm K C m qual st := ⟨f, _, fun_mk l c k, ⟨a, i, k⟩⟩
theorem di_mk {K : PySem.W.Frag} {mg : Str → Option Value} {x qual : Str} {C : Addr} {st : Stmt} {f : Addr} {oc kV doc pm cdv ct : Value} {od an : Option Addr} {osl : Array (Option Value)} (g : mg x = some (.ref C)) (mk : PySem.W.makesIn K C = true)
    (a : PySem.W.findIn K (.ref C) "__init__" = some (some (.ref f))) (i : PySem.W.isFn K (.ref f) = true) (l : K.lookup f = some ⟨oc, od, .func (PySem.W.fnOf "__init__" qual (defArgs st) (defBody st) (defScope st) .none kV doc pm an cdv ct), osl⟩) (c : PySem.W.codeIn K cdv qual = true) (k : PySem.W.keepIn K (.ref f) = true)
    (kc : PySem.W.keepIn K (.ref C) = true) : Di K mg x C qual st := ⟨f, _, fun_mk l c k, ⟨mk, a, i, kc⟩, g⟩
def NAll (K : PySem.W.Frag) (C : Addr) : List Str → Prop
  | [] => True
  | f :: fs => PySem.W.findIn K (.ref C) f = some none ∧ NAll K C fs
theorem NAll.na {K : PySem.W.Frag} {C : Addr} : ∀ {fs : List Str}, NAll K C fs → ∀ f ∈ fs, NoAttr K C f
  | [], _, f, h => by cases h
  | g :: fs, ⟨h1, h2⟩, f, h => by
    rcases List.mem_cons.mp h with rfl | h
    · exact h1
    · exact h2.na f h
theorem Gl1.gathN {K : PySem.W.Frag} {h base : Heap} {mg : Str → Option Value} {x : Str} {st : Stmt} {c P : Addr} {TN : List NTab} {nm : Nat → Nat → Str} (g : Gl1 K h mg x st c P) (TB : LamX.TabB base mg c P) (hm : (P, nm) ∈ TN) (hu : ∀ p ∈ TN, p.1 = P → p.2 = nm) : GathN K base mg TN x st nm := by
  obtain ⟨f, oc, od, kV, doc, pm, an, ct, osl, l, cc, k, m⟩ := g.ex
  exact ⟨f, c, P, oc, od, kV, doc, pm, an, ct, osl, l, cc, k, m, TB, hm, hu⟩
theorem start_relG {K : PySem.W.Frag} {H : Hp} {T : TabI} (ht : T.P H) : Rel K T (fun _ => 0) (noTbl H) H [] where
  sub := fun b o e => (noTbl_to e).1
  nt := fun b ps e => (noTbl_to e).2 ps rfl
  tab := ht
  at_ := fun n c e => by cases n <;> cases e
  inj := fun n m c d e _ _ _ _ => by cases n <;> cases e
theorem start_spG {K : PySem.W.Frag} {H : Hp} {T : TabI} {a : Addr} {ns : List Int} {p : Pre} (ht : T.P H) (hs : SqL K H a (ns.map V.int)) (hp : p [.pd (.list (ns.map PyData.int))] [] fun x _ => x = .pd (.bool true)) :
    spP K T 1 p [.ref a] H (fun v _ => v = .bl true) fun _ _ _ => False :=
  ⟨fun _ => 0, noTbl H, [], [.pd (.list (ns.map PyData.int))], _, start_relG ht, .cons (x := .pd (.list (ns.map PyData.int))) (Dp.lst (start_seq hs) (dps_ints' ns)) .nil, rfl, hp, fun α' F' H' v x st' _ _ hv e => by
    subst e
    exact dp_bl hv⟩
end Ct

namespace K75
open PySem L2 Ct Kp PyProof.Rows NdefX
theorem law_at {l : PySem.W.OpenLaw} {w : World} {K : PySem.W.Frag} {mg : Str → Option Value} {h : Heap} {fa C_Plan C_Ruler c_carcs_gathered P_arcs_gathered : Addr} (hfa : mg "law" = some (.ref fa)) (g_Plan : mg "Plan" = some (.ref C_Plan)) (g_Ruler : mg "Ruler" = some (.ref C_Ruler)) (g_arcs_gathered : Gl1 K h mg "arcs_gathered" s_arcs_gathered c_carcs_gathered P_arcs_gathered) (h_Plan : Cls K C_Plan) (h_Ruler : Cls K C_Ruler) (na_Plan : NAll K C_Plan fl_Plan) (na_Ruler : NAll K C_Ruler fl_Ruler) (kt_Ruler : PySem.W.kitOne K (.type "tuple") (.ref C_Ruler) = some false) (it_Ruler : InsTy K C_Ruler) (d_Plan___init__ : Di K mg "Plan" C_Plan "Plan.__init__" s_Plan___init__) (d_Ruler___init__ : Di K mg "Ruler" C_Ruler "Ruler.__init__" s_Ruler___init__) (d_Plan_start : Dm K C_Plan "start" "Plan.start" s_Plan_start) (d_Plan_many : Dm K C_Plan "many" "Plan.many" s_Plan_many) (d_Plan_first_tell : Dm K C_Plan "first_tell" "Plan.first_tell" s_Plan_first_tell) (d_Plan_check_mark : Dm K C_Plan "check_mark" "Plan.check_mark" s_Plan_check_mark) (d_Plan_open_marks : Dm K C_Plan "open_marks" "Plan.open_marks" s_Plan_open_marks) (d_Ruler_many : Dm K C_Ruler "many" "Ruler.many" s_Ruler_many) (d_Ruler_check_cell : Dm K C_Ruler "check_cell" "Ruler.check_cell" s_Ruler_check_cell) (d_Ruler_first : Dm K C_Ruler "first" "Ruler.first" s_Ruler_first) (d_Plan_has_cell : Dm K C_Plan "has_cell" "Plan.has_cell" s_Plan_has_cell) (d_Plan_first : Dm K C_Plan "first" "Plan.first" s_Plan_first) (d_Ruler_last : Dm K C_Ruler "last" "Ruler.last" s_Ruler_last) (d_Plan_last : Dm K C_Plan "last" "Plan.last" s_Plan_last) (d_Plan_sums : Dm K C_Plan "sums" "Plan.sums" s_Plan_sums) (d_Ruler_cell : Dm K C_Ruler "cell" "Ruler.cell" s_Ruler_cell) (d_Plan_cell : Dm K C_Plan "cell" "Plan.cell" s_Plan_cell) (d_Plan_section : Dm K C_Plan "section" "Plan.section" s_Plan_section) (d_Plan_sections : Dm K C_Plan "sections" "Plan.sections" s_Plan_sections) (d_Plan_tells : Dm K C_Plan "tells" "Plan.tells" s_Plan_tells) (d_Plan_ruler : Dm K C_Plan "ruler" "Plan.ruler" s_Plan_ruler) (d_Plan_range_cells : Dm K C_Plan "range_cells" "Plan.range_cells" s_Plan_range_cells) (d__law_bits : Df K mg "_law_bits" s__law_bits) (d__law_no_less : Df K mg "_law_no_less" s__law_no_less) (d__law_bits_of : Df K mg "_law_bits_of" s__law_bits_of) (d_arcs_hold : Df K mg "arcs_hold" s_arcs_hold) (d_lesser_end : Df K mg "lesser_end" s_lesser_end) (d_arcs_meet : Df K mg "arcs_meet" s_arcs_meet) (d_arcs_union : Df K mg "arcs_union" s_arcs_union) (d_arcs_joined : Df K mg "arcs_joined" s_arcs_joined) (d_arcs_pulled : Df K mg "arcs_pulled" s_arcs_pulled) (d_cut_pieces : Df K mg "cut_pieces" s_cut_pieces) (d_cell_window : Df K mg "cell_window" s_cell_window) (d_windows_to : Df K mg "windows_to" s_windows_to) (d_pulled_set : Df K mg "pulled_set" s_pulled_set) (d_plan_top : Df K mg "plan_top" s_plan_top) (d_wide_sets : Df K mg "wide_sets" s_wide_sets) (d_is_whole : Df K mg "is_whole" s_is_whole) (d_is_row : Df K mg "is_row" s_is_row) (d_are_whole : Df K mg "are_whole" s_are_whole) (d_checked_tells : Df K mg "checked_tells" s_checked_tells) (d_right_section : Df K mg "right_section" s_right_section) (d_checked_sections : Df K mg "checked_sections" s_checked_sections) (d_is_pages : Df K mg "is_pages" s_is_pages) (d_whole_from : Df K mg "whole_from" s_whole_from) (d_check_most : Df K mg "check_most" s_check_most) (d_check_numbers : Df K mg "check_numbers" s_check_numbers) (d_check_lengths_bound : Df K mg "check_lengths_bound" s_check_lengths_bound) (d_kept_with : Df K mg "kept_with" s_kept_with) (d_check_single : Df K mg "check_single" s_check_single) (d_check_spread : Df K mg "check_spread" s_check_spread) (d_plan_verdict : Df K mg "plan_verdict" s_plan_verdict) (d__law_plan_ruler : Df K mg "_law_plan_ruler" s__law_plan_ruler) (d__law_made_plan : Df K mg "_law_made_plan" s__law_made_plan) (d__law_arcs_of : Df K mg "_law_arcs_of" s__law_arcs_of) (d__law_pulled : Df K mg "_law_pulled" s__law_pulled) (d__law_sums : Df K mg "_law_sums" s__law_sums) (d__law_groups : Df K mg "_law_groups" s__law_groups) (d__law_first_tell : Df K mg "_law_first_tell" s__law_first_tell) (d__law_open : Df K mg "_law_open" s__law_open) (d__law_cell : Df K mg "_law_cell" s__law_cell) (d__law_plan_cell : Df K mg "_law_plan_cell" s__law_plan_cell) (d__law_plan_top : Df K mg "_law_plan_top" s__law_plan_top) (d__law_ceilings : Df K mg "_law_ceilings" s__law_ceilings) (d__law_cells : Df K mg "_law_cells" s__law_cells) (d__law_wide_sets : Df K mg "_law_wide_sets" s__law_wide_sets) (d__law_plan_sets : Df K mg "_law_plan_sets" s__law_plan_sets) (d_plan_sets : Df K mg "plan_sets" s_plan_sets) (d__law_sets_told : Df K mg "_law_sets_told" s__law_sets_told) (d__law_tells_put : Df K mg "_law_tells_put" s__law_tells_put) (d__law_draw : Df K mg "_law_draw" s__law_draw) (d__law_new_tells : Df K mg "_law_new_tells" s__law_new_tells) (d__law_section_put : Df K mg "_law_section_put" s__law_section_put) (d__law_draw_tells : Df K mg "_law_draw_tells" s__law_draw_tells) (d__law_draw_ruler : Df K mg "_law_draw_ruler" s__law_draw_ruler) (d__law_draw_section : Df K mg "_law_draw_section" s__law_draw_section) (d__law_draw_world : Df K mg "_law_draw_world" s__law_draw_world) (d__law_purse : Df K mg "_law_purse" s__law_purse) (x_CELLS : ∃ t, mg "CELLS" = some (.int c_CELLS t)) (x_HEIGHTS : ∃ t, mg "HEIGHTS" = some (.int c_HEIGHTS t)) (x_LENGTHS : ∃ t, mg "LENGTHS" = some (.int c_LENGTHS t)) (x_LINES : ∃ t, mg "LINES" = some (.int c_LINES t)) (x_PAGE : ∃ t, mg "PAGE" = some (.int c_PAGE t)) (x_RANGE : ∃ t, mg "RANGE" = some (.int c_RANGE t)) (x_SECTIONS : ∃ t, mg "SECTIONS" = some (.int c_SECTIONS t)) (x_SPREAD : ∃ t, mg "SPREAD" = some (.int c_SPREAD t)) (x_TELLS : ∃ t, mg "TELLS" = some (.int c_TELLS t)) (Z : Zs mg) (d_law : Df K mg "law" s_law) : LamX.LawAtS l w K CX0 12 63 "script" mg fa h := by
  obtain ⟨f, fd, FL, mL⟩ := d_law
  cases hfa.symm.trans mL
  have nT : ∀ p ∈ ([(c_carcs_gathered, P_arcs_gathered)] : List (Addr × Addr)), K.lookup p.2 = none := fun p hp => by
    simp only [List.mem_cons, List.not_mem_nil, or_false] at hp
    rcases hp with rfl
    · exact g_arcs_gathered.no
  have gT : ∀ p ∈ ([(c_carcs_gathered, P_arcs_gathered)] : List (Addr × Addr)), h.get? p.2 = some { cls := .none, data := .fields #[] } := fun p hp => by
    simp only [List.mem_cons, List.not_mem_nil, or_false] at hp
    rcases hp with rfl
    · exact g_arcs_gathered.tb
  have cT : ∀ p ∈ ([(c_carcs_gathered, P_arcs_gathered)] : List (Addr × Addr)), PySem.W.CodeHd h p.1 p.2 := fun p hp => by
    simp only [List.mem_cons, List.not_mem_nil, or_false] at hp
    rcases hp with rfl
    · exact g_arcs_gathered.hd
  have hb : ∀ (s : Shared) (u : Value), BindsTo s fd ⟨[u], []⟩ [("script", u)] := by
    obtain ⟨oc, od, kV, doc, pm, an, cdv, ct, osl, rfl, lk, hcd⟩ := FL.ex
    exact fun s u => .of_eq rfl
  refine ⟨fd, [(c_carcs_gathered, P_arcs_gathered)], spP K (tabL [(P_arcs_gathered, lamQ "arcs_gathered")]) 1 pre_law, gT, nT, cT, hb, fun H a ns hl _ hH hS => ?_, fun base kb gb tb => ?_⟩
  · refine start_spG (T := tabL [(P_arcs_gathered, lamQ "arcs_gathered")]) (fun p hp => ?_) hS ⟨ns, rfl, hl, fun _ => rfl⟩
    rw [List.mem_singleton.mp hp]
    exact ⟨#[], hH (c_carcs_gathered, P_arcs_gathered) (by simp), trivial, fun pos cv e => by cases e⟩
  · skip
    have hG_arcs_gathered := g_arcs_gathered.gath (tb (c_carcs_gathered, P_arcs_gathered) (by simp))
    have c__law_bits := ok__law_bits (P := l.prog) (w := w) (K := K) (mg := mg) (base := base) (T := tabL [(P_arcs_gathered, lamQ "arcs_gathered")])  d__law_bits
    have c__law_no_less := ok__law_no_less (P := l.prog) (w := w) (K := K) (mg := mg) (base := base) (T := tabL [(P_arcs_gathered, lamQ "arcs_gathered")]) c__law_bits Z d__law_no_less
    have c__law_bits_of := ok__law_bits_of (P := l.prog) (w := w) (K := K) (mg := mg) (base := base) (T := tabL [(P_arcs_gathered, lamQ "arcs_gathered")]) c__law_bits d__law_bits_of
    have c_arcs_hold := ok_arcs_hold (P := l.prog) (w := w) (K := K) (mg := mg) (base := base) (T := tabL [(P_arcs_gathered, lamQ "arcs_gathered")])  d_arcs_hold
    have c_Plan_start := ok_Plan_start (P := l.prog) (w := w) (K := K) (mg := mg) (base := base) (T := tabL [(P_arcs_gathered, lamQ "arcs_gathered")]) (C_Plan := C_Plan) (C_Ruler := C_Ruler) h_Plan na_Plan.na d_Plan_start
    have c_Plan_many := ok_Plan_many (P := l.prog) (w := w) (K := K) (mg := mg) (base := base) (T := tabL [(P_arcs_gathered, lamQ "arcs_gathered")]) (C_Plan := C_Plan) (C_Ruler := C_Ruler) Z h_Plan na_Plan.na d_Plan_many
    have c_lesser_end := ok_lesser_end (P := l.prog) (w := w) (K := K) (mg := mg) (base := base) (T := tabL [(P_arcs_gathered, lamQ "arcs_gathered")])  d_lesser_end
    have c_arcs_meet := ok_arcs_meet (P := l.prog) (w := w) (K := K) (mg := mg) (base := base) (T := tabL [(P_arcs_gathered, lamQ "arcs_gathered")]) c_lesser_end Z d_arcs_meet
    have c_arcs_gathered := ok_arcs_gathered (P := l.prog) (w := w) (K := K) (mg := mg) (base := base) (T := tabL [(P_arcs_gathered, lamQ "arcs_gathered")]) Z hG_arcs_gathered
    have c_arcs_union := ok_arcs_union (P := l.prog) (w := w) (K := K) (mg := mg) (base := base) (T := tabL [(P_arcs_gathered, lamQ "arcs_gathered")]) c_arcs_gathered Z d_arcs_union
    have c_arcs_joined := ok_arcs_joined (P := l.prog) (w := w) (K := K) (mg := mg) (base := base) (T := tabL [(P_arcs_gathered, lamQ "arcs_gathered")])  d_arcs_joined
    have c_arcs_pulled := ok_arcs_pulled (P := l.prog) (w := w) (K := K) (mg := mg) (base := base) (T := tabL [(P_arcs_gathered, lamQ "arcs_gathered")]) c_arcs_gathered c_arcs_joined Z d_arcs_pulled
    have c_Plan_first_tell := ok_Plan_first_tell (P := l.prog) (w := w) (K := K) (mg := mg) (base := base) (T := tabL [(P_arcs_gathered, lamQ "arcs_gathered")]) (C_Plan := C_Plan) (C_Ruler := C_Ruler) h_Plan na_Plan.na d_Plan_first_tell
    have c_Plan_check_mark := ok_Plan_check_mark (P := l.prog) (w := w) (K := K) (mg := mg) (base := base) (T := tabL [(P_arcs_gathered, lamQ "arcs_gathered")]) (C_Plan := C_Plan) (C_Ruler := C_Ruler) Z h_Plan na_Plan.na d_Plan_check_mark
    have c_Plan_open_marks := ok_Plan_open_marks (P := l.prog) (w := w) (K := K) (mg := mg) (base := base) (T := tabL [(P_arcs_gathered, lamQ "arcs_gathered")]) (C_Plan := C_Plan) (C_Ruler := C_Ruler) c_Plan_first_tell c_Plan_many c_Plan_check_mark Z h_Plan na_Plan.na d_Plan_open_marks
    have c_cut_pieces := ok_cut_pieces (P := l.prog) (w := w) (K := K) (mg := mg) (base := base) (T := tabL [(P_arcs_gathered, lamQ "arcs_gathered")]) Z d_cut_pieces
    have c_Ruler_many := ok_Ruler_many (P := l.prog) (w := w) (K := K) (mg := mg) (base := base) (T := tabL [(P_arcs_gathered, lamQ "arcs_gathered")]) (C_Ruler := C_Ruler) Z h_Ruler na_Ruler.na d_Ruler_many
    have c_Ruler_check_cell := ok_Ruler_check_cell (P := l.prog) (w := w) (K := K) (mg := mg) (base := base) (T := tabL [(P_arcs_gathered, lamQ "arcs_gathered")]) (C_Ruler := C_Ruler) c_Ruler_many h_Ruler na_Ruler.na d_Ruler_check_cell
    have c_Ruler_first := ok_Ruler_first (P := l.prog) (w := w) (K := K) (mg := mg) (base := base) (T := tabL [(P_arcs_gathered, lamQ "arcs_gathered")]) (C_Ruler := C_Ruler) c_Ruler_check_cell h_Ruler na_Ruler.na d_Ruler_first
    have c_Plan_has_cell := ok_Plan_has_cell (P := l.prog) (w := w) (K := K) (mg := mg) (base := base) (T := tabL [(P_arcs_gathered, lamQ "arcs_gathered")]) (C_Plan := C_Plan) (C_Ruler := C_Ruler) c_Ruler_many h_Ruler h_Plan na_Ruler.na na_Plan.na d_Plan_has_cell
    have c_Plan_first := ok_Plan_first (P := l.prog) (w := w) (K := K) (mg := mg) (base := base) (T := tabL [(P_arcs_gathered, lamQ "arcs_gathered")]) (C_Plan := C_Plan) (C_Ruler := C_Ruler) c_Ruler_first c_Plan_has_cell h_Plan h_Ruler na_Plan.na na_Ruler.na d_Plan_first
    have c_Ruler_last := ok_Ruler_last (P := l.prog) (w := w) (K := K) (mg := mg) (base := base) (T := tabL [(P_arcs_gathered, lamQ "arcs_gathered")]) (C_Ruler := C_Ruler) c_Ruler_many c_Ruler_check_cell h_Ruler na_Ruler.na d_Ruler_last
    have c_Plan_last := ok_Plan_last (P := l.prog) (w := w) (K := K) (mg := mg) (base := base) (T := tabL [(P_arcs_gathered, lamQ "arcs_gathered")]) (C_Plan := C_Plan) (C_Ruler := C_Ruler) c_Ruler_last c_Plan_has_cell h_Plan h_Ruler na_Plan.na na_Ruler.na d_Plan_last
    have c_Plan_sums := ok_Plan_sums (P := l.prog) (w := w) (K := K) (mg := mg) (base := base) (T := tabL [(P_arcs_gathered, lamQ "arcs_gathered")]) (C_Plan := C_Plan) (C_Ruler := C_Ruler) c_Plan_check_mark h_Plan na_Plan.na d_Plan_sums
    have c_cell_window := ok_cell_window (P := l.prog) (w := w) (K := K) (mg := mg) (base := base) (T := tabL [(P_arcs_gathered, lamQ "arcs_gathered")]) (C_Plan := C_Plan) (C_Ruler := C_Ruler) c_Plan_first c_Plan_last c_Plan_sums Z h_Plan na_Plan.na d_cell_window
    have c_Ruler_cell := ok_Ruler_cell (P := l.prog) (w := w) (K := K) (mg := mg) (base := base) (T := tabL [(P_arcs_gathered, lamQ "arcs_gathered")]) (C_Ruler := C_Ruler) Z h_Ruler na_Ruler.na d_Ruler_cell
    have c_Plan_cell := ok_Plan_cell (P := l.prog) (w := w) (K := K) (mg := mg) (base := base) (T := tabL [(P_arcs_gathered, lamQ "arcs_gathered")]) (C_Plan := C_Plan) (C_Ruler := C_Ruler) c_Ruler_cell h_Plan h_Ruler na_Plan.na na_Ruler.na d_Plan_cell
    have c_windows_to := ok_windows_to (P := l.prog) (w := w) (K := K) (mg := mg) (base := base) (T := tabL [(P_arcs_gathered, lamQ "arcs_gathered")]) (C_Plan := C_Plan) (C_Ruler := C_Ruler) c_Plan_first c_Plan_has_cell c_cell_window c_Plan_cell c_Plan_sums h_Plan na_Plan.na d_windows_to
    have c_Plan_section := ok_Plan_section (P := l.prog) (w := w) (K := K) (mg := mg) (base := base) (T := tabL [(P_arcs_gathered, lamQ "arcs_gathered")]) (C_Plan := C_Plan) (C_Ruler := C_Ruler) Z h_Plan na_Plan.na d_Plan_section
    have c_pulled_set := ok_pulled_set (P := l.prog) (w := w) (K := K) (mg := mg) (base := base) (T := tabL [(P_arcs_gathered, lamQ "arcs_gathered")]) (C_Plan := C_Plan) (C_Ruler := C_Ruler) c_arcs_union c_arcs_pulled c_arcs_meet c_Plan_open_marks c_cut_pieces c_windows_to c_Plan_section Z h_Plan na_Plan.na d_pulled_set
    have c_Plan_sections := ok_Plan_sections (P := l.prog) (w := w) (K := K) (mg := mg) (base := base) (T := tabL [(P_arcs_gathered, lamQ "arcs_gathered")]) (C_Plan := C_Plan) (C_Ruler := C_Ruler) Z h_Plan na_Plan.na d_Plan_sections
    have c_plan_top := ok_plan_top (P := l.prog) (w := w) (K := K) (mg := mg) (base := base) (T := tabL [(P_arcs_gathered, lamQ "arcs_gathered")]) (C_Plan := C_Plan) (C_Ruler := C_Ruler) c_Plan_sections c_Plan_start h_Plan na_Plan.na d_plan_top
    have c_wide_sets := ok_wide_sets (P := l.prog) (w := w) (K := K) (mg := mg) (base := base) (T := tabL [(P_arcs_gathered, lamQ "arcs_gathered")]) (C_Plan := C_Plan) (C_Ruler := C_Ruler) c_Plan_many c_arcs_meet c_pulled_set c_Plan_sections c_plan_top Z h_Plan na_Plan.na d_wide_sets
    have c_is_whole := ok_is_whole (P := l.prog) (w := w) (K := K) (mg := mg) (base := base) (T := tabL [(P_arcs_gathered, lamQ "arcs_gathered")]) Z d_is_whole
    have c_is_row := ok_is_row (P := l.prog) (w := w) (K := K) (mg := mg) (base := base) (T := tabL [(P_arcs_gathered, lamQ "arcs_gathered")]) (C_Ruler := C_Ruler) Z it_Ruler d_is_row
    have c_are_whole := ok_are_whole (P := l.prog) (w := w) (K := K) (mg := mg) (base := base) (T := tabL [(P_arcs_gathered, lamQ "arcs_gathered")]) (C_Ruler := C_Ruler) c_is_whole c_is_row Z d_are_whole
    have c_checked_tells := ok_checked_tells (P := l.prog) (w := w) (K := K) (mg := mg) (base := base) (T := tabL [(P_arcs_gathered, lamQ "arcs_gathered")]) c_are_whole Z d_checked_tells
    have c_right_section := ok_right_section (P := l.prog) (w := w) (K := K) (mg := mg) (base := base) (T := tabL [(P_arcs_gathered, lamQ "arcs_gathered")]) c_are_whole d_right_section
    have c_checked_sections := ok_checked_sections (P := l.prog) (w := w) (K := K) (mg := mg) (base := base) (T := tabL [(P_arcs_gathered, lamQ "arcs_gathered")]) c_right_section Z d_checked_sections
    have c_is_pages := ok_is_pages (P := l.prog) (w := w) (K := K) (mg := mg) (base := base) (T := tabL [(P_arcs_gathered, lamQ "arcs_gathered")]) (C_Ruler := C_Ruler) c_is_row Z d_is_pages
    have c_whole_from := ok_whole_from (P := l.prog) (w := w) (K := K) (mg := mg) (base := base) (T := tabL [(P_arcs_gathered, lamQ "arcs_gathered")]) c_is_whole d_whole_from
    have c_check_most := ok_check_most (P := l.prog) (w := w) (K := K) (mg := mg) (base := base) (T := tabL [(P_arcs_gathered, lamQ "arcs_gathered")]) c_is_whole d_check_most
    have c_check_numbers := ok_check_numbers (P := l.prog) (w := w) (K := K) (mg := mg) (base := base) (T := tabL [(P_arcs_gathered, lamQ "arcs_gathered")]) c_check_most d_check_numbers
    have c_check_lengths_bound := ok_check_lengths_bound (P := l.prog) (w := w) (K := K) (mg := mg) (base := base) (T := tabL [(P_arcs_gathered, lamQ "arcs_gathered")]) (C_Ruler := C_Ruler) c_is_row c_check_numbers x_LENGTHS d_check_lengths_bound
    have c_Plan___init__ := ok_Plan___init__ (P := l.prog) (w := w) (K := K) (mg := mg) (base := base) (T := tabL [(P_arcs_gathered, lamQ "arcs_gathered")]) (C_Plan := C_Plan) (C_Ruler := C_Ruler) c_checked_tells c_checked_sections c_is_pages c_whole_from c_check_most c_check_lengths_bound Z x_RANGE x_PAGE x_TELLS x_SECTIONS x_LINES h_Plan na_Plan.na g_Ruler kt_Ruler it_Ruler d_Plan___init__
    have c_Plan_tells := ok_Plan_tells (P := l.prog) (w := w) (K := K) (mg := mg) (base := base) (T := tabL [(P_arcs_gathered, lamQ "arcs_gathered")]) (C_Plan := C_Plan) (C_Ruler := C_Ruler) Z h_Plan na_Plan.na d_Plan_tells
    have c_Plan_ruler := ok_Plan_ruler (P := l.prog) (w := w) (K := K) (mg := mg) (base := base) (T := tabL [(P_arcs_gathered, lamQ "arcs_gathered")]) (C_Plan := C_Plan) (C_Ruler := C_Ruler) h_Plan na_Plan.na d_Plan_ruler
    have c_kept_with := ok_kept_with (P := l.prog) (w := w) (K := K) (mg := mg) (base := base) (T := tabL [(P_arcs_gathered, lamQ "arcs_gathered")]) (C_Plan := C_Plan) (C_Ruler := C_Ruler) c_arcs_hold c_Plan_start c_wide_sets c_Plan___init__ c_Plan_tells c_Plan_sections c_Plan_ruler h_Plan na_Plan.na d_kept_with
    have c_Plan_range_cells := ok_Plan_range_cells (P := l.prog) (w := w) (K := K) (mg := mg) (base := base) (T := tabL [(P_arcs_gathered, lamQ "arcs_gathered")]) (C_Plan := C_Plan) (C_Ruler := C_Ruler) h_Plan na_Plan.na d_Plan_range_cells
    have c_check_single := ok_check_single (P := l.prog) (w := w) (K := K) (mg := mg) (base := base) (T := tabL [(P_arcs_gathered, lamQ "arcs_gathered")]) (C_Plan := C_Plan) (C_Ruler := C_Ruler) c_Plan_range_cells h_Plan na_Plan.na d_check_single
    have c_check_spread := ok_check_spread (P := l.prog) (w := w) (K := K) (mg := mg) (base := base) (T := tabL [(P_arcs_gathered, lamQ "arcs_gathered")]) (C_Plan := C_Plan) (C_Ruler := C_Ruler) c_check_most c_Plan_cell c_plan_top x_SPREAD h_Plan na_Plan.na d_check_spread
    have c_plan_verdict := ok_plan_verdict (P := l.prog) (w := w) (K := K) (mg := mg) (base := base) (T := tabL [(P_arcs_gathered, lamQ "arcs_gathered")]) (C_Plan := C_Plan) (C_Ruler := C_Ruler) c_kept_with c_Plan_tells c_check_single c_check_spread Z h_Plan na_Plan.na d_plan_verdict
    have c_Ruler___init__ := ok_Ruler___init__ (P := l.prog) (w := w) (K := K) (mg := mg) (base := base) (T := tabL [(P_arcs_gathered, lamQ "arcs_gathered")]) (C_Ruler := C_Ruler) c_check_numbers c_check_most Z x_HEIGHTS x_CELLS h_Ruler na_Ruler.na d_Ruler___init__
    have c__law_plan_ruler := ok__law_plan_ruler (P := l.prog) (w := w) (K := K) (mg := mg) (base := base) (T := tabL [(P_arcs_gathered, lamQ "arcs_gathered")]) (C_Ruler := C_Ruler) c_Ruler___init__ Z d__law_plan_ruler
    have c__law_made_plan := ok__law_made_plan (P := l.prog) (w := w) (K := K) (mg := mg) (base := base) (T := tabL [(P_arcs_gathered, lamQ "arcs_gathered")]) (C_Plan := C_Plan) (C_Ruler := C_Ruler) c_Plan___init__ c__law_plan_ruler Z d__law_made_plan
    have c__law_arcs_of := ok__law_arcs_of (P := l.prog) (w := w) (K := K) (mg := mg) (base := base) (T := tabL [(P_arcs_gathered, lamQ "arcs_gathered")]) Z d__law_arcs_of
    have c__law_pulled := ok__law_pulled (P := l.prog) (w := w) (K := K) (mg := mg) (base := base) (T := tabL [(P_arcs_gathered, lamQ "arcs_gathered")]) Z d__law_pulled
    have c__law_sums := ok__law_sums (P := l.prog) (w := w) (K := K) (mg := mg) (base := base) (T := tabL [(P_arcs_gathered, lamQ "arcs_gathered")]) Z d__law_sums
    have c__law_groups := ok__law_groups (P := l.prog) (w := w) (K := K) (mg := mg) (base := base) (T := tabL [(P_arcs_gathered, lamQ "arcs_gathered")]) c__law_bits c__law_sums Z d__law_groups
    have c__law_first_tell := ok__law_first_tell (P := l.prog) (w := w) (K := K) (mg := mg) (base := base) (T := tabL [(P_arcs_gathered, lamQ "arcs_gathered")]) Z d__law_first_tell
    have c__law_open := ok__law_open (P := l.prog) (w := w) (K := K) (mg := mg) (base := base) (T := tabL [(P_arcs_gathered, lamQ "arcs_gathered")]) c__law_first_tell Z d__law_open
    have c__law_cell := ok__law_cell (P := l.prog) (w := w) (K := K) (mg := mg) (base := base) (T := tabL [(P_arcs_gathered, lamQ "arcs_gathered")])  d__law_cell
    have c__law_plan_cell := ok__law_plan_cell (P := l.prog) (w := w) (K := K) (mg := mg) (base := base) (T := tabL [(P_arcs_gathered, lamQ "arcs_gathered")]) c__law_cell Z d__law_plan_cell
    have c__law_plan_top := ok__law_plan_top (P := l.prog) (w := w) (K := K) (mg := mg) (base := base) (T := tabL [(P_arcs_gathered, lamQ "arcs_gathered")]) Z d__law_plan_top
    have c__law_ceilings := ok__law_ceilings (P := l.prog) (w := w) (K := K) (mg := mg) (base := base) (T := tabL [(P_arcs_gathered, lamQ "arcs_gathered")]) c__law_plan_top Z d__law_ceilings
    have c__law_cells := ok__law_cells (P := l.prog) (w := w) (K := K) (mg := mg) (base := base) (T := tabL [(P_arcs_gathered, lamQ "arcs_gathered")]) c__law_plan_cell c__law_ceilings Z d__law_cells
    have c__law_wide_sets := ok__law_wide_sets (P := l.prog) (w := w) (K := K) (mg := mg) (base := base) (T := tabL [(P_arcs_gathered, lamQ "arcs_gathered")]) c__law_pulled c__law_groups c__law_open c__law_bits c__law_cells c__law_ceilings Z d__law_wide_sets
    have c__law_plan_sets := ok__law_plan_sets (P := l.prog) (w := w) (K := K) (mg := mg) (base := base) (T := tabL [(P_arcs_gathered, lamQ "arcs_gathered")]) c__law_wide_sets c__law_bits c__law_plan_top d__law_plan_sets
    have c_plan_sets := ok_plan_sets (P := l.prog) (w := w) (K := K) (mg := mg) (base := base) (T := tabL [(P_arcs_gathered, lamQ "arcs_gathered")]) (C_Plan := C_Plan) (C_Ruler := C_Ruler) c_wide_sets c_arcs_meet c_plan_top c_check_single c_check_spread d_plan_sets
    have c__law_sets_told := ok__law_sets_told (P := l.prog) (w := w) (K := K) (mg := mg) (base := base) (T := tabL [(P_arcs_gathered, lamQ "arcs_gathered")]) (C_Plan := C_Plan) (C_Ruler := C_Ruler) c__law_bits_of c_plan_verdict c__law_made_plan c__law_arcs_of c__law_plan_sets c_plan_sets Z d__law_sets_told
    have c__law_tells_put := ok__law_tells_put (P := l.prog) (w := w) (K := K) (mg := mg) (base := base) (T := tabL [(P_arcs_gathered, lamQ "arcs_gathered")]) Z d__law_tells_put
    have c__law_draw := ok__law_draw (P := l.prog) (w := w) (K := K) (mg := mg) (base := base) (T := tabL [(P_arcs_gathered, lamQ "arcs_gathered")]) Z d__law_draw
    have c__law_new_tells := ok__law_new_tells (P := l.prog) (w := w) (K := K) (mg := mg) (base := base) (T := tabL [(P_arcs_gathered, lamQ "arcs_gathered")]) Z d__law_new_tells
    have c__law_section_put := ok__law_section_put (P := l.prog) (w := w) (K := K) (mg := mg) (base := base) (T := tabL [(P_arcs_gathered, lamQ "arcs_gathered")])  d__law_section_put
    have c__law_draw_tells := ok__law_draw_tells (P := l.prog) (w := w) (K := K) (mg := mg) (base := base) (T := tabL [(P_arcs_gathered, lamQ "arcs_gathered")]) c__law_draw Z d__law_draw_tells
    have c__law_draw_ruler := ok__law_draw_ruler (P := l.prog) (w := w) (K := K) (mg := mg) (base := base) (T := tabL [(P_arcs_gathered, lamQ "arcs_gathered")]) c__law_draw Z d__law_draw_ruler
    have c__law_draw_section := ok__law_draw_section (P := l.prog) (w := w) (K := K) (mg := mg) (base := base) (T := tabL [(P_arcs_gathered, lamQ "arcs_gathered")]) c__law_draw Z d__law_draw_section
    have c__law_draw_world := ok__law_draw_world (P := l.prog) (w := w) (K := K) (mg := mg) (base := base) (T := tabL [(P_arcs_gathered, lamQ "arcs_gathered")]) c__law_draw c__law_draw_tells c__law_draw_ruler c__law_draw_section Z d__law_draw_world
    have c__law_purse := ok__law_purse (P := l.prog) (w := w) (K := K) (mg := mg) (base := base) (T := tabL [(P_arcs_gathered, lamQ "arcs_gathered")]) Z d__law_purse
    exact fn_law (P := l.prog) (w := w) (K := K) (mg := mg) (base := base) (T := tabL [(P_arcs_gathered, lamQ "arcs_gathered")]) c__law_no_less c__law_sets_told c__law_tells_put c__law_draw c__law_new_tells c__law_section_put c__law_plan_top c__law_draw_world c__law_purse Z FL
end K75
open PySem PySem.W PyProof.Rows
set_option maxHeartbeats 0 in
theorem PySem.Challenge.cw_comestrue_k75_whole_pads_tells_and_freed_holds : PySem.Challenge.rw_comestrue_k75_whole_pads_tells_and_freed.Holds := by
  w_on; o_law; k_head; (case hw => w_witness2)
  k_fill
  refine LamX.walk_ofTs (l := PySem.Challenge.rw_comestrue_k75_whole_pads_tells_and_freed) (n := 63) (k := 12) (x := "script") (CX := fun _ => L2.CX0) rfl (by decide) rfl ⟨rfl, by decide, by decide⟩ (fun w h Y => PySem.W.km_in_of Y) ?F (fun _ _ _ _ _ h => h)
  case F =>
    intro w mg fa h Y KX G hmg
    have hT := PySem.W.km_tabs_of Y
    refine' K75.law_at hmg ?q0 ?q1 ?q2 ?q3 ?q4 ?q5 ?q6 ?q7 ?q8 ?q9 ?q10 ?q11 ?q12 ?q13 ?q14 ?q15 ?q16 ?q17 ?q18 ?q19 ?q20 ?q21 ?q22 ?q23 ?q24 ?q25 ?q26 ?q27 ?q28 ?q29 ?q30 ?q31 ?q32 ?q33 ?q34 ?q35 ?q36 ?q37 ?q38 ?q39 ?q40 ?q41 ?q42 ?q43 ?q44 ?q45 ?q46 ?q47 ?q48 ?q49 ?q50 ?q51 ?q52 ?q53 ?q54 ?q55 ?q56 ?q57 ?q58 ?q59 ?q60 ?q61 ?q62 ?q63 ?q64 ?q65 ?q66 ?q67 ?q68 ?q69 ?q70 ?q71 ?q72 ?q73 ?q74 ?q75 ?q76 ?q77 ?q78 ?q79 ?q80 ?q81 ?q82 ?q83 ?q84 ?q85 ?q86 ?q87 ?q88 ?q89 ?q90 ?q91 ?q92 ?q93 ?q94 ?q95 ?q96 ?q97
    case q0 => refine' PySem.W.mg_of KX G ?a; (case a => k_is)
    case q1 => refine' PySem.W.mg_of KX G ?a; (case a => k_is)
    case q2 => refine' Ct.gl1_mk KX G ?a ?l ?c ?k ?hd (hT 128 (by k_mem)) ?no; (case a => k_is); (case l => k_is); (case c => k_is); (case k => k_is); (case hd => kernel_rfl); (case no => kernel_rfl)
    case q3 => refine' ⟨?pg, ?hd, ?po, ?sa⟩; (case pg => k_is); (case hd => k_is); (case po => k_is); (case sa => k_is)
    case q4 => refine' ⟨?pg, ?hd, ?po, ?sa⟩; (case pg => k_is); (case hd => k_is); (case po => k_is); (case sa => k_is)
    case q5 => refine' ⟨?n0, ?n1, ?n2, ?n3, ?n4, ?n5, trivial⟩; (case n0 => k_is); (case n1 => k_is); (case n2 => k_is); (case n3 => k_is); (case n4 => k_is); (case n5 => k_is)
    case q6 => refine' ⟨?n0, ?n1, trivial⟩; (case n0 => k_is); (case n1 => k_is)
    case q7 => kernel_rfl
    case q8 => refine' ⟨?cl, ?ha, ?hn, ?htk, ?hm, ?row, ?own⟩; (case cl => (refine' ⟨?pg, ?hd, ?po, ?sa⟩; (case pg => k_is); (case hd => k_is); (case po => k_is); (case sa => k_is))); (case ha => k_is); (case hn => k_is); (case htk => k_is); (case hm => k_is); (case row => kernel_rfl); (case own => kernel_rfl)
    case q9 => refine' Ct.di_mk (PySem.W.mg_of KX G ?g) ?mk ?a ?i ?l ?c ?k ?kc; (case g => k_is); (case mk => k_is); (case a => k_is); (case i => k_is); (case l => k_is); (case c => k_is); (case k => k_is); (case kc => k_is)
    case q10 => refine' Ct.di_mk (PySem.W.mg_of KX G ?g) ?mk ?a ?i ?l ?c ?k ?kc; (case g => k_is); (case mk => k_is); (case a => k_is); (case i => k_is); (case l => k_is); (case c => k_is); (case k => k_is); (case kc => k_is)
    case q11 => refine' Ct.dm_mk ?a ?i ?l ?c ?k; (case a => k_is); (case i => k_is); (case l => k_is); (case c => k_is); (case k => k_is)
    case q12 => refine' Ct.dm_mk ?a ?i ?l ?c ?k; (case a => k_is); (case i => k_is); (case l => k_is); (case c => k_is); (case k => k_is)
    case q13 => refine' Ct.dm_mk ?a ?i ?l ?c ?k; (case a => k_is); (case i => k_is); (case l => k_is); (case c => k_is); (case k => k_is)
    case q14 => refine' Ct.dm_mk ?a ?i ?l ?c ?k; (case a => k_is); (case i => k_is); (case l => k_is); (case c => k_is); (case k => k_is)
    case q15 => refine' Ct.dm_mk ?a ?i ?l ?c ?k; (case a => k_is); (case i => k_is); (case l => k_is); (case c => k_is); (case k => k_is)
    case q16 => refine' Ct.dm_mk ?a ?i ?l ?c ?k; (case a => k_is); (case i => k_is); (case l => k_is); (case c => k_is); (case k => k_is)
    case q17 => refine' Ct.dm_mk ?a ?i ?l ?c ?k; (case a => k_is); (case i => k_is); (case l => k_is); (case c => k_is); (case k => k_is)
    case q18 => refine' Ct.dm_mk ?a ?i ?l ?c ?k; (case a => k_is); (case i => k_is); (case l => k_is); (case c => k_is); (case k => k_is)
    case q19 => refine' Ct.dm_mk ?a ?i ?l ?c ?k; (case a => k_is); (case i => k_is); (case l => k_is); (case c => k_is); (case k => k_is)
    case q20 => refine' Ct.dm_mk ?a ?i ?l ?c ?k; (case a => k_is); (case i => k_is); (case l => k_is); (case c => k_is); (case k => k_is)
    case q21 => refine' Ct.dm_mk ?a ?i ?l ?c ?k; (case a => k_is); (case i => k_is); (case l => k_is); (case c => k_is); (case k => k_is)
    case q22 => refine' Ct.dm_mk ?a ?i ?l ?c ?k; (case a => k_is); (case i => k_is); (case l => k_is); (case c => k_is); (case k => k_is)
    case q23 => refine' Ct.dm_mk ?a ?i ?l ?c ?k; (case a => k_is); (case i => k_is); (case l => k_is); (case c => k_is); (case k => k_is)
    case q24 => refine' Ct.dm_mk ?a ?i ?l ?c ?k; (case a => k_is); (case i => k_is); (case l => k_is); (case c => k_is); (case k => k_is)
    case q25 => refine' Ct.dm_mk ?a ?i ?l ?c ?k; (case a => k_is); (case i => k_is); (case l => k_is); (case c => k_is); (case k => k_is)
    case q26 => refine' Ct.dm_mk ?a ?i ?l ?c ?k; (case a => k_is); (case i => k_is); (case l => k_is); (case c => k_is); (case k => k_is)
    case q27 => refine' Ct.dm_mk ?a ?i ?l ?c ?k; (case a => k_is); (case i => k_is); (case l => k_is); (case c => k_is); (case k => k_is)
    case q28 => refine' Ct.dm_mk ?a ?i ?l ?c ?k; (case a => k_is); (case i => k_is); (case l => k_is); (case c => k_is); (case k => k_is)
    case q29 => refine' Ct.dm_mk ?a ?i ?l ?c ?k; (case a => k_is); (case i => k_is); (case l => k_is); (case c => k_is); (case k => k_is)
    case q30 => refine' Ct.dm_mk ?a ?i ?l ?c ?k; (case a => k_is); (case i => k_is); (case l => k_is); (case c => k_is); (case k => k_is)
    case q31 => refine' Ct.df_mk KX G ?a ?l ?c ?k; (case a => k_is); (case l => k_is); (case c => k_is); (case k => k_is)
    case q32 => refine' Ct.df_mk KX G ?a ?l ?c ?k; (case a => k_is); (case l => k_is); (case c => k_is); (case k => k_is)
    case q33 => refine' Ct.df_mk KX G ?a ?l ?c ?k; (case a => k_is); (case l => k_is); (case c => k_is); (case k => k_is)
    case q34 => refine' Ct.df_mk KX G ?a ?l ?c ?k; (case a => k_is); (case l => k_is); (case c => k_is); (case k => k_is)
    case q35 => refine' Ct.df_mk KX G ?a ?l ?c ?k; (case a => k_is); (case l => k_is); (case c => k_is); (case k => k_is)
    case q36 => refine' Ct.df_mk KX G ?a ?l ?c ?k; (case a => k_is); (case l => k_is); (case c => k_is); (case k => k_is)
    case q37 => refine' Ct.df_mk KX G ?a ?l ?c ?k; (case a => k_is); (case l => k_is); (case c => k_is); (case k => k_is)
    case q38 => refine' Ct.df_mk KX G ?a ?l ?c ?k; (case a => k_is); (case l => k_is); (case c => k_is); (case k => k_is)
    case q39 => refine' Ct.df_mk KX G ?a ?l ?c ?k; (case a => k_is); (case l => k_is); (case c => k_is); (case k => k_is)
    case q40 => refine' Ct.df_mk KX G ?a ?l ?c ?k; (case a => k_is); (case l => k_is); (case c => k_is); (case k => k_is)
    case q41 => refine' Ct.df_mk KX G ?a ?l ?c ?k; (case a => k_is); (case l => k_is); (case c => k_is); (case k => k_is)
    case q42 => refine' Ct.df_mk KX G ?a ?l ?c ?k; (case a => k_is); (case l => k_is); (case c => k_is); (case k => k_is)
    case q43 => refine' Ct.df_mk KX G ?a ?l ?c ?k; (case a => k_is); (case l => k_is); (case c => k_is); (case k => k_is)
    case q44 => refine' Ct.df_mk KX G ?a ?l ?c ?k; (case a => k_is); (case l => k_is); (case c => k_is); (case k => k_is)
    case q45 => refine' Ct.df_mk KX G ?a ?l ?c ?k; (case a => k_is); (case l => k_is); (case c => k_is); (case k => k_is)
    case q46 => refine' Ct.df_mk KX G ?a ?l ?c ?k; (case a => k_is); (case l => k_is); (case c => k_is); (case k => k_is)
    case q47 => refine' Ct.df_mk KX G ?a ?l ?c ?k; (case a => k_is); (case l => k_is); (case c => k_is); (case k => k_is)
    case q48 => refine' Ct.df_mk KX G ?a ?l ?c ?k; (case a => k_is); (case l => k_is); (case c => k_is); (case k => k_is)
    case q49 => refine' Ct.df_mk KX G ?a ?l ?c ?k; (case a => k_is); (case l => k_is); (case c => k_is); (case k => k_is)
    case q50 => refine' Ct.df_mk KX G ?a ?l ?c ?k; (case a => k_is); (case l => k_is); (case c => k_is); (case k => k_is)
    case q51 => refine' Ct.df_mk KX G ?a ?l ?c ?k; (case a => k_is); (case l => k_is); (case c => k_is); (case k => k_is)
    case q52 => refine' Ct.df_mk KX G ?a ?l ?c ?k; (case a => k_is); (case l => k_is); (case c => k_is); (case k => k_is)
    case q53 => refine' Ct.df_mk KX G ?a ?l ?c ?k; (case a => k_is); (case l => k_is); (case c => k_is); (case k => k_is)
    case q54 => refine' Ct.df_mk KX G ?a ?l ?c ?k; (case a => k_is); (case l => k_is); (case c => k_is); (case k => k_is)
    case q55 => refine' Ct.df_mk KX G ?a ?l ?c ?k; (case a => k_is); (case l => k_is); (case c => k_is); (case k => k_is)
    case q56 => refine' Ct.df_mk KX G ?a ?l ?c ?k; (case a => k_is); (case l => k_is); (case c => k_is); (case k => k_is)
    case q57 => refine' Ct.df_mk KX G ?a ?l ?c ?k; (case a => k_is); (case l => k_is); (case c => k_is); (case k => k_is)
    case q58 => refine' Ct.df_mk KX G ?a ?l ?c ?k; (case a => k_is); (case l => k_is); (case c => k_is); (case k => k_is)
    case q59 => refine' Ct.df_mk KX G ?a ?l ?c ?k; (case a => k_is); (case l => k_is); (case c => k_is); (case k => k_is)
    case q60 => refine' Ct.df_mk KX G ?a ?l ?c ?k; (case a => k_is); (case l => k_is); (case c => k_is); (case k => k_is)
    case q61 => refine' Ct.df_mk KX G ?a ?l ?c ?k; (case a => k_is); (case l => k_is); (case c => k_is); (case k => k_is)
    case q62 => refine' Ct.df_mk KX G ?a ?l ?c ?k; (case a => k_is); (case l => k_is); (case c => k_is); (case k => k_is)
    case q63 => refine' Ct.df_mk KX G ?a ?l ?c ?k; (case a => k_is); (case l => k_is); (case c => k_is); (case k => k_is)
    case q64 => refine' Ct.df_mk KX G ?a ?l ?c ?k; (case a => k_is); (case l => k_is); (case c => k_is); (case k => k_is)
    case q65 => refine' Ct.df_mk KX G ?a ?l ?c ?k; (case a => k_is); (case l => k_is); (case c => k_is); (case k => k_is)
    case q66 => refine' Ct.df_mk KX G ?a ?l ?c ?k; (case a => k_is); (case l => k_is); (case c => k_is); (case k => k_is)
    case q67 => refine' Ct.df_mk KX G ?a ?l ?c ?k; (case a => k_is); (case l => k_is); (case c => k_is); (case k => k_is)
    case q68 => refine' Ct.df_mk KX G ?a ?l ?c ?k; (case a => k_is); (case l => k_is); (case c => k_is); (case k => k_is)
    case q69 => refine' Ct.df_mk KX G ?a ?l ?c ?k; (case a => k_is); (case l => k_is); (case c => k_is); (case k => k_is)
    case q70 => refine' Ct.df_mk KX G ?a ?l ?c ?k; (case a => k_is); (case l => k_is); (case c => k_is); (case k => k_is)
    case q71 => refine' Ct.df_mk KX G ?a ?l ?c ?k; (case a => k_is); (case l => k_is); (case c => k_is); (case k => k_is)
    case q72 => refine' Ct.df_mk KX G ?a ?l ?c ?k; (case a => k_is); (case l => k_is); (case c => k_is); (case k => k_is)
    case q73 => refine' Ct.df_mk KX G ?a ?l ?c ?k; (case a => k_is); (case l => k_is); (case c => k_is); (case k => k_is)
    case q74 => refine' Ct.df_mk KX G ?a ?l ?c ?k; (case a => k_is); (case l => k_is); (case c => k_is); (case k => k_is)
    case q75 => refine' Ct.df_mk KX G ?a ?l ?c ?k; (case a => k_is); (case l => k_is); (case c => k_is); (case k => k_is)
    case q76 => refine' Ct.df_mk KX G ?a ?l ?c ?k; (case a => k_is); (case l => k_is); (case c => k_is); (case k => k_is)
    case q77 => refine' Ct.df_mk KX G ?a ?l ?c ?k; (case a => k_is); (case l => k_is); (case c => k_is); (case k => k_is)
    case q78 => refine' Ct.df_mk KX G ?a ?l ?c ?k; (case a => k_is); (case l => k_is); (case c => k_is); (case k => k_is)
    case q79 => refine' Ct.df_mk KX G ?a ?l ?c ?k; (case a => k_is); (case l => k_is); (case c => k_is); (case k => k_is)
    case q80 => refine' Ct.df_mk KX G ?a ?l ?c ?k; (case a => k_is); (case l => k_is); (case c => k_is); (case k => k_is)
    case q81 => refine' Ct.df_mk KX G ?a ?l ?c ?k; (case a => k_is); (case l => k_is); (case c => k_is); (case k => k_is)
    case q82 => refine' Ct.df_mk KX G ?a ?l ?c ?k; (case a => k_is); (case l => k_is); (case c => k_is); (case k => k_is)
    case q83 => refine' Ct.df_mk KX G ?a ?l ?c ?k; (case a => k_is); (case l => k_is); (case c => k_is); (case k => k_is)
    case q84 => refine' Ct.df_mk KX G ?a ?l ?c ?k; (case a => k_is); (case l => k_is); (case c => k_is); (case k => k_is)
    case q85 => refine' Ct.df_mk KX G ?a ?l ?c ?k; (case a => k_is); (case l => k_is); (case c => k_is); (case k => k_is)
    case q86 => refine' Ct.df_mk KX G ?a ?l ?c ?k; (case a => k_is); (case l => k_is); (case c => k_is); (case k => k_is)
    case q87 => refine' Ct.cst_mk KX G ?a; (case a => k_is)
    case q88 => refine' Ct.cst_mk KX G ?a; (case a => k_is)
    case q89 => refine' Ct.cst_mk KX G ?a; (case a => k_is)
    case q90 => refine' Ct.cst_mk KX G ?a; (case a => k_is)
    case q91 => refine' Ct.cst_mk KX G ?a; (case a => k_is)
    case q92 => refine' Ct.cst_mk KX G ?a; (case a => k_is)
    case q93 => refine' Ct.cst_mk KX G ?a; (case a => k_is)
    case q94 => refine' Ct.cst_mk KX G ?a; (case a => k_is)
    case q95 => refine' Ct.cst_mk KX G ?a; (case a => k_is)
    case q96 =>
      refine' ⟨?z0, ?z1, ?z2, ?z3, ?z4, ?z5, ?z6, ?z7, ?z8, ?z9, ?z10, ?z11, ?z12⟩
      (case z0 => refine' PySem.W.mg_none_of KX G ?a; (case a => k_is))
      (case z1 => refine' PySem.W.mg_none_of KX G ?a; (case a => k_is))
      (case z2 => refine' PySem.W.mg_none_of KX G ?a; (case a => k_is))
      (case z3 => refine' PySem.W.mg_none_of KX G ?a; (case a => k_is))
      (case z4 => refine' PySem.W.mg_none_of KX G ?a; (case a => k_is))
      (case z5 => refine' PySem.W.mg_none_of KX G ?a; (case a => k_is))
      (case z6 => refine' PySem.W.mg_none_of KX G ?a; (case a => k_is))
      (case z7 => refine' PySem.W.mg_none_of KX G ?a; (case a => k_is))
      (case z8 => refine' PySem.W.mg_none_of KX G ?a; (case a => k_is))
      (case z9 => refine' PySem.W.mg_none_of KX G ?a; (case a => k_is))
      (case z10 => refine' PySem.W.mg_none_of KX G ?a; (case a => k_is))
      (case z11 => refine' PySem.W.mg_none_of KX G ?a; (case a => k_is))
      (case z12 => refine' PySem.W.mg_none_of KX G ?a; (case a => k_is))
    case q97 => refine' Ct.df_mk KX G ?a ?l ?c ?k; (case a => k_is); (case l => k_is); (case c => k_is); (case k => k_is)
