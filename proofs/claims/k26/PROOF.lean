import PyProof.Rows.All
import Wide.All
import OpenK.AllK
import Wide.FinOn
import HandS.ForMost
import HandS.Wide
import HandS.TupAny
import HandS.RaiseMore
import PyProof.ReprRoads
import HandS.Style
import HandS.IsInst
import HandS.Gcd
import KE.KMathGC
import HandS.Conv
import HandS.TupMul
import HandS.RevTup
import PyProof.ListMulRoad
import PyProof.FactsAll.tuple_2
import HandS.Iter
import KE.GoesEnum
import KE.GoesMore
import HandS.Dict
import HandS.SetKeys
import HandS.DictComp
import KE.KDictSum
import HandS.Small
import HandS.NoneIn
import KE.KDictDisplayH
import HandS.Zip
import PySem.Challenge.RW_walkclubs_k26_short_writings_written_out
set_option Elab.async false
set_option linter.all false
set_option maxRecDepth 100000
set_option maxHeartbeats 1000000
/-! Z, part A: owned and frozen objects, slots, the judgements EX, TX, AX, SX over HandS. -/
namespace Z
open PySem PySem.Spec PyProof.Rows L2

/-! ### data: what a value stands for, all of it tracked -/
def kPD : Key → PyData
  | .inl i => .int i
  | .inr x => .str x
mutual
inductive Dq (H : Hp) : V → PyData → Prop
  | non : Dq H .non .none
  | bl (b : Bool) : Dq H (.bl b) (.bool b)
  | int (i : Int) : Dq H (.int i) (.int i)
  | str (x : Str) : Dq H (.str x) (.str x)
  | lst {a : Addr} {xs : List V} {ds : List PyData} : H a = some (.lst xs) → DqAll H xs ds → Dq H (.ref a) (.list ds)
  | tup {a : Addr} {xs : List V} {ds : List PyData} : H a = some (.tup xs) → DqAll H xs ds → Dq H (.ref a) (.tuple ds)
  | dctK {a : Addr} {o : Obj} {kvs : List (Key × V)} {ps : List (PyData × PyData)} : H a = some (.frz o (.dK kvs)) → kvs.map (fun p => kPD p.1) = ps.map (·.1) → DqAll H (kvs.map (·.2)) (ps.map (·.2)) → Dq H (.ref a) (.dict ps)
  | dctT {a : Addr} {o : Obj} {kvs : List (List Key × V)} {ps : List (PyData × PyData)} : H a = some (.frz o (.dT kvs)) → kvs.map (fun p => PyData.tuple (p.1.map kPD)) = ps.map (·.1) → DqAll H (kvs.map (·.2)) (ps.map (·.2)) → Dq H (.ref a) (.dict ((.none, .none) :: ps))
inductive DqAll (H : Hp) : List V → List PyData → Prop
  | nil : DqAll H [] []
  | cons {v : V} {vs : List V} {d : PyData} {ds : List PyData} : Dq H v d → DqAll H vs ds → DqAll H (v :: vs) (d :: ds)
end
mutual
theorem dq_monoH {H H' : Hp} (e : Same H H') : ∀ {v : V} {d : PyData}, Dq H v d → Dq H' v d
  | _, _, .non => .non
  | _, _, .bl _ => .bl _
  | _, _, .int _ => .int _
  | _, _, .str _ => .str _
  | _, _, .lst hs ha => .lst (e _ _ hs) (dqall_monoH e ha)
  | _, _, .tup hs ha => .tup (e _ _ hs) (dqall_monoH e ha)
  | _, _, .dctK hs hk ha => .dctK (e _ _ hs) hk (dqall_monoH e ha)
  | _, _, .dctT hs hk ha => .dctT (e _ _ hs) hk (dqall_monoH e ha)
theorem dqall_monoH {H H' : Hp} (e : Same H H') : ∀ {vs : List V} {ds : List PyData}, DqAll H vs ds → DqAll H' vs ds
  | _, _, .nil => .nil
  | _, _, .cons h1 h2 => .cons (dq_monoH e h1) (dqall_monoH e h2)
end
theorem dq_mono {H H' : Hp} (e : Same H H') (d : PyData) (v : V) (h : Dq H v d) : Dq H' v d := dq_monoH e h
theorem dqall_mono {H H' : Hp} (e : Same H H') (ds : List PyData) (vs : List V) (h : DqAll H vs ds) : DqAll H' vs ds := dqall_monoH e h
mutual
theorem nod_lay : ∀ d : PyData, d.canLay0 = true → d.hasDict = false
  | .none, _ => by simp [PyData.hasDict]
  | .bool _, _ => by simp [PyData.hasDict]
  | .int _, _ => by simp [PyData.hasDict]
  | .str _, _ => by simp [PyData.hasDict]
  | .list ds, c => by
    simp only [PyData.hasDict]
    exact nodall_lay ds (by simpa [PyData.canLay0] using c)
  | .tuple ds, c => by
    simp only [PyData.hasDict]
    exact nodall_lay ds (by simpa [PyData.canLay0] using c)
  | .dict _, c => by simp [PyData.canLay0] at c
theorem nodall_lay : ∀ ds : List PyData, PyData.canLayAll0 ds = true → PyData.hasDictAll ds = false
  | [], _ => by simp [PyData.hasDictAll]
  | d :: ds, c => by
    have c2 : d.canLay0 = true ∧ PyData.canLayAll0 ds = true := by simpa [PyData.canLayAll0] using c
    simp [PyData.hasDictAll, nod_lay d c2.1, nodall_lay ds c2.2]
end
mutual
theorem dq_dp (K : PySem.W.Frag) {H : Hp} : ∀ (d : PyData) (v : V), d.hasDict = false → Dq H v d → Dp K H v d
  | .none, _, _, h => by cases h; exact .non
  | .bool _, _, _, h => by cases h; exact .bl _
  | .int _, _, _, h => by cases h; exact .int _
  | .str _, _, _, h => by cases h; exact .str _
  | .list ds, _, c, h => by
    cases h with
    | lst hs ha => exact .lst (.of hs) (dqall_dp K ds _ (by simpa [PyData.hasDict] using c) ha)
  | .tuple ds, _, c, h => by
    cases h with
    | tup hs ha => exact .tup (.of hs) (dqall_dp K ds _ (by simpa [PyData.hasDict] using c) ha)
  | .dict _, _, c, h => by simp [PyData.hasDict] at c
theorem dqall_dp (K : PySem.W.Frag) {H : Hp} : ∀ (ds : List PyData) (vs : List V), PyData.hasDictAll ds = false → DqAll H vs ds → DpAll K H vs ds
  | [], _, _, h => by cases h; exact .nil
  | d :: ds, _, c, h => by
    have c2 : d.hasDict = false ∧ PyData.hasDictAll ds = false := by simpa [PyData.hasDictAll] using c
    cases h with
    | cons h1 h2 => exact .cons (dq_dp K d _ c2.1 h1) (dqall_dp K ds _ c2.2 h2)
end
theorem same_upd {H : Hp} {p : Addr} {o : HO} (h : H p = none) : Same H (upd H p o) := fun b x e => by
  rw [upd_ne (ne_of_none e h)]
  exact e
theorem dqall_len {H : Hp} : ∀ {ds : List PyData} {vs : List V}, DqAll H vs ds → vs.length = ds.length
  | [], _, h => by cases h; rfl
  | d :: ds, _, h => by
    cases h with
    | cons h1 h2 => rw [List.length_cons, List.length_cons, dqall_len h2]
theorem dqall_get {H : Hp} : ∀ {ds : List PyData} {vs : List V} {i : Nat} {v : V}, DqAll H vs ds → vs[i]? = some v → ∃ d, ds[i]? = some d ∧ Dq H v d
  | [], _, i, v, h, e => by cases h; simp at e
  | d :: ds, _, i, v, h, e => by
    cases h with
    | cons h1 h2 =>
      cases i with
      | zero =>
        simp at e
        subst e
        exact ⟨d, rfl, h1⟩
      | succ i => exact dqall_get (i := i) h2 (by simpa using e)
theorem dqall_get' {H : Hp} : ∀ {ds : List PyData} {vs : List V} {i : Nat} {d : PyData}, DqAll H vs ds → ds[i]? = some d → ∃ v, vs[i]? = some v ∧ Dq H v d
  | [], _, i, v, h, e => by simp at e
  | d :: ds, _, i, v, h, e => by
    cases h with
    | cons h1 h2 =>
      cases i with
      | zero =>
        simp at e
        subst e
        exact ⟨_, rfl, h1⟩
      | succ i => exact dqall_get' (i := i) h2 (by simpa using e)
theorem dqall_app {H : Hp} : ∀ {ds es : List PyData} {vs us : List V}, DqAll H vs ds → DqAll H us es → DqAll H (vs ++ us) (ds ++ es)
  | [], _, _, _, h, g => by cases h; exact g
  | d :: ds, _, _, _, h, g => by
    cases h with
    | cons h1 h2 => exact .cons h1 (dqall_app h2 g)
theorem dqall_take {H : Hp} : ∀ {ds : List PyData} {vs : List V} (n : Nat), DqAll H vs ds → DqAll H (vs.take n) (ds.take n)
  | _, _, 0, _ => .nil
  | [], _, n + 1, h => by cases h; exact .nil
  | d :: ds, _, n + 1, h => by
    cases h with
    | cons h1 h2 => exact .cons h1 (dqall_take n h2)
theorem dqall_drop {H : Hp} : ∀ {ds : List PyData} {vs : List V} (n : Nat), DqAll H vs ds → DqAll H (vs.drop n) (ds.drop n)
  | _, _, 0, h => h
  | [], _, n + 1, h => by cases h; exact .nil
  | d :: ds, _, n + 1, h => by
    cases h with
    | cons h1 h2 => exact dqall_drop n h2
theorem dqall_set {H : Hp} {v : V} {d : PyData} (hd : Dq H v d) : ∀ {ds : List PyData} {vs : List V} (i : Nat), DqAll H vs ds → DqAll H (vs.set i v) (ds.set i d)
  | [], _, _, h => by cases h; exact .nil
  | d :: ds, _, 0, h => by
    cases h with
    | cons h1 h2 => exact .cons hd h2
  | d :: ds, _, i + 1, h => by
    cases h with
    | cons h1 h2 => exact .cons h1 (dqall_set hd i h2)
theorem dqall_ints {H : Hp} : ∀ (ns : List Int), DqAll H (ns.map V.int) (ns.map PyData.int)
  | [] => .nil
  | n :: ns => .cons (.int n) (dqall_ints ns)
theorem dqall_of_ints {H : Hp} : ∀ (ns : List Int) {vs : List V}, DqAll H vs (ns.map PyData.int) → vs = ns.map V.int
  | [], _, h => by cases h; rfl
  | n :: ns, _, h => by
    cases h with
    | cons h1 h2 =>
      cases h1
      rw [dqall_of_ints ns h2, List.map_cons]
theorem dqall_of_bools {H : Hp} : ∀ (ns : List Bool) {vs : List V}, DqAll H vs (ns.map PyData.bool) → vs = ns.map V.bl
  | [], _, h => by cases h; rfl
  | n :: ns, _, h => by
    cases h with
    | cons h1 h2 =>
      cases h1
      rw [dqall_of_bools ns h2, List.map_cons]

/-! ### what is owned, what is frozen -/
/-- an entry: its address, what is frozen, its own piece of the heap -/
abbrev Ent := Addr → Hp → Hp → Prop
abbrev Os := List (Addr × Ent)
abbrev VP := Hp → V → Prop
abbrev Slot := Hp → Option V → Prop
def Cl (φ : VP) (F : Hp) (v : V) : Prop := ∀ F', Same F F' → φ F' v
theorem Cl.mono {φ : VP} {F F' : Hp} {v : V} (h : Cl φ F v) (e : Same F F') : Cl φ F' v := fun G g => h G (e.trans g)
theorem Cl.now {φ : VP} {F : Hp} {v : V} (h : Cl φ F v) : φ F v := h F (Same.refl F)
def dat (d : PyData) : VP := fun F v => Dq F v d
def own (p : Addr) : VP := fun _ v => v = .ref p
theorem cl_dat {d : PyData} {F : Hp} {v : V} (h : Dq F v d) : Cl (dat d) F v := fun _ e => dq_mono e d v h
theorem cl_own {p : Addr} {F : Hp} : Cl (own p) F (.ref p) := fun _ _ => rfl
/-- the heap with one thing alone -/
def one (p : Addr) (o : HO) : Hp := upd (fun _ => none) p o
theorem one_at {p : Addr} {o : HO} : one p o p = some o := upd_same
theorem one_ne {p q : Addr} {o : HO} (h : q ≠ p) : one p o q = none := by unfold one; rw [upd_ne h]
theorem one_of {p q : Addr} {o : HO} (h : one p o q ≠ none) : q = p := Classical.byContradiction fun k => h (one_ne k)
/-- a list of one's own, its items data -/
def ol (ds : List PyData) : Ent := fun p F h => ∃ vs, h = one p (.lst vs) ∧ DqAll F vs ds
def sl (φ : VP) : Slot := fun F o => ∃ v, o = some v ∧ φ F v
def un : Slot := fun _ _ => True
/-- h over H -/
def ov (h H : Hp) : Hp := fun a => match h a with
  | some o => some o
  | none => H a
theorem ov_some {h H : Hp} {a : Addr} {o : HO} (e : h a = some o) : ov h H a = some o := by unfold ov; rw [e]
theorem ov_none {h H : Hp} {a : Addr} (e : h a = none) : ov h H a = H a := by unfold ov; rw [e]
theorem ov_one {p : Addr} {o : HO} {H : Hp} : ov (one p o) H = upd H p o := by
  funext a
  by_cases h : a = p
  · subst h; rw [ov_some one_at, upd_same]
  · rw [ov_none (one_ne h), upd_ne h]
theorem ov_same {h H : Hp} (e : Same h H) : ov h H = H := by
  funext a
  cases q : h a with
  | none => exact ov_none q
  | some o => rw [ov_some q, e a o q]
/-- apart -/
def Ap (h k : Hp) : Prop := ∀ a, h a ≠ none → k a = none
theorem Ap.symm {h k : Hp} (x : Ap h k) : Ap k h := fun a e => Classical.byContradiction fun q => e (x a q)
inductive Pcs (F : Hp) : Os → List Hp → Prop
  | nil : Pcs F [] []
  | cons {q : Addr × Ent} {os : Os} {h : Hp} {hs : List Hp} : (∀ F', Same F F' → q.2 q.1 F' h) → Pcs F os hs → Pcs F (q :: os) (h :: hs)
theorem Pcs.mono {F F' : Hp} (e : Same F F') : ∀ {os : Os} {hs : List Hp}, Pcs F os hs → Pcs F' os hs
  | _, _, .nil => .nil
  | _, _, .cons h1 h2 => .cons (fun G g => h1 G (e.trans g)) (h2.mono e)
theorem Pcs.perm {F : Hp} {os os' : Os} (p : os.Perm os') : ∀ {hs : List Hp}, Pcs F os hs → ∃ hs', Pcs F os' hs' ∧ hs.Perm hs' := by
  induction p with
  | nil => intro hs h; exact ⟨hs, h, List.Perm.refl _⟩
  | cons x p ih =>
    intro hs h
    cases h with
    | cons h1 h2 =>
      obtain ⟨hs', a, b⟩ := ih h2
      exact ⟨_, .cons h1 a, b.cons _⟩
  | swap x y l =>
    intro hs h
    cases h with
    | cons h1 h2 =>
      cases h2 with
      | cons h2 h3 => exact ⟨_, .cons h2 (.cons h1 h3), List.Perm.swap _ _ _⟩
  | trans p q ih1 ih2 =>
    intro hs h
    obtain ⟨hs1, a, b⟩ := ih1 h
    obtain ⟨hs2, c, d⟩ := ih2 a
    exact ⟨hs2, c, b.trans d⟩

/-- no tuples -/
def NT (h : Hp) : Prop := ∀ a xs, h a ≠ some (.tup xs)
theorem nt_one {p : Addr} {o : HO} (h : ∀ xs, o ≠ .tup xs) : NT (one p o) := fun a xs e => by
  by_cases q : a = p
  · rw [q, one_at] at e
    exact h xs (Option.some.inj e)
  · rw [one_ne q] at e
    cases e
structure Ow (F : Hp) (os : Os) (H : Hp) : Prop where
  ex : Same F H
  ps : ∃ hs, Pcs F os hs ∧ (∀ h ∈ hs, Same h H ∧ Ap F h ∧ NT h) ∧ hs.Pairwise Ap

section
variable {F F' H H' : Hp} {os os' : Os} {p : Addr} {e e' : Ent} {o : HO}
theorem Ow.perm (h : Ow F os H) (hp : os.Perm os') : Ow F os' H := by
  obtain ⟨hs, a, b, c⟩ := h.ps
  obtain ⟨hs', a', q⟩ := a.perm hp
  exact ⟨h.ex, hs', a', fun k hk => b k (q.mem_iff.mpr hk), q.pairwise c fun x => x.symm⟩
/-- what is new is frozen -/
theorem Ow.frozen (h : Ow F os H) (hp : H p = none) : Ow (upd F p o) os (upd H p o) := by
  have fp : F p = none := h.ex.free hp
  obtain ⟨hs, a, b, c⟩ := h.ps
  refine ⟨fun q x eb => ?_, hs, a.mono (same_upd fp), fun k hk => ?_, c⟩
  · by_cases hb : q = p
    · subst hb
      rw [upd_same] at eb ⊢
      exact eb
    · rw [upd_ne hb] at eb ⊢
      exact h.ex q x eb
  · obtain ⟨s, x, nt⟩ := b k hk
    have kp : k p = none := s.free hp
    refine ⟨s.trans (same_upd hp), fun q eq => ?_, nt⟩
    by_cases hb : q = p
    · rw [hb]; exact kp
    · rw [upd_ne hb] at eq
      exact x q eq
/-- a piece of new things -/
theorem Ow.newP {k : Hp} (h : Ow F os H) (hk : ∀ a, k a ≠ none → H a = none) (nt : NT k) (he : ∀ F', Same F F' → e p F' k) : Ow F ((p, e) :: os) (ov k H) := by
  obtain ⟨hs, a, b, c⟩ := h.ps
  have s : Same H (ov k H) := fun q x eq => by
    cases z : k q with
    | none => rw [ov_none z]; exact eq
    | some u => rw [hk q (by rw [z]; simp)] at eq; cases eq
  refine ⟨h.ex.trans s, k :: hs, .cons he a, fun g hg => ?_, List.pairwise_cons.mpr ⟨fun g hg => ?_, c⟩⟩
  · rcases List.mem_cons.mp hg with rfl | hg
    · exact ⟨fun q x eq => ov_some eq, Ap.symm fun q eq => h.ex.free (hk q eq), nt⟩
    · exact ⟨(b g hg).1.trans s, (b g hg).2⟩
  · exact fun q eq => (b g hg).1.free (hk q eq)
theorem Ow.new (h : Ow F os H) (hp : H p = none) (he : ∀ F', Same F F' → e p F' (one p o)) (nt : ∀ xs, o ≠ .tup xs := by intro _ z; cases z) : Ow F ((p, e) :: os) (upd H p o) := by
  rw [← ov_one]
  exact h.newP (fun a ha => by rw [one_of ha]; exact hp) (nt_one nt) he
/-- the first piece, and what may stand in its place -/
theorem Ow.wr (h : Ow F ((p, e) :: os) H) : ∃ k, (∀ F', Same F F' → e p F' k) ∧ Same k H ∧ Ap F k ∧ NT k ∧
    ∀ q e' k', (∀ a, k' a ≠ none → k a ≠ none ∨ H a = none) → NT k' → (∀ F', Same F F' → e' q F' k') → Ow F ((q, e') :: os) (ov k' H) := by
  obtain ⟨hs, a, b, c⟩ := h.ps
  cases a with
  | @cons _ _ k hs h1 h2 =>
    obtain ⟨c1, c2⟩ := List.pairwise_cons.mp c
    obtain ⟨s, x, nt⟩ := b k List.mem_cons_self
    refine ⟨k, h1, s, x, nt, fun q e' k' hk nt' he => ?_⟩
    have out : ∀ g : Hp, Same g H → Ap k g → Same g (ov k' H) ∧ Ap k' g := fun g sg ag => by
      have z : ∀ a, k' a ≠ none → g a = none := fun a ha => by
        rcases hk a ha with r | r
        · exact ag a r
        · exact sg.free r
      refine ⟨fun a u eu => ?_, z⟩
      cases y : k' a with
      | none => rw [ov_none y]; exact sg a u eu
      | some w =>
        rw [z a (by rw [y]; simp)] at eu
        cases eu
    obtain ⟨f1, f2⟩ := out F h.ex x.symm
    refine ⟨f1, k' :: hs, .cons he h2, fun g hg => ?_, List.pairwise_cons.mpr ⟨fun g hg => ?_, c2⟩⟩
    · rcases List.mem_cons.mp hg with rfl | hg
      · exact ⟨fun a u eu => ov_some eu, f2.symm, nt'⟩
      · exact ⟨(out g (b g (List.mem_cons_of_mem _ hg)).1 (c1 g hg)).1, (b g (List.mem_cons_of_mem _ hg)).2⟩
    · exact (out g (b g (List.mem_cons_of_mem _ hg)).1 (c1 g hg)).2
theorem Ow.drop (h : Ow F ((p, e) :: os) H) : Ow F os H := by
  obtain ⟨hs, a, b, c⟩ := h.ps
  cases a with
  | cons h1 h2 => exact ⟨h.ex, _, h2, fun g hg => b g (List.mem_cons_of_mem _ hg), (List.pairwise_cons.mp c).2⟩
theorem Ow.freeze (h : Ow F ((p, e) :: os) H) : ∃ k, (∀ F', Same F F' → e p F' k) ∧ Same k H ∧ Ap F k ∧ Same F (ov k F) ∧ Ow (ov k F) os H := by
  obtain ⟨hs, a, b, c⟩ := h.ps
  cases a with
  | @cons _ _ k hs h1 h2 =>
    obtain ⟨c1, c2⟩ := List.pairwise_cons.mp c
    obtain ⟨s, x, _⟩ := b k List.mem_cons_self
    have sf : Same F (ov k F) := fun a u eu => by
      rw [ov_none (x a (by rw [eu]; simp))]
      exact eu
    refine ⟨k, h1, s, x, sf, fun a u eu => ?_, hs, h2.mono sf, fun g hg => ⟨(b g (List.mem_cons_of_mem _ hg)).1, fun a ha => ?_, (b g (List.mem_cons_of_mem _ hg)).2.2⟩, c2⟩
    · cases y : k a with
      | none => rw [ov_none y] at eu; exact h.ex a u eu
      | some w => rw [ov_some y] at eu; cases eu; exact s a _ y
    · cases y : k a with
      | none => rw [ov_none y] at ha; exact (b g (List.mem_cons_of_mem _ hg)).2.1 a ha
      | some w => exact c1 g hg a (by rw [y]; simp)
theorem Ow.grow (h : Ow F os H) (k : Same H H') : Ow F os H' := by
  obtain ⟨hs, a, b, c⟩ := h.ps
  exact ⟨h.ex.trans k, hs, a, fun g hg => ⟨(b g hg).1.trans k, (b g hg).2⟩, c⟩
/-- a tuple that stands is frozen -/
theorem Ow.tup {xs : List V} (h : Ow F os H) (hp : H p = some (.tup xs)) : Same F (upd F p (.tup xs)) ∧ Ow (upd F p (.tup xs)) os H := by
  obtain ⟨hs, a, b, c⟩ := h.ps
  have sf : Same F (upd F p (.tup xs)) := fun q u eu => by
    by_cases z : q = p
    · subst z
      rw [upd_same, ← h.ex q u eu, hp]
    · rw [upd_ne z]
      exact eu
  refine ⟨sf, fun q u eu => ?_, hs, a.mono sf, fun g hg => ⟨(b g hg).1, fun q eq => ?_, (b g hg).2.2⟩, c⟩
  · by_cases z : q = p
    · subst z
      rw [upd_same] at eu
      rw [hp, eu]
    · rw [upd_ne z] at eu
      exact h.ex q u eu
  · by_cases z : q = p
    · subst z
      cases y : g q with
      | none => rfl
      | some w =>
        have e1 := (b g hg).1 q w y
        rw [hp] at e1
        cases e1
        exact ((b g hg).2.2 q xs y).elim
    · rw [upd_ne z] at eq
      exact (b g hg).2.1 q eq
/-- an entry known by less -/
theorem Ow.weak (h : Ow F ((p, e) :: os) H) (k : ∀ F' g, e p F' g → e' p F' g) : Ow F ((p, e') :: os) H := by
  obtain ⟨hs, a, b, c⟩ := h.ps
  cases a with
  | cons h1 h2 => exact ⟨h.ex, _, .cons (fun G g => k G _ (h1 G g)) h2, b, c⟩
/-- entries of one thing -/
def Uni (e : Ent) (r : Hp → HO → Prop) : Prop := ∀ p F h, e p F h → ∃ o, h = one p o ∧ r F o
theorem Ow.atU {r : Hp → HO → Prop} (u : Uni e r) (h : Ow F ((p, e) :: os) H) : F p = none ∧ ∃ o, H p = some o ∧ e p F (one p o) ∧ r F o := by
  obtain ⟨k, h1, s, x, _, _⟩ := h.wr
  obtain ⟨o, rfl, hr⟩ := u p F k (h1 F (Same.refl F))
  exact ⟨Classical.byContradiction fun q => (by have := x p q; rw [one_at] at this; cases this), o, s p o one_at, h1 F (Same.refl F), hr⟩
theorem Ow.putU {r : Hp → HO → Prop} (u : Uni e r) (h : Ow F ((p, e) :: os) H) (he : ∀ F', Same F F' → e' p F' (one p o)) (nt : ∀ xs, o ≠ .tup xs := by intro _ z; cases z) : Ow F ((p, e') :: os) (upd H p o) := by
  obtain ⟨k, h1, s, x, _, w⟩ := h.wr
  obtain ⟨o', rfl, hr⟩ := u p F k (h1 F (Same.refl F))
  rw [← ov_one]
  exact w p e' _ (fun a ha => .inl (by rw [one_of ha, one_at]; simp)) (nt_one nt) he
theorem Ow.freezeU {r : Hp → HO → Prop} (u : Uni e r) (h : Ow F ((p, e) :: os) H) : ∃ o, H p = some o ∧ r F o ∧ Same F (upd F p o) ∧ Ow (upd F p o) os H := by
  obtain ⟨k, h1, s, x, sf, w⟩ := h.freeze
  obtain ⟨o, rfl, hr⟩ := u p F k (h1 F (Same.refl F))
  rw [ov_one] at sf w
  exact ⟨o, s p o one_at, hr, sf, w⟩
theorem uni_ol {ds : List PyData} : Uni (ol ds) (fun F o => ∃ vs, o = .lst vs ∧ DqAll F vs ds) := fun p F h ⟨vs, e, d⟩ => ⟨_, e, vs, rfl, d⟩
theorem Ow.atL {ds : List PyData} (h : Ow F ((p, ol ds) :: os) H) : F p = none ∧ ∃ vs, H p = some (.lst vs) ∧ DqAll F vs ds := by
  obtain ⟨a, o, b, _, vs, rfl, d⟩ := h.atU uni_ol
  exact ⟨a, vs, b, d⟩
theorem Ow.putL {ds ds' : List PyData} {vs : List V} (h : Ow F ((p, ol ds) :: os) H) (hd : DqAll F vs ds') : Ow F ((p, ol ds') :: os) (upd H p (.lst vs)) :=
  h.putU uni_ol fun G g => ⟨vs, rfl, dqall_mono g _ _ hd⟩
end
theorem perm_at {α : Type} : ∀ {l : List α} {k : Nat} {q : α}, l[k]? = some q → l.Perm (q :: l.eraseIdx k)
  | [], k, q, h => by simp at h
  | x :: l, 0, q, h => by
    simp at h
    subst h
    exact List.Perm.refl _
  | x :: l, k + 1, q, h => by
    have h1 : l[k]? = some q := by simpa using h
    exact ((perm_at h1).cons x).trans (List.Perm.swap q x _)
theorem perm_set {α : Type} : ∀ {l : List α} {k : Nat} {q q' : α}, l[k]? = some q → (q' :: l.eraseIdx k).Perm (l.set k q')
  | [], k, q, q', h => by simp at h
  | x :: l, 0, q, q', h => List.Perm.refl _
  | x :: l, k + 1, q, q', h => by
    have h1 : l[k]? = some q := by simpa using h
    exact (List.Perm.swap x q' _).trans ((perm_set (q' := q') h1).cons x)

/-! ### slots -/
structure Sl (F : Hp) (es : List Slot) (σ : L2.St) : Prop where
  len : σ.length = es.length
  get : ∀ (i : Nat) (s : Slot), es[i]? = some s → ∃ v : Option V, σ[i]? = some v ∧ ∀ F', Same F F' → s F' v
section
variable {F F' H : Hp} {es : List Slot} {σ : L2.St} {i : Nat} {φ : VP} {v : V}
theorem Sl.mono (h : Sl F es σ) (e : Same F F') : Sl F' es σ := ⟨h.len, fun i s q => let ⟨v, a, b⟩ := h.get i s q; ⟨v, a, fun G g => b G (e.trans g)⟩⟩
theorem Sl.val (h : Sl F es σ) (q : es[i]? = some (sl φ)) : ∃ v, σ[i]? = some (some v) ∧ Cl φ F v := by
  obtain ⟨o, a, b⟩ := h.get i _ q
  obtain ⟨v, rfl, _⟩ := b F (Same.refl F)
  refine ⟨v, a, fun G g => ?_⟩
  obtain ⟨u, e, z⟩ := b G g
  cases e
  exact z
theorem Sl.set (h : Sl F es σ) {s : Slot} {o : Option V} (k : ∀ F', Same F F' → s F' o) : Sl F (es.set i s) (σ.set i o) := by
  refine ⟨by rw [List.length_set, List.length_set, h.len], fun j t q => ?_⟩
  by_cases hj : i = j
  · subst hj
    have hi : i < es.length := by
      have := (List.getElem?_eq_some_iff.mp q).1
      rw [List.length_set] at this
      exact this
    rw [List.getElem?_set_self hi] at q
    cases q
    exact ⟨o, List.getElem?_set_self (by rw [h.len]; exact hi), k⟩
  · rw [List.getElem?_set_ne hj] at q ⊢
    exact h.get j t q
theorem Sl.put (h : Sl F es σ) (k : Cl φ F v) : Sl F (es.set i (sl φ)) (σ.set i (some v)) := h.set fun G g => ⟨v, rfl, k G g⟩
theorem Sl.forget (h : Sl F es σ) : Sl F (es.set i un) σ := by
  refine ⟨by rw [List.length_set, h.len], fun j t q => ?_⟩
  by_cases hj : i = j
  · subst hj
    have hi : i < es.length := by
      have := (List.getElem?_eq_some_iff.mp q).1
      rw [List.length_set] at this
      exact this
    rw [List.getElem?_set_self hi] at q
    cases q
    have h2 : i < σ.length := by rw [h.len]; exact hi
    exact ⟨σ[i], List.getElem?_eq_getElem h2, fun _ _ => trivial⟩
  · rw [List.getElem?_set_ne hj] at q
    exact h.get j t q
/-- slots may be forgotten: each new one is the old one or un -/
def Wk : List Slot → List Slot → Prop
  | [], [] => True
  | s :: ss, t :: ts => (t = s ∨ t = un) ∧ Wk ss ts
  | _, _ => False
theorem wk_refl : ∀ es : List Slot, Wk es es
  | [] => trivial
  | _ :: ss => ⟨.inl rfl, wk_refl ss⟩
theorem wk_get : ∀ {es es' : List Slot} {i : Nat} {t : Slot}, Wk es es' → es'[i]? = some t → ∃ s, es[i]? = some s ∧ (t = s ∨ t = un)
  | [], [], i, t, _, h => by simp at h
  | [], _ :: _, _, _, h, _ => h.elim
  | _ :: _, [], _, _, h, _ => h.elim
  | s :: ss, t :: ts, 0, u, h, e => by
    simp at e
    subst e
    exact ⟨s, rfl, h.1⟩
  | s :: ss, t :: ts, i + 1, u, h, e => wk_get (i := i) h.2 (by simpa using e)
theorem wk_len : ∀ {es es' : List Slot}, Wk es es' → es.length = es'.length
  | [], [], _ => rfl
  | [], _ :: _, h => h.elim
  | _ :: _, [], h => h.elim
  | s :: ss, t :: ts, h => by rw [List.length_cons, List.length_cons, wk_len h.2]
theorem Sl.weak {es' : List Slot} (h : Sl F es σ) (w : Wk es es') : Sl F es' σ := by
  refine ⟨h.len.trans (wk_len w), fun i t q => ?_⟩
  obtain ⟨s, a, b⟩ := wk_get w q
  obtain ⟨v, c, d⟩ := h.get i s a
  refine ⟨v, c, fun G g => ?_⟩
  rcases b with rfl | rfl
  · exact d G g
  · trivial
end

/-! ### the judgements -/
section
variable (X : Cx)
def WE (e : Expr) (σ : L2.St) (H : Hp) (Q : VK) : Prop := ∀ pins s, Inv X pins σ H s → wpAny (model X.prog X.w) X.A (eval e X.env) (EP X pins σ Q) X.xe s
def WT (e : Expr) (σ : L2.St) (H : Hp) (Q : Bool → Hp → Prop) : Prop := ∀ pins s, Inv X pins σ H s → wpAny (model X.prog X.w) X.A (isTrue e X.env (eval e X.env)) (TP X pins σ Q) X.xe s
def WW (e : Expr) (σ : L2.St) (H : Hp) (Q : Bool → Hp → Prop) : Prop := ∀ (whole : Sem Value) pins s, Inv X pins σ H s → wpAny (model X.prog X.w) X.A (isTrue e X.env whole) (TP X pins σ Q) X.xe s
def WA (es : List Expr) (σ : L2.St) (H : Hp) (Q : List V → Hp → Prop) : Prop := ∀ pos pins s, Inv X pins σ H s → wpAny (model X.prog X.w) X.A (spliced (backTo pos (starEach es X.env))) (AP X pins σ Q) X.xe s
def WS (st : Stmt) (D : Ends) (σ : L2.St) (H : Hp) : Prop := ∀ pins s, Inv X pins σ H s → wpAny (model X.prog X.w) X.A (exec st X.env) (SP X pins D) X.xe s
def WPs (sts : List Stmt) (D : Ends) (σ : L2.St) (H : Hp) : Prop := ∀ pins s, Inv X pins σ H s → wpAny (model X.prog X.w) X.A (execs sts X.env) (SP X pins D) X.xe s
end
section
variable {X : Cx} {e : Expr} {es : List Expr} {st : Stmt} {sts : List Stmt} {σ : L2.St} {H : Hp} {Q : VK} {te : TE} {tt : TT} {ta : TA} {ts : TS}
theorem pe_u : PE X e (WE X e) := ⟨fun pins s _ _ _ I h => h pins s I⟩
theorem pt_u : PT X e (WT X e) := ⟨fun pins s _ _ _ I h => h pins s I⟩
theorem pw_u : PW X e (WW X e) := ⟨fun w pins s _ _ _ I h => h w pins s I⟩
theorem pa_u : PA X es (WA X es) := ⟨fun pos pins s _ _ _ I h => h pos pins s I⟩
theorem ps_u : PS X st (WS X st) := ⟨fun pins s _ _ _ I h => h pins s I⟩
theorem pss_u : PSs X sts (WPs X sts) := ⟨fun pins s _ _ _ I h => h pins s I⟩
theorem we_of (h : PE X e te) (q : te σ H Q) : WE X e σ H Q := fun pins s I => h.run pins s σ H Q I q
theorem wt_of {Q : Bool → Hp → Prop} (h : PT X e tt) (q : tt σ H Q) : WT X e σ H Q := fun pins s I => h.run pins s σ H Q I q
theorem ww_of {Q : Bool → Hp → Prop} (h : PW X e tt) (q : tt σ H Q) : WW X e σ H Q := fun w pins s I => h.run w pins s σ H Q I q
theorem wa_of {Q : List V → Hp → Prop} (h : PA X es ta) (q : ta σ H Q) : WA X es σ H Q := fun pos pins s I => h.run pos pins s σ H Q I q
theorem ws_of {D : Ends} (h : PS X st ts) (q : ts D σ H) : WS X st D σ H := fun pins s I => h.run pins s σ H D I q
theorem wps_of {D : Ends} (h : PSs X sts ts) (q : ts D σ H) : WPs X sts D σ H := fun pins s I => h.run pins s σ H D I q
theorem wps_cons {D : Ends} (h : WS X st { D with nx := WPs X sts D } σ H) : WPs X (st :: sts) D σ H := wps_of (pss_cons ps_u pss_u) h
theorem wps_nil {D : Ends} (h : D.nx σ H) : WPs X [] D σ H := wps_of pss_nil h
end

def ClA : List VP → Hp → List V → Prop
  | [], _, vs => vs = []
  | φ :: φs, F, vs => ∃ v r, vs = v :: r ∧ Cl φ F v ∧ ClA φs F r
theorem cla_mono {F F' : Hp} (e : Same F F') : ∀ {φs : List VP} {vs : List V}, ClA φs F vs → ClA φs F' vs
  | [], _, h => h
  | φ :: φs, _, ⟨v, r, e1, h1, h2⟩ => ⟨v, r, e1, h1.mono e, cla_mono e h2⟩
theorem cla_len {F : Hp} : ∀ {φs : List VP} {vs : List V}, ClA φs F vs → vs.length = φs.length
  | [], _, h => by rw [h]; rfl
  | φ :: φs, _, ⟨v, r, e1, h1, h2⟩ => by rw [e1, List.length_cons, List.length_cons, cla_len h2]
section
variable (X : Cx) (es : List Slot) (os : Os)
/-- e gives a value of which φ holds; what is owned goes from os to os' -/
def EX (e : Expr) (φ : VP) (os' : Os) : Prop := ∀ F σ H Q, Ow F os H → Sl F es σ → (∀ F' H' v, Same F F' → Ow F' os' H' → Cl φ F' v → Q v H') → WE X e σ H Q
/-- e gives a new list, owned from now on -/
def EN (e : Expr) (n : Ent) (os' : Os) : Prop := ∀ F σ H Q, Ow F os H → Sl F es σ → (∀ F' H' p, Same F F' → Ow F' ((p, n) :: os') H' → Q (.ref p) H') → WE X e σ H Q
def TX (e : Expr) (b : Bool) (os' : Os) : Prop := ∀ F σ H Q, Ow F os H → Sl F es σ → (∀ F' H', Same F F' → Ow F' os' H' → Q b H') → WT X e σ H Q
def WX (e : Expr) (b : Bool) (os' : Os) : Prop := ∀ F σ H Q, Ow F os H → Sl F es σ → (∀ F' H', Same F F' → Ow F' os' H' → Q b H') → WW X e σ H Q
def AX (as : List Expr) (φs : List VP) (os' : Os) : Prop := ∀ F σ H Q, Ow F os H → Sl F es σ → (∀ F' H' vs, Same F F' → Ow F' os' H' → ClA φs F' vs → Q vs H') → WA X as σ H Q
def SX (F0 : Hp) (sts : List Stmt) (D : Ends) : Prop := ∀ F σ H, Same F0 F → Ow F os H → Sl F es σ → WPs X sts D σ H
end
end Z
/-! Z, part B: rules for expressions. -/
namespace Z
open PySem PySem.Spec PyProof.Rows L2

section
variable {X : Cx} {es : List Slot} {os os1 os2 os3 : Os} {a b c : Expr} {pos : Pos}

theorem EX.is {φ ψ : VP} {e : Expr} (h : EX X es os e φ os1) (k : φ = ψ) : EX X es os e ψ os1 := k ▸ h
theorem EX.perm {φ : VP} {e : Expr} (h : EX X es os e φ os1) (k : os1.Perm os2) : EX X es os e φ os2 := fun F σ H Q ow sl q =>
  h F σ H Q ow sl fun F' H' v e o c => q F' H' v e (o.perm k) c
theorem EX.pre {φ : VP} {e : Expr} (h : EX X es os e φ os1) (k : os2.Perm os) : EX X es os2 e φ os1 := fun F σ H Q ow sl q => h F σ H Q (ow.perm k) sl q
/-- a new list, given away: it is data from now on -/
theorem EN.ex {e : Expr} {ds : List PyData} (h : EN X es os e (ol ds) os1) : EX X es os e (dat (.list ds)) os1 := fun F σ H Q ow sl q =>
  h F σ H Q ow sl fun F' H' p e o => by
    obtain ⟨u, hu, ⟨vs, rfl, hv⟩, s, o2⟩ := o.freezeU uni_ol
    exact q _ H' (.ref p) (e.trans s) o2 (cl_dat (.lst upd_same (dqall_mono s _ _ hv)))

/-! ### names, constants -/
theorem ex_name {i : Nat} {x : Str} {φ : VP} (hN : X.N[i]? = some x) (hv : Vis X.env.scope x) (hd : (x == ("__debug__" : Str)) = false) (hcd : (x == ("__classdict__" : Str)) = false) (h : es[i]? = some (sl φ)) : EX X es os (.Name x pos) φ os := fun F σ H Q ow sl q => by
  obtain ⟨v, e, k⟩ := sl.val h
  exact we_of (pe_var hN hv hd hcd) ⟨v, e, q F H v (Same.refl F) ow k⟩
theorem ex_int {i : Int} {j} : EX X es os (.Constant (.int i) j pos) (dat (.int i)) os := fun F σ H Q ow sl q => we_of pe_int (q F H _ (Same.refl F) ow (cl_dat (.int i)))
theorem ex_bool {i : Bool} {j} : EX X es os (.Constant (.bool i) j pos) (dat (.bool i)) os := fun F σ H Q ow sl q => we_of pe_bl (q F H _ (Same.refl F) ow (cl_dat (.bl i)))
theorem ex_none {j} : EX X es os (.Constant .none j pos) (dat .none) os := fun F σ H Q ow sl q => we_of pe_non (q F H _ (Same.refl F) ow (cl_dat .non))
theorem ex_str {x : Str} {j} : EX X es os (.Constant (.str x) j pos) (dat (.str x)) os := fun F σ H Q ow sl q => we_of pe_str (q F H _ (Same.refl F) ow (cl_dat (.str x)))
/-- a module's constant that holds an int -/
theorem ex_gint {x : Str} {i : Int} {t : Tok} (hg : Gl X x) (hm : X.mg x = some (.int i t)) (hd : (x == ("__debug__" : Str)) = false) : EX X es os (.Name x pos) (dat (.int i)) os := fun F σ H Q ow sl q =>
  we_of (pe_glob (v := .int i) hg hm ⟨t, rfl⟩ hd) (q F H _ (Same.refl F) ow (cl_dat (.int i)))

/-! ### what a datum's value is -/
theorem clv_int {F : Hp} {v : V} {i : Int} (h : Cl (dat (.int i)) F v) : v = .int i := by
  have := h.now
  cases this
  rfl
theorem clv_bool {F : Hp} {v : V} {i : Bool} (h : Cl (dat (.bool i)) F v) : v = .bl i := by
  have := h.now
  cases this
  rfl
theorem clv_str {F : Hp} {v : V} {i : Str} (h : Cl (dat (.str i)) F v) : v = .str i := by
  have := h.now
  cases this
  rfl
theorem clv_none {F : Hp} {v : V} (h : Cl (dat .none) F v) : v = .non := by
  have := h.now
  cases this
  rfl

/-! ### two operands -/
/-- by values: r gives a datum where the operands are φ and ψ -/
def R2X (X : Cx) (r : R2) (φ ψ : VP) (os : Os) (d : VP) : Prop := ∀ F H x y Q, Ow F os H → Cl φ F x → Cl ψ F y → (∀ F' H' v, Same F F' → Ow F' os H' → Cl d F' v → Q v H') → r x y H Q
theorem ex_bin {op : Operator} {r : R2} {φ ψ d : VP} (ho : OpR X (binaryOp op) r) (hr : R2X X r φ ψ os2 d) (ha : EX X es os a φ os1) (hb : EX X es os1 b ψ os2) : EX X es os (.BinOp a op b pos) d os2 := fun F σ H Q ow sl q =>
  we_of (pe_op ho pe_u pe_u) (ha F σ H _ ow sl fun F1 H1 x e1 o1 c1 => hb F1 σ H1 _ o1 (sl.mono e1) fun F2 H2 y e2 o2 c2 =>
    hr F2 H2 x y Q o2 (c1.mono e2) c2 fun F3 H3 v e3 o3 c3 => q F3 H3 v ((e1.trans e2).trans e3) o3 c3)
theorem r2_I {C : Int → Int → Prop} {g : Int → Int → Int} {i j : Int} (h : C i j) : R2X X (rI C fun i j => .int (g i j)) (dat (.int i)) (dat (.int j)) os (dat (.int (g i j))) := fun F H x y Q ow cx cy q =>
  ⟨i, j, clv_int cx, clv_int cy, h, q F H _ (Same.refl F) ow (cl_dat (.int _))⟩
theorem r2_I0 {g : Int → Int → Int} {i j : Int} : R2X X (rI0 fun i j => .int (g i j)) (dat (.int i)) (dat (.int j)) os (dat (.int (g i j))) := fun F H x y Q ow cx cy q =>
  ⟨i, j, clv_int cx, clv_int cy, q F H _ (Same.refl F) ow (cl_dat (.int _))⟩
theorem r2_B0 {g : Int → Int → Bool} {i j : Int} : R2X X (rI0 fun i j => .bl (g i j)) (dat (.int i)) (dat (.int j)) os (dat (.bool (g i j))) := fun F H x y Q ow cx cy q =>
  ⟨i, j, clv_int cx, clv_int cy, q F H _ (Same.refl F) ow (cl_dat (.bl _))⟩
theorem ex_add {i j : Int} (ha : EX X es os a (dat (.int i)) os1) (hb : EX X es os1 b (dat (.int j)) os2) : EX X es os (.BinOp a .Add b pos) (dat (.int (i + j))) os2 := ex_bin op_add r2_I0 ha hb
theorem ex_sub {i j : Int} (ha : EX X es os a (dat (.int i)) os1) (hb : EX X es os1 b (dat (.int j)) os2) : EX X es os (.BinOp a .Sub b pos) (dat (.int (i - j))) os2 := ex_bin op_sub r2_I0 ha hb
/-- a product: told by mulO, which is none where both factors are very great -/
def mulO (i j : Int) : Option Int := if i.natAbs.log2 + j.natAbs.log2 < 1000000 then some (i * j) else none
theorem ex_mul {i j m : Int} (hm : mulO i j = some m) (ha : EX X es os a (dat (.int i)) os1) (hb : EX X es os1 b (dat (.int j)) os2) : EX X es os (.BinOp a .Mult b pos) (dat (.int m)) os2 := by
  unfold mulO at hm
  split at hm
  · rename_i h
    cases hm
    exact ex_bin op_mulW (r2_I h) ha hb
  · cases hm
/-- a product with a written factor -/
theorem ex_mulL {i j : Int} (h : -(2 ^ 64) < i ∧ i < 2 ^ 64) (ha : EX X es os a (dat (.int i)) os1) (hb : EX X es os1 b (dat (.int j)) os2) : EX X es os (.BinOp a .Mult b pos) (dat (.int (i * j))) os2 := ex_bin op_mul (r2_I (.inl h)) ha hb
theorem ex_mulR {i j : Int} (h : -(2 ^ 64) < j ∧ j < 2 ^ 64) (ha : EX X es os a (dat (.int i)) os1) (hb : EX X es os1 b (dat (.int j)) os2) : EX X es os (.BinOp a .Mult b pos) (dat (.int (i * j))) os2 := ex_bin op_mul (r2_I (.inr h)) ha hb
/-- i // j, i % j: for a positive j below 2 ^ 9000 -/
def fdivO (i j : Int) : Option Int := if 0 < j ∧ j.natAbs.log2 < 9000 then some (i / j) else none
def modO (i j : Int) : Option Int := if 0 < j then some (i % j) else none
theorem ex_fdiv {i j m : Int} (hm : fdivO i j = some m) (ha : EX X es os a (dat (.int i)) os1) (hb : EX X es os1 b (dat (.int j)) os2) : EX X es os (.BinOp a .FloorDiv b pos) (dat (.int m)) os2 := by
  unfold fdivO at hm
  split at hm
  · rename_i h
    cases hm
    exact ex_bin op_fdivW (r2_I h) ha hb
  · cases hm
theorem ex_mod {i j m : Int} (hm : modO i j = some m) (ha : EX X es os a (dat (.int i)) os1) (hb : EX X es os1 b (dat (.int j)) os2) : EX X es os (.BinOp a .Mod b pos) (dat (.int m)) os2 := by
  unfold modO at hm
  split at hm
  · rename_i h
    cases hm
    exact ex_bin op_mod (r2_I (C := fun _ j => 0 < j) h) ha hb
  · cases hm
/-- i ** j -/
def powO (i j : Int) : Option Int := if 0 ≤ j ∧ (Builtin.Int.intBits i : Int) * j ≤ 2 ^ 27 then some (i ^ j.toNat) else none
theorem op_powW : OpR X (binaryOp .Pow) (rI (fun i j => 0 ≤ j ∧ (Builtin.Int.intBits i : Int) * j ≤ 2 ^ 27) fun i j => .int (i ^ j.toNat)) := opI fun _ _ _ _ _ _ _ hc q => pow_int hc.1 hc.2 q
theorem ex_pow {i j m : Int} (hm : powO i j = some m) (ha : EX X es os a (dat (.int i)) os1) (hb : EX X es os1 b (dat (.int j)) os2) : EX X es os (.BinOp a .Pow b pos) (dat (.int m)) os2 := by
  unfold powO at hm
  split at hm
  · rename_i h
    cases hm
    exact ex_bin op_powW (r2_I h) ha hb
  · cases hm
theorem ex_neg {i : Int} (ha : EX X es os a (dat (.int i)) os1) : EX X es os (.UnaryOp .USub a pos) (dat (.int (-i))) os1 := fun F σ H Q ow sl q =>
  we_of (pe_un un_neg pe_u) (ha F σ H _ ow sl fun F1 H1 x e1 o1 c1 => ⟨i, clv_int c1, q F1 H1 _ e1 o1 (cl_dat (.int _))⟩)

/-! ### comparisons -/
theorem ex_cmp {op : CmpOp} {r : R2} {φ ψ d : VP} (ho : OpR X (compareOp op) r) (hr : R2X X r φ ψ os2 d) (hm : behindInMarks op b = false) (ha : EX X es os a φ os1) (hb : EX X es os1 b ψ os2) : EX X es os (.Compare a [op] [b] pos) d os2 := fun F σ H Q ow sl q =>
  we_of (pe_cmpR ho pe_u pe_u hm) (ha F σ H _ ow sl fun F1 H1 x e1 o1 c1 => hb F1 σ H1 _ o1 (sl.mono e1) fun F2 H2 y e2 o2 c2 =>
    hr F2 H2 x y Q o2 (c1.mono e2) c2 fun F3 H3 v e3 o3 c3 => q F3 H3 v ((e1.trans e2).trans e3) o3 c3)
theorem tx_cmp {op : CmpOp} {r : R2} {φ ψ : VP} {k : Bool} (ho : OpR X (compareOp op) r) (hr : R2X X r φ ψ os2 (dat (.bool k))) (hm : behindInMarks op b = false) (ha : EX X es os a φ os1) (hb : EX X es os1 b ψ os2) : TX X es os (.Compare a [op] [b] pos) k os2 := fun F σ H Q ow sl q =>
  wt_of (pt_cmpR ho pe_u pe_u hm) (ha F σ H _ ow sl fun F1 H1 x e1 o1 c1 => hb F1 σ H1 _ o1 (sl.mono e1) fun F2 H2 y e2 o2 c2 =>
    hr F2 H2 x y _ o2 (c1.mono e2) c2 fun F3 H3 v e3 o3 c3 => ⟨k, clv_bool c3, q F3 H3 ((e1.trans e2).trans e3) o3⟩)
theorem r2_lt {i j : Int} : R2X X (rI0 fun i j => .bl (decide (i < j))) (dat (.int i)) (dat (.int j)) os (dat (.bool (decide (i < j)))) := r2_B0
theorem r2_le {i j : Int} : R2X X (rI0 fun i j => .bl (decide (i ≤ j))) (dat (.int i)) (dat (.int j)) os (dat (.bool (decide (i ≤ j)))) := r2_B0
theorem r2_gt {i j : Int} : R2X X (rI0 fun i j => .bl (decide (j < i))) (dat (.int i)) (dat (.int j)) os (dat (.bool (decide (j < i)))) := r2_B0
theorem r2_ge {i j : Int} : R2X X (rI0 fun i j => .bl (decide (j ≤ i))) (dat (.int i)) (dat (.int j)) os (dat (.bool (decide (j ≤ i)))) := r2_B0
theorem shaped_lay {d : PyData} (h : SeqAt.shaped d = true) : d.hasDict = false := by
  unfold SeqAt.shaped at h
  rw [Bool.and_eq_true] at h
  exact nod_lay d h.1
/-- == of data -/
theorem r2_eq {d e : PyData} {k : Bool} (h1 : SeqAt.shaped d = true) (h2 : SeqAt.shaped e = true) (hk : PyData.eqv d e = k) : R2X X (rEqD X.K) (dat d) (dat e) os (dat (.bool k)) := fun F H x y Q ow cx cy q =>
  ⟨d, e, dq_dp _ _ _ (shaped_lay h1) (dq_mono ow.ex _ _ cx.now), dq_dp _ _ _ (shaped_lay h2) (dq_mono ow.ex _ _ cy.now), h1, h2, by rw [hk]; exact q F H _ (Same.refl F) ow (cl_dat (.bl _))⟩
theorem r2_ne {d e : PyData} {k : Bool} (h1 : SeqAt.shaped d = true) (h2 : SeqAt.shaped e = true) (hk : (!PyData.eqv d e) = k) : R2X X (rNeD X.K) (dat d) (dat e) os (dat (.bool k)) := fun F H x y Q ow cx cy q =>
  ⟨d, e, dq_dp _ _ _ (shaped_lay h1) (dq_mono ow.ex _ _ cx.now), dq_dp _ _ _ (shaped_lay h2) (dq_mono ow.ex _ _ cy.now), h1, h2, by rw [hk]; exact q F H _ (Same.refl F) ow (cl_dat (.bl _))⟩
theorem r2_eqI {i j : Int} : R2X X rEq (dat (.int i)) (dat (.int j)) os (dat (.bool (decide (i = j)))) := fun F H x y Q ow cx cy q => by
  rw [clv_int cx, clv_int cy]
  refine ⟨rfl, ?_⟩
  rw [dec_int, Bool.beq_eq_decide_eq]
  exact q F H _ (Same.refl F) ow (cl_dat (.bl _))
theorem r2_neI {i j : Int} : R2X X rNe (dat (.int i)) (dat (.int j)) os (dat (.bool (!decide (i = j)))) := fun F H x y Q ow cx cy q => by
  rw [clv_int cx, clv_int cy]
  refine ⟨rfl, ?_⟩
  rw [dec_int, Bool.beq_eq_decide_eq]
  exact q F H _ (Same.refl F) ow (cl_dat (.bl _))
theorem r2_eqS {i j : Str} : R2X X rEq (dat (.str i)) (dat (.str j)) os (dat (.bool (decide (i = j)))) := fun F H x y Q ow cx cy q => by
  rw [clv_str cx, clv_str cy]
  refine ⟨rfl, ?_⟩
  have e : decide (V.str i = V.str j) = decide (i = j) := by simp only [V.str.injEq]
  rw [e]
  exact q F H _ (Same.refl F) ow (cl_dat (.bl _))
theorem r2_neS {i j : Str} : R2X X rNe (dat (.str i)) (dat (.str j)) os (dat (.bool (!decide (i = j)))) := fun F H x y Q ow cx cy q => by
  rw [clv_str cx, clv_str cy]
  refine ⟨rfl, ?_⟩
  have e : decide (V.str i = V.str j) = decide (i = j) := by simp only [V.str.injEq]
  rw [e]
  exact q F H _ (Same.refl F) ow (cl_dat (.bl _))
/-- a < b < c -/
theorem ex_chain {op op' : CmpOp} {r r' : R2} {φ ψ χ : VP} {k k' : Bool} (ho : OpR X (compareOp op) r) (ho' : OpR X (compareOp op') r') (hr : R2X X r φ ψ os2 (dat (.bool k))) (hr' : R2X X r' ψ χ os3 (dat (.bool k'))) (h23 : k = false → os2 = os3)
    (ha : EX X es os a φ os1) (hb : EX X es os1 b ψ os2) (hc : k = true → EX X es os2 c χ os3) (hlm : lastMarks [op, op'] [b, c] = false := by rfl) : EX X es os (.Compare a [op, op'] [b, c] pos) (dat (.bool (k && k'))) os3 := fun F σ H Q ow sl q =>
  we_of (pe_chain ho ho' pe_u pe_u pe_u hlm) (ha F σ H _ ow sl fun F1 H1 x e1 o1 c1 => hb F1 σ H1 _ o1 (sl.mono e1) fun F2 H2 y e2 o2 c2 =>
    hr F2 H2 x y _ o2 (c1.mono e2) c2 fun F3 H3 v e3 o3 c3 => ⟨k, clv_bool c3, by
      have e := (e1.trans e2).trans e3
      cases k with
      | true =>
        rw [if_pos rfl]
        refine hc rfl F3 σ H3 _ o3 (sl.mono e) fun F4 H4 z e4 o4 c4 => ?_
        exact hr' F4 H4 y z Q o4 ((c2.mono e3).mono e4) c4 fun F5 H5 v e5 o5 c5 => q F5 H5 v ((e.trans e4).trans e5) o5 (by simpa using c5)
      | false =>
        rw [if_neg Bool.false_ne_true]
        exact q F3 H3 _ e (h23 rfl ▸ o3) (cl_dat (.bl _))⟩)

/-! ### tests -/
theorem tx_val {e : Expr} {k : Bool} (h : EX X es os e (dat (.bool k)) os1) (he : ∀ whole, isTrue e X.env whole = (do let v ← whole; standAt e.pos; holding [v] (truthy v)) := by intro _; rfl) : TX X es os e k os1 := fun F σ H Q ow sl q =>
  wt_of (pt_val pe_u he) (h F σ H _ ow sl fun F1 H1 x e1 o1 c1 => ⟨k, clv_bool c1, q F1 H1 e1 o1⟩)
theorem tx_not {k : Bool} (h : TX X es os a k os1) : TX X es os (.UnaryOp .Not a pos) (!k) os1 := fun F σ H Q ow sl q =>
  wt_of (pt_not pt_u) (h F σ H _ ow sl fun F1 H1 e1 o1 => q F1 H1 e1 o1)
theorem WX.tx {e : Expr} {k : Bool} (h : WX X es os e k os1) : TX X es os e k os1 := fun F σ H Q ow sl q => wt_of (PW.pt pw_u) (h F σ H Q ow sl q)
theorem wx_and1 {k : Bool} (h : TX X es os a k os1) : WX X es os (.BoolOp .And [a] pos) k os1 := fun F σ H Q ow sl q => ww_of (pw_and1 pt_u) (h F σ H Q ow sl q)
theorem wx_or1 {k : Bool} (h : TX X es os a k os1) : WX X es os (.BoolOp .Or [a] pos) k os1 := fun F σ H Q ow sl q => ww_of (pw_or1 pt_u) (h F σ H Q ow sl q)
theorem wx_and {rest : List Expr} {k l m : Bool} (h1 : TX X es os a k os1) (h2 : k = true → WX X es os1 (.BoolOp .And (b :: rest) pos) l os2) (hf : k = false → os1 = os2) (hm : (k && l) = m) : WX X es os (.BoolOp .And (a :: b :: rest) pos) m os2 := fun F σ H Q ow sl q =>
  ww_of (pw_and pt_u pw_u) (h1 F σ H _ ow sl fun F1 H1 e1 o1 => by
    cases k with
    | true =>
      rw [if_pos rfl]
      exact h2 rfl F1 σ H1 Q o1 (sl.mono e1) fun F2 H2 e2 o2 => by rw [← hm] at q; exact q F2 H2 (e1.trans e2) o2
    | false =>
      rw [if_neg Bool.false_ne_true]
      rw [← hm] at q
      exact q F1 H1 e1 (hf rfl ▸ o1))
theorem wx_or {rest : List Expr} {k l m : Bool} (h1 : TX X es os a k os1) (h2 : k = false → WX X es os1 (.BoolOp .Or (b :: rest) pos) l os2) (hf : k = true → os1 = os2) (hm : (k || l) = m) : WX X es os (.BoolOp .Or (a :: b :: rest) pos) m os2 := fun F σ H Q ow sl q =>
  ww_of (pw_or pt_u pw_u) (h1 F σ H _ ow sl fun F1 H1 e1 o1 => by
    cases k with
    | false =>
      rw [if_neg Bool.false_ne_true]
      exact h2 rfl F1 σ H1 Q o1 (sl.mono e1) fun F2 H2 e2 o2 => by rw [← hm] at q; exact q F2 H2 (e1.trans e2) o2
    | true =>
      rw [if_pos rfl]
      rw [← hm] at q
      exact q F1 H1 e1 (hf rfl ▸ o1))
/-- as values -/
theorem ex_one {op} {φ : VP} (h : EX X es os a φ os1) : EX X es os (.BoolOp op [a] pos) φ os1 := fun F σ H Q ow sl q => we_of (pe_one pe_u) (h F σ H Q ow sl q)
theorem ex_and {rest : List Expr} {k l m : Bool} (h1 : EX X es os a (dat (.bool k)) os1) (h2 : k = true → EX X es os1 (.BoolOp .And (b :: rest) pos) (dat (.bool l)) os2) (hf : k = false → os1 = os2) (hm : (k && l) = m) :
    EX X es os (.BoolOp .And (a :: b :: rest) pos) (dat (.bool m)) os2 := fun F σ H Q ow sl q =>
  we_of (pe_and pe_u pe_u) (h1 F σ H _ ow sl fun F1 H1 x e1 o1 c1 => ⟨k, clv_bool c1, by
    subst hm
    cases k with
    | true =>
      rw [if_pos rfl]
      exact h2 rfl F1 σ H1 Q o1 (sl.mono e1) fun F2 H2 v e2 o2 c2 => q F2 H2 v (e1.trans e2) o2 (by simpa using c2)
    | false =>
      rw [if_neg Bool.false_ne_true]
      exact q F1 H1 _ e1 (hf rfl ▸ o1) (cl_dat (.bl _))⟩)
theorem ex_or {rest : List Expr} {k l m : Bool} (h1 : EX X es os a (dat (.bool k)) os1) (h2 : k = false → EX X es os1 (.BoolOp .Or (b :: rest) pos) (dat (.bool l)) os2) (hf : k = true → os1 = os2) (hm : (k || l) = m) :
    EX X es os (.BoolOp .Or (a :: b :: rest) pos) (dat (.bool m)) os2 := fun F σ H Q ow sl q =>
  we_of (pe_or pe_u pe_u) (h1 F σ H _ ow sl fun F1 H1 x e1 o1 c1 => ⟨k, clv_bool c1, by
    subst hm
    cases k with
    | false =>
      rw [if_neg Bool.false_ne_true]
      exact h2 rfl F1 σ H1 Q o1 (sl.mono e1) fun F2 H2 v e2 o2 c2 => q F2 H2 v (e1.trans e2) o2 (by simpa using c2)
    | true =>
      rw [if_pos rfl]
      exact q F1 H1 _ e1 (hf rfl ▸ o1) (cl_dat (.bl _))⟩)
theorem ex_not {k : Bool} (h : EX X es os a (dat (.bool k)) os1) : EX X es os (.UnaryOp .Not a pos) (dat (.bool (!k))) os1 := fun F σ H Q ow sl q =>
  we_of (pe_not pe_u) (h F σ H _ ow sl fun F1 H1 x e1 o1 c1 => ⟨k, clv_bool c1, q F1 H1 _ e1 o1 (cl_dat (.bl _))⟩)
theorem ex_if {k : Bool} {φ : VP} (hc : TX X es os c k os1) (ha : k = true → EX X es os1 a φ os2) (hb : k = false → EX X es os1 b φ os2) : EX X es os (.IfExp c a b pos) φ os2 := fun F σ H Q ow sl q =>
  we_of (pe_ifExp pt_u pe_u pe_u) (hc F σ H _ ow sl fun F1 H1 e1 o1 => by
    cases k with
    | true =>
      rw [if_pos rfl]
      exact ha rfl F1 σ H1 Q o1 (sl.mono e1) fun F2 H2 v e2 => q F2 H2 v (e1.trans e2)
    | false =>
      rw [if_neg Bool.false_ne_true]
      exact hb rfl F1 σ H1 Q o1 (sl.mono e1) fun F2 H2 v e2 => q F2 H2 v (e1.trans e2))
theorem en_if {k : Bool} {n : Ent} (hc : TX X es os c k os1) (ha : k = true → EN X es os1 a n os2) (hb : k = false → EN X es os1 b n os2) : EN X es os (.IfExp c a b pos) n os2 := fun F σ H Q ow sl q =>
  we_of (pe_ifExp pt_u pe_u pe_u) (hc F σ H _ ow sl fun F1 H1 e1 o1 => by
    cases k with
    | true =>
      rw [if_pos rfl]
      exact ha rfl F1 σ H1 Q o1 (sl.mono e1) fun F2 H2 p e2 => q F2 H2 p (e1.trans e2)
    | false =>
      rw [if_neg Bool.false_ne_true]
      exact hb rfl F1 σ H1 Q o1 (sl.mono e1) fun F2 H2 p e2 => q F2 H2 p (e1.trans e2))

/-! ### argument lists, displays -/
theorem ax_nil : AX X es os [] [] os := fun F σ H Q ow sl q => wa_of pa_nil (q F H [] (Same.refl F) ow rfl)
theorem ax_cons {as : List Expr} {φ : VP} {φs : List VP} (ha : EX X es os a φ os1) (hr : AX X es os1 as φs os2) (hs : starEach (a :: as) X.env = (false, eval a X.env) :: starEach as X.env := by rfl) : AX X es os (a :: as) (φ :: φs) os2 := fun F σ H Q ow sl q =>
  wa_of (pa_cons pe_u pa_u hs) (ha F σ H _ ow sl fun F1 H1 x e1 o1 c1 => hr F1 σ H1 _ o1 (sl.mono e1) fun F2 H2 vs e2 o2 c2 => q F2 H2 _ (e1.trans e2) o2 ⟨x, vs, rfl, c1.mono e2, c2⟩)
theorem cla_dq {F : Hp} : ∀ {ds : List PyData} {vs : List V}, ClA (ds.map dat) F vs → DqAll F vs ds
  | [], _, h => by
    have e : _ = [] := h
    rw [e]
    exact .nil
  | d :: ds, _, ⟨v, r, e, h1, h2⟩ => by
    rw [e]
    exact .cons h1.now (cla_dq h2)
theorem ex_tup {as : List Expr} {x1} {ds : List PyData} (h : AX X es os as (ds.map dat) os1) (hl : ds.length ≤ sizeLine := by decide) : EX X es os (.Tuple as x1 pos) (dat (.tuple ds)) os1 := fun F σ H Q ow sl q =>
  we_of (pe_tup pa_u) (h F σ H _ ow sl fun F1 H1 vs e1 o1 c1 => by
    have hd := cla_dq c1
    refine ⟨by rw [dqall_len hd]; exact hl, fun p hp => ?_⟩
    have fp := o1.ex.free hp
    exact q _ _ _ (e1.trans (same_upd fp)) (o1.frozen hp) (cl_dat (.tup upd_same (dqall_mono (same_upd fp) _ _ hd))))
theorem en_lst {as : List Expr} {ds : List PyData} (h : AX X es os as (ds.map dat) os1) (hl : ds.length ≤ sizeLine := by decide) : EN X es os (.List as pos) (ol ds) os1 := fun F σ H Q ow sl q =>
  we_of (pe_lst pa_u) (h F σ H _ ow sl fun F1 H1 vs e1 o1 c1 => by
    have hd := cla_dq c1
    refine ⟨by rw [dqall_len hd]; exact hl, fun p hp => ?_⟩
    exact q _ _ _ e1 (o1.new hp fun G g => ⟨vs, rfl, dqall_mono g _ _ hd⟩))

/-! ### what may be read as a list, a tuple -/
/-- of every value of φ (its object owned or not): it is read as a list of ds -/
def RdL (X : Cx) (φ : VP) (os : Os) (ds : List PyData) : Prop := ∀ F H v, Ow F os H → Cl φ F v → ∃ a vs, v = .ref a ∧ SqL X.K H a vs ∧ DqAll F vs ds
def RdT (φ : VP) (ds : List PyData) : Prop := ∀ F v, Cl φ F v → ∃ a vs, v = .ref a ∧ F a = some (.tup vs) ∧ DqAll F vs ds
theorem rdl_dat {ds : List PyData} : RdL X (dat (.list ds)) os ds := fun F H v ow c => by
  have h := c.now
  cases h with
  | lst h1 h2 => exact ⟨_, _, rfl, .of (ow.ex _ _ h1), h2⟩
theorem rdl_own {p : Addr} {ds : List PyData} (k : Nat) (h : os[k]? = some (p, ol ds)) : RdL X (own p) os ds := fun F H v ow c => by
  obtain ⟨_, vs, ho, hv⟩ := (ow.perm (perm_at h)).atL
  exact ⟨p, vs, c.now, .of ho, hv⟩
/-- the script -/
def scr (K : PySem.W.Frag) (ns : List Int) : VP := fun F v => ∃ a, v = .ref a ∧ SqL K F a (ns.map V.int)
theorem rdl_scr {ns : List Int} : RdL X (scr X.K ns) os (ns.map PyData.int) := fun F H v ow c => by
  obtain ⟨a, rfl, h⟩ := c.now
  exact ⟨a, _, rfl, ow.ex.seq h, dqall_ints ns⟩
theorem rdt_dat {ds : List PyData} : RdT (dat (.tuple ds)) ds := fun F v c => by
  have h := c.now
  cases h with
  | tup h1 h2 => exact ⟨_, _, rfl, h1, h2⟩

/-! ### subscripts -/
/-- xs[i], i of any sign -/
def idx {α : Type} (xs : List α) (i : Int) : Option α := atI xs i
theorem atI_map {α β : Type} (f : α → β) {xs : List α} {i : Int} {v : α} (h : atI xs i = some v) : atI (xs.map f) i = some (f v) := by
  unfold atI at h ⊢
  rw [List.length_map]
  cases e : ixN xs.length i with
  | none => rw [e] at h; cases h
  | some j =>
    rw [e] at h
    have h' : xs[j]? = some v := h
    show (xs.map f)[j]? = some (f v)
    rw [List.getElem?_map, h']
    rfl
theorem atI_dq {F : Hp} {vs : List V} {ds : List PyData} {i : Int} {d : PyData} (h : DqAll F vs ds) (k : atI ds i = some d) : ∃ v, atI vs i = some v ∧ Dq F v d := by
  unfold atI at k ⊢
  rw [dqall_len h]
  cases e : ixN ds.length i with
  | none => rw [e] at k; cases k
  | some j =>
    rw [e] at k
    exact dqall_get' h k
theorem ex_ixL {φ : VP} {ds : List PyData} {i : Int} {d : PyData} (hr : RdL X φ os2 ds) (hk : atI ds i = some d) (ha : EX X es os a φ os1) (hb : EX X es os1 b (dat (.int i)) os2) (hp : PlainIx b := by exact fun _ _ => rfl) : EX X es os (.Subscript a b pos) (dat d) os2 := fun F σ H Q ow sl q =>
  we_of (pe_ix ix_list pe_u pe_u hp) (ha F σ H _ ow sl fun F1 H1 x e1 o1 c1 => hb F1 σ H1 _ o1 (sl.mono e1) fun F2 H2 y e2 o2 c2 => by
    obtain ⟨p, vs, rfl, hs, hv⟩ := hr F2 H2 x o2 (c1.mono e2)
    obtain ⟨v, hi, hd⟩ := atI_dq hv hk
    exact ⟨p, vs, i, v, rfl, clv_int c2, hs, hi, q F2 H2 v (e1.trans e2) o2 (cl_dat hd)⟩)
theorem ex_ixT {φ : VP} {ds : List PyData} {i : Int} {d : PyData} (hr : RdT φ ds) (hk : atI ds i = some d) (ha : EX X es os a φ os1) (hb : EX X es os1 b (dat (.int i)) os2) (hp : PlainIx b := by exact fun _ _ => rfl) : EX X es os (.Subscript a b pos) (dat d) os2 := fun F σ H Q ow sl q =>
  we_of (pe_ix ix_tup pe_u pe_u hp) (ha F σ H _ ow sl fun F1 H1 x e1 o1 c1 => hb F1 σ H1 _ o1 (sl.mono e1) fun F2 H2 y e2 o2 c2 => by
    obtain ⟨p, vs, rfl, hs, hv⟩ := hr F2 x (c1.mono e2)
    obtain ⟨v, hi, hd⟩ := atI_dq hv hk
    exact ⟨p, vs, i, v, rfl, clv_int c2, .of (o2.ex _ _ hs), hi, q F2 H2 v (e1.trans e2) o2 (cl_dat hd)⟩)
end
end Z
/-! Z, part C: defs and their calls (with the list of running reprs known to be empty), builtin calls. -/
namespace Z
open PySem PySem.Spec PyProof.Rows L2

/-! ### a def's promise -/
structure FnG (P : Program) (w : World) (K : PySem.W.Frag) (mg : Str → Option Value) (base : Heap) (C : CXT) (k : Nat) (f : Addr) (fd : FuncData) (ps : List Str) (sp : Sp) : Prop where
  len : ∀ vs H Q E, sp vs H Q E → vs.length = ps.length
  run : ∀ (A : Around) (outer : List Env) (s : Shared) (H : Hp) (args : Args) (us : List Value) (vs : List V) (Q : VK) (E : XK), A.guards = some [] → Room k A →
    Env0 P w K mg base A outer s H → BindsTo s fd args (ps.zip us) → Vals vs us → sp vs H Q E → codeAny (model P w) A (.call (.ref f) args) (CR C outer P w H s Q E) s
section
variable {P : Program} {w : World} {K : PySem.W.Frag} {mg : Str → Option Value} {base : Heap} {C : CXT}
theorem FnG.mono {j k : Nat} {f : Addr} {fd : FuncData} {ps : List Str} {sp : Sp} (F : FnG P w K mg base C j f fd ps sp) (h : j ≤ k) : FnG P w K mg base C k f fd ps sp :=
  ⟨F.len, fun A outer s H args us vs Q E hg hr => F.run A outer s H args us vs Q E hg (hr.mono h)⟩
/-- the body of a def is looked at once -/
theorem fun_ok {x qual : Str} {st : Stmt} {f : Addr} {fd : FuncData} {N ps : List Str} {k : Nat} {sp : Sp} (G : Fun K x qual st f fd) (S : FnScope N ps (defScope st)) (len : ∀ vs H Q E, sp vs H Q E → vs.length = ps.length)
    (body : ∀ (cdv : Value) (A : Around) (outer : List Env) (s : Shared) (H : Hp) (vs : List V) (Q : VK) (E : XK), A.guards = some [] → Room k (A.deeper (envOfC qual (defScope st) s.heap.objs.size f cdv)) → sp vs H Q E →
      WPs (cxOf C P w K mg base N qual (defScope st) f cdv A outer s H E) (defBody st) { nx := fun _ H' => Q .non H', rt := Q } (start N vs) H) : FnG P w K mg base C (k + 1) f fd ps sp := by
  obtain ⟨oc, od, kV, doc, pm, an, cdv, ct, osl, rfl, lk, hcd⟩ := G.ex
  refine ⟨len, ?_⟩
  intro A outer s H args us vs Q E hg hr e0 hb r hsp
  have inh : K.In s.heap := e0.mod.kin.keeps fun b o q => (e0.bs b o q).1
  have nol : s.heap.NoLimit := e0.mod.nolimit.keeps fun b o q => (e0.bs b o q).1
  refine codeAny_call_function hr.depth (inh _ _ lk) rfl S.co S.gen rfl (PySem.W.codeRec_of inh hcd) (hb _ _ _ _ ?_)
  refine wpAny_newFunctionEnv_cells S.kind ?_ ?_
  · rintro ⟨n, v⟩ hy
    rcases S.par n (List.of_mem_zip hy).1 with q | q
    · exact .inl q
    · exact .inr ⟨q, PySem.W.cellsFrom_some _ _ _ (.inl q)⟩
  · intro env he s1 x
    subst he
    refine ⟨nol.keeps x.toInCall.keep, codeAny_func ?_⟩
    have I := inv_start (CX := C) (P := P) (w := w) (E := E) S hr.hd e0 (len _ _ _ _ hsp) r x
    refine wpAny_mono (body cdv A outer s H vs Q E hg (hr.deeper _) hsp [] s1 I) ?_ fun _ _ z => z
    intro fl s' z
    cases fl with
    | ret u =>
      obtain ⟨v, σ', H', J, rv, q⟩ := z
      exact ⟨v, H', J.os, J.bare, J.base, J.hok, rv, q⟩
    | next =>
      obtain ⟨σ', H', J, q⟩ := z
      exact ⟨.non, H', J.os, J.bare, J.base, J.hok, rfl, q⟩
    | brk =>
      obtain ⟨_, _, _, q⟩ := z
      exact q.elim
    | cont =>
      obtain ⟨_, _, _, q⟩ := z
      exact q.elim
end

/-! ### what a body knows -/
def visB (sc : Scope) (x : Str) : Bool := match sc.names.lookup x with
  | some .local => true
  | some .cell => true
  | some .free => true
  | _ => false
def locB (sc : Scope) (x : Str) : Bool := match sc.names.lookup x with
  | some .local => true
  | some .cell => true
  | _ => false
def glB (sc : Scope) (x : Str) : Bool := match sc.names.lookup x with
  | some .globalImplicit => true
  | _ => false
def dunB (x : Str) : Bool := !(x == ("__debug__" : Str)) && !(x == ("__classdict__" : Str)) && !(x == ("__name__" : Str))
theorem vis_of {sc : Scope} {x : Str} (h : visB sc x = true) : Vis sc x := by
  unfold visB at h
  split at h
  · exact .inl (by assumption)
  · exact .inr (.inl (by assumption))
  · exact .inr (.inr (by assumption))
  · cases h
theorem loc_of {sc : Scope} {x : Str} (h : locB sc x = true) : Loc sc x := by
  unfold locB at h
  split at h
  · exact .inl (by assumption)
  · exact .inr (by assumption)
  · cases h
/-- in X: the i-th name stands at its slot and is seen; the j-th global one is one -/
structure Bd (X : Cx) (N : List Str) (V G : List Str) (k : Nat) : Prop where
  hN : X.N = N
  nd : N.Nodup
  calm : X.calm = true
  gd : X.A.guards = some []
  room : Room k X.A
  vis : ∀ x ∈ V, Vis X.env.scope x ∧ dunB x = true
  gl : ∀ x ∈ G, Gl X x ∧ dunB x = true
theorem dun_d {x : Str} (h : dunB x = true) : (x == ("__debug__" : Str)) = false := by
  unfold dunB at h
  simp only [Bool.and_eq_true, Bool.not_eq_true'] at h
  exact h.1.1
theorem dun_c {x : Str} (h : dunB x = true) : (x == ("__classdict__" : Str)) = false := by
  unfold dunB at h
  simp only [Bool.and_eq_true, Bool.not_eq_true'] at h
  exact h.1.2
theorem dun_n {x : Str} (h : dunB x = true) : x ≠ "__name__" := by
  unfold dunB at h
  simp only [Bool.and_eq_true, Bool.not_eq_true', beq_eq_false_iff_ne, ne_eq] at h
  exact h.2
/-- the names of a body, all at once -/
def namB (sc : Scope) (V G : List Str) : Bool := (V.all fun x => visB sc x && dunB x) && (G.all fun x => glB sc x && dunB x)
theorem nam_vis {sc : Scope} {V G : List Str} (h : namB sc V G = true) : ∀ x ∈ V, Vis sc x ∧ dunB x = true := fun x hx => by
  unfold namB at h
  rw [Bool.and_eq_true, List.all_eq_true] at h
  have := h.1 x hx
  rw [Bool.and_eq_true] at this
  exact ⟨vis_of this.1, this.2⟩
theorem nam_gl {sc : Scope} {V G : List Str} (h : namB sc V G = true) : ∀ x ∈ G, sc.names.lookup x = some .globalImplicit ∧ dunB x = true := fun x hx => by
  unfold namB at h
  rw [Bool.and_eq_true, List.all_eq_true, List.all_eq_true] at h
  have := h.2 x hx
  rw [Bool.and_eq_true] at this
  refine ⟨?_, this.2⟩
  have q := this.1
  unfold glB at q
  split at q
  · assumption
  · cases q
/-- what a def's body may store into -/
structure Bs (X : Cx) (V : List Str) : Prop where
  fn : ∀ x, X.fn x = true
  loc : ∀ x ∈ V, Loc X.env.scope x
section
variable {X : Cx} {es : List Slot} {os os1 os2 os3 : Os} {N V G : List Str} {k : Nat} {x : Str} {p pos : Pos} {e : Expr} {as : List Expr}
theorem ex_v {i j : Nat} {φ : VP} (B : Bd X N V G k) (hi : N[i]? = some x) (hj : V[j]? = some x) (h : es[i]? = some (sl φ)) : EX X es os (.Name x pos) φ os :=
  let ⟨a, b⟩ := B.vis x (List.mem_of_getElem? hj)
  ex_name (B.hN ▸ hi) a (dun_d b) (dun_c b) h
theorem ex_g {j : Nat} {i : Int} {t : Tok} (B : Bd X N V G k) (hj : G[j]? = some x) (hm : X.mg x = some (.int i t)) : EX X es os (.Name x pos) (dat (.int i)) os :=
  let ⟨a, b⟩ := B.gl x (List.mem_of_getElem? hj)
  ex_gint a hm (dun_d b)

/-! ### builtins by name -/
def RCX (r : List L2.V → Hp → VK → Prop) (φs : List VP) (os : Os) (d : VP) (os' : Os) : Prop := ∀ F H vs Q, Ow F os H → ClA φs F vs → (∀ F' H' v, Same F F' → Ow F' os' H' → Cl d F' v → Q v H') → r vs H Q
def RCN (r : List L2.V → Hp → VK → Prop) (φs : List VP) (os : Os) (n : Ent) (os' : Os) : Prop := ∀ F H vs Q, Ow F os H → ClA φs F vs → (∀ F' H' p, Same F F' → Ow F' ((p, n) :: os') H' → Q (.ref p) H') → r vs H Q
theorem ex_fn {id : String} {r : List L2.V → Hp → VK → Prop} {φs : List VP} {d : VP} {j : Nat} (B : Bd X N V G k) (hj : G[j]? = some x) (hm : X.mg x = none) (hv : bootBuiltins x = some (.builtin id)) (hc : CallR X (.builtin id) r) (hr : RCX r φs os1 d os2)
    (ha : AX X es os (e :: as) φs os1) (he : starEach (e :: as) X.env = (false, eval e X.env) :: starEach as X.env := by rfl) (hpl : (backTo pos (starEach as X.env)).any (·.1) = false := by rfl) : EX X es os (.Call (.Name x p) (e :: as) [] pos) d os2 := fun F σ H Q ow sl q =>
  let ⟨a, b⟩ := B.gl x (List.mem_of_getElem? hj)
  we_of (pe_callB hc a hm hv pa_u (dun_n b) (dun_d b) he hpl) (ha F σ H _ ow sl fun F1 H1 vs e1 o1 c1 => hr F1 H1 vs Q o1 c1 fun F2 H2 v e2 => q F2 H2 v (e1.trans e2))
theorem en_fn {id : String} {r : List L2.V → Hp → VK → Prop} {φs : List VP} {n : Ent} {j : Nat} (B : Bd X N V G k) (hj : G[j]? = some x) (hm : X.mg x = none) (hv : bootBuiltins x = some (.builtin id)) (hc : CallR X (.builtin id) r) (hr : RCN r φs os1 n os2)
    (ha : AX X es os (e :: as) φs os1) (he : starEach (e :: as) X.env = (false, eval e X.env) :: starEach as X.env := by rfl) (hpl : (backTo pos (starEach as X.env)).any (·.1) = false := by rfl) : EN X es os (.Call (.Name x p) (e :: as) [] pos) n os2 := fun F σ H Q ow sl q =>
  let ⟨a, b⟩ := B.gl x (List.mem_of_getElem? hj)
  we_of (pe_callB hc a hm hv pa_u (dun_n b) (dun_d b) he hpl) (ha F σ H _ ow sl fun F1 H1 vs e1 o1 c1 => hr F1 H1 vs Q o1 c1 fun F2 H2 v e2 => q F2 H2 v (e1.trans e2))
theorem ex_ty {T : String} {r : List L2.V → Hp → VK → Prop} {φs : List VP} {d : VP} {j : Nat} (B : Bd X N V G k) (hj : G[j]? = some x) (hm : X.mg x = none) (hv : bootBuiltins x = some (.type T)) (hc : CallR X (.type T) r) (hr : RCX r φs os1 d os2)
    (ha : AX X es os (e :: as) φs os1) (he : starEach (e :: as) X.env = (false, eval e X.env) :: starEach as X.env := by rfl) (hpl : (backTo pos (starEach as X.env)).any (·.1) = false := by rfl) : EX X es os (.Call (.Name x p) (e :: as) [] pos) d os2 := fun F σ H Q ow sl q =>
  let ⟨a, b⟩ := B.gl x (List.mem_of_getElem? hj)
  we_of (pe_callTy hc a hm hv pa_u (dun_n b) (dun_d b) he hpl) (ha F σ H _ ow sl fun F1 H1 vs e1 o1 c1 => hr F1 H1 vs Q o1 c1 fun F2 H2 v e2 => q F2 H2 v (e1.trans e2))
theorem en_ty {T : String} {r : List L2.V → Hp → VK → Prop} {φs : List VP} {n : Ent} {j : Nat} (B : Bd X N V G k) (hj : G[j]? = some x) (hm : X.mg x = none) (hv : bootBuiltins x = some (.type T)) (hc : CallR X (.type T) r) (hr : RCN r φs os1 n os2)
    (ha : AX X es os (e :: as) φs os1) (he : starEach (e :: as) X.env = (false, eval e X.env) :: starEach as X.env := by rfl) (hpl : (backTo pos (starEach as X.env)).any (·.1) = false := by rfl) : EN X es os (.Call (.Name x p) (e :: as) [] pos) n os2 := fun F σ H Q ow sl q =>
  let ⟨a, b⟩ := B.gl x (List.mem_of_getElem? hj)
  we_of (pe_callTy hc a hm hv pa_u (dun_n b) (dun_d b) he hpl) (ha F σ H _ ow sl fun F1 H1 vs e1 o1 c1 => hr F1 H1 vs Q o1 c1 fun F2 H2 v e2 => q F2 H2 v (e1.trans e2))

/-! ### their readings -/
theorem cla1 {φ : VP} {F : Hp} {vs : List L2.V} (h : ClA [φ] F vs) : ∃ v, vs = [v] ∧ Cl φ F v := by
  obtain ⟨v, r, e, h1, h2⟩ := h
  have e2 : r = [] := h2
  subst e2
  exact ⟨v, e, h1⟩
theorem cla2 {φ ψ : VP} {F : Hp} {vs : List L2.V} (h : ClA [φ, ψ] F vs) : ∃ v u, vs = [v, u] ∧ Cl φ F v ∧ Cl ψ F u := by
  obtain ⟨v, r, e, h1, h2⟩ := h
  obtain ⟨u, e2, h3⟩ := cla1 h2
  subst e2
  exact ⟨v, u, e, h1, h3⟩
theorem rc_abs {i : Int} : RCX (fun xs H Q => ∃ i, xs = [L2.V.int i] ∧ Q (.int (if i < 0 then -i else i)) H) [dat (.int i)] os (dat (.int (if i < 0 then -i else i))) os := fun F H vs Q ow c q => by
  obtain ⟨v, rfl, h⟩ := cla1 c
  exact ⟨i, by rw [clv_int h], q F H _ (Same.refl F) ow (cl_dat (.int _))⟩
theorem rc_max {i j : Int} : RCX (fun xs H Q => ∃ i j, xs = [L2.V.int i, .int j] ∧ Q (.int (if j > i then j else i)) H) [dat (.int i), dat (.int j)] os (dat (.int (if j > i then j else i))) os := fun F H vs Q ow c q => by
  obtain ⟨v, u, rfl, h, h2⟩ := cla2 c
  exact ⟨i, j, by rw [clv_int h, clv_int h2], q F H _ (Same.refl F) ow (cl_dat (.int _))⟩
theorem rc_min {i j : Int} : RCX (fun xs H Q => ∃ i j, xs = [L2.V.int i, .int j] ∧ Q (.int (if j < i then j else i)) H) [dat (.int i), dat (.int j)] os (dat (.int (if j < i then j else i))) os := fun F H vs Q ow c q => by
  obtain ⟨v, u, rfl, h, h2⟩ := cla2 c
  exact ⟨i, j, by rw [clv_int h, clv_int h2], q F H _ (Same.refl F) ow (cl_dat (.int _))⟩
theorem rc_intI {i : Int} : RCX (fun xs H Q => (∃ i, xs = [L2.V.int i] ∧ Q (.int i) H) ∨ ∃ k, xs = [.bl k] ∧ Q (.int (if k then 1 else 0)) H) [dat (.int i)] os (dat (.int i)) os := fun F H vs Q ow c q => by
  obtain ⟨v, rfl, h⟩ := cla1 c
  exact .inl ⟨i, by rw [clv_int h], q F H _ (Same.refl F) ow (cl_dat (.int _))⟩
theorem rc_intB {i : Bool} : RCX (fun xs H Q => (∃ i, xs = [L2.V.int i] ∧ Q (.int i) H) ∨ ∃ k, xs = [.bl k] ∧ Q (.int (if k then 1 else 0)) H) [dat (.bool i)] os (dat (.int (if i then 1 else 0))) os := fun F H vs Q ow c q => by
  obtain ⟨v, rfl, h⟩ := cla1 c
  exact .inr ⟨i, by rw [clv_bool h], q F H _ (Same.refl F) ow (cl_dat (.int _))⟩
/-- str(i), repr(d): none where it would be too long -/
def strO (i : Int) : Option Str := if i.natAbs.log2 < 1920 then some (toString i) else none
theorem rc_str {i : Int} {t : Str} (h : strO i = some t) : RCX (fun xs H Q => ∃ i, xs = [L2.V.int i] ∧ i.natAbs.log2 < 1920 ∧ Q (.str (toString i)) H) [dat (.int i)] os (dat (.str t)) os := fun F H vs Q ow c q => by
  unfold strO at h
  split at h
  · rename_i hl
    cases h
    obtain ⟨v, rfl, h⟩ := cla1 c
    exact ⟨i, by rw [clv_int h], hl, q F H _ (Same.refl F) ow (cl_dat (.str _))⟩
  · cases h
theorem rc_lenL {φ : VP} {ds : List PyData} (hr : RdL X φ os ds) : RCX (fun xs H Q => ∃ p ys, xs = [L2.V.ref p] ∧ (SqL X.K H p ys ∨ SqT X.K H p ys) ∧ Q (.int ys.length) H) [φ] os (dat (.int (ds.length : Int))) os := fun F H vs Q ow c q => by
  obtain ⟨v, rfl, h⟩ := cla1 c
  obtain ⟨a, us, rfl, h1, h2⟩ := hr F H v ow h
  exact ⟨a, us, rfl, .inl h1, by rw [dqall_len h2]; exact q F H _ (Same.refl F) ow (cl_dat (.int _))⟩
theorem rc_lenT {φ : VP} {ds : List PyData} (hr : RdT φ ds) : RCX (fun xs H Q => ∃ p ys, xs = [L2.V.ref p] ∧ (SqL X.K H p ys ∨ SqT X.K H p ys) ∧ Q (.int ys.length) H) [φ] os (dat (.int (ds.length : Int))) os := fun F H vs Q ow c q => by
  obtain ⟨v, rfl, h⟩ := cla1 c
  obtain ⟨a, us, rfl, h1, h2⟩ := hr F v h
  exact ⟨a, us, rfl, .inr (.of (ow.ex _ _ h1)), by rw [dqall_len h2]; exact q F H _ (Same.refl F) ow (cl_dat (.int _))⟩
theorem rc_sum {φ : VP} {ns : List Int} (hr : RdL X φ os (ns.map PyData.int)) : RCX (rSum X.K) [φ] os (dat (.int ns.sum)) os := fun F H vs Q ow c q => by
  obtain ⟨v, rfl, h⟩ := cla1 c
  obtain ⟨a, us, rfl, h1, h2⟩ := hr F H v ow h
  have e := dqall_of_ints ns h2
  subst e
  exact ⟨a, ns, rfl, h1, q F H _ (Same.refl F) ow (cl_dat (.int _))⟩
theorem rc_all {φ : VP} {bs : List Bool} (hr : RdL X φ os (bs.map PyData.bool)) : RCX (rAll X.K) [φ] os (dat (.bool (bs.all id))) os := fun F H vs Q ow c q => by
  obtain ⟨v, rfl, h⟩ := cla1 c
  obtain ⟨a, us, rfl, h1, h2⟩ := hr F H v ow h
  have e := dqall_of_bools bs h2
  subst e
  exact ⟨a, bs, rfl, h1, q F H _ (Same.refl F) ow (cl_dat (.bl _))⟩
theorem rc_any {φ : VP} {bs : List Bool} (hr : RdL X φ os (bs.map PyData.bool)) : RCX (rAny X.K) [φ] os (dat (.bool (bs.any id))) os := fun F H vs Q ow c q => by
  obtain ⟨v, rfl, h⟩ := cla1 c
  obtain ⟨a, us, rfl, h1, h2⟩ := hr F H v ow h
  have e := dqall_of_bools bs h2
  subst e
  exact ⟨a, bs, rfl, h1, q F H _ (Same.refl F) ow (cl_dat (.bl _))⟩
theorem rc_tupL {φ : VP} {ds : List PyData} (hr : RdL X φ os ds) : RCX (fun xs H Q => ∃ p ys, xs = [L2.V.ref p] ∧ ((SqL X.K H p ys ∧ ∀ l, H l = none → Q (.ref l) (upd H l (.tup ys))) ∨ (SqT X.K H p ys ∧ Q (.ref p) H))) [φ] os (dat (.tuple ds)) os := fun F H vs Q ow c q => by
  obtain ⟨v, rfl, h⟩ := cla1 c
  obtain ⟨a, us, rfl, h1, h2⟩ := hr F H v ow h
  refine ⟨a, us, rfl, .inl ⟨h1, fun l hl => ?_⟩⟩
  have fp := ow.ex.free hl
  exact q _ _ _ (same_upd fp) (ow.frozen hl) (cl_dat (.tup upd_same (dqall_mono (same_upd fp) _ _ h2)))
theorem rc_tupT {φ : VP} {ds : List PyData} (hr : RdT φ ds) : RCX (fun xs H Q => ∃ p ys, xs = [L2.V.ref p] ∧ ((SqL X.K H p ys ∧ ∀ l, H l = none → Q (.ref l) (upd H l (.tup ys))) ∨ (SqT X.K H p ys ∧ Q (.ref p) H))) [φ] os (dat (.tuple ds)) os := fun F H vs Q ow c q => by
  obtain ⟨v, rfl, h⟩ := cla1 c
  obtain ⟨a, us, rfl, h1, h2⟩ := hr F v h
  exact ⟨a, us, rfl, .inr ⟨.of (ow.ex _ _ h1), q F H _ (Same.refl F) ow (cl_dat (.tup h1 h2))⟩⟩
theorem rc_lstL {φ : VP} {ds : List PyData} (hr : RdL X φ os ds) : RCN (fun xs H Q => ∃ p ys, xs = [L2.V.ref p] ∧ (SqL X.K H p ys ∨ SqT X.K H p ys) ∧ ∀ l, H l = none → Q (.ref l) (upd H l (.lst ys))) [φ] os (ol ds) os := fun F H vs Q ow c q => by
  obtain ⟨v, rfl, h⟩ := cla1 c
  obtain ⟨a, us, rfl, h1, h2⟩ := hr F H v ow h
  exact ⟨a, us, rfl, .inl h1, fun l hl => q F _ l (Same.refl F) (ow.new hl fun G g => ⟨us, rfl, dqall_mono g _ _ h2⟩)⟩
theorem rc_lstT {φ : VP} {ds : List PyData} (hr : RdT φ ds) : RCN (fun xs H Q => ∃ p ys, xs = [L2.V.ref p] ∧ (SqL X.K H p ys ∨ SqT X.K H p ys) ∧ ∀ l, H l = none → Q (.ref l) (upd H l (.lst ys))) [φ] os (ol ds) os := fun F H vs Q ow c q => by
  obtain ⟨v, rfl, h⟩ := cla1 c
  obtain ⟨a, us, rfl, h1, h2⟩ := hr F v h
  exact ⟨a, us, rfl, .inr (.of (ow.ex _ _ h1)), fun l hl => q F _ l (Same.refl F) (ow.new hl fun G g => ⟨us, rfl, dqall_mono g _ _ h2⟩)⟩
def isI : PyData → Bool
  | .int _ => true
  | _ => false
def shortO (d : PyData) : Bool := isI d || decide (d.shown.length ≤ sizeLine)
/-- repr of data -/
def rRepr (K : PySem.W.Frag) : List L2.V → Hp → VK → Prop := fun xs H Q => ∃ v d, xs = [v] ∧ Dp K H v d ∧ d.showable = true ∧ d.hasDict = false ∧ d.depth ≤ 60 ∧ shortO d = true ∧ Q (.str d.shown) H
theorem call_repr (gd : X.A.guards = some []) (room : Room k X.A) : CallR X (.builtin "repr") (rRepr X.K) := by
  intro pins s σ H vs us Q I r h
  obtain ⟨v, d, rfl, hd, h1, h2, h3, h4, q⟩ := h
  obtain ⟨u, rfl, ru⟩ := vals1 r
  have un := room.un
  have h5 : isI d = false → d.shown.length ≤ sizeLine := fun z => by
    unfold shortO at h4
    rw [z, Bool.false_or] at h4
    exact of_decide_eq_true h4
  cases hd with
  | non =>
    obtain rfl : u = Value.none := ru
    have e : (PyData.none).shown = ("None" : Str) := by simp only [PyData.shown]
    rw [e] at q
    exact PySem.P.repr_of_none ⟨.str _, H, I.tok _, ⟨_, rfl⟩, q⟩
  | bl b =>
    obtain rfl : u = Value.bool b := ru
    have e : (PyData.bool b).shown = (if b then "True" else "False" : Str) := by simp only [PyData.shown]
    rw [e] at q
    exact PySem.P.repr_of_bool ⟨.str _, H, I.tok _, ⟨_, rfl⟩, q⟩
  | int i =>
    obtain ⟨t, rfl⟩ := ru
    have e : (PyData.int i).shown = toString i := by simp only [PyData.shown]
    have h1' : i.natAbs.log2 < 1920 := by simpa only [PyData.showable, decide_eq_true_eq] using h1
    rw [e] at q
    exact PySem.P.repr_of_int h1' ⟨.str _, H, I.tok _, ⟨_, rfl⟩, q⟩
  | str x =>
    obtain ⟨t, rfl⟩ := ru
    have e : (PyData.str x).shown = reprText x := by simp only [PyData.shown]
    have h6 := h5 rfl
    rw [e] at q h6
    exact PySem.P.repr_of_str ⟨.str _, H, I.tok _, ⟨_, rfl⟩, q⟩ h6
  | lst hs ha =>
    obtain rfl : u = Value.ref _ := ru
    obtain ⟨as, hr⟩ := Dp.reads I _ _ (.ref _) (Dp.lst hs ha) rfl
    exact repr_of_reads' hr h1 (PyData.noDict_hsm h2) gd (by omega) (fun _ _ e => e) (fun h' tk t' hk => ⟨.str _, H, I.kept hk, ⟨_, rfl⟩, q⟩) (h5 rfl)
  | tup hs ha =>
    obtain rfl : u = Value.ref _ := ru
    obtain ⟨as, hr⟩ := Dp.reads I _ _ (.ref _) (Dp.tup hs ha) rfl
    exact repr_of_reads' hr h1 (PyData.noDict_hsm h2) gd (by omega) (fun _ _ e => e) (fun h' tk t' hk => ⟨.str _, H, I.kept hk, ⟨_, rfl⟩, q⟩) (h5 rfl)
def reprO (d : PyData) : Option Str := if d.showable = true ∧ d.hasDict = false ∧ d.depth ≤ 60 ∧ shortO d = true then some d.shown else none
theorem rc_repr {d : PyData} {t : Str} (h : reprO d = some t) : RCX (rRepr X.K) [dat d] os (dat (.str t)) os := fun F H vs Q ow c q => by
  unfold reprO at h
  split at h
  · rename_i hl
    cases h
    obtain ⟨v, rfl, h⟩ := cla1 c
    exact ⟨v, d, rfl, dq_dp _ _ _ hl.2.1 (dq_mono ow.ex _ _ h.now), hl.1, hl.2.1, hl.2.2.1, hl.2.2.2, q F H _ (Same.refl F) ow (cl_dat (.str _))⟩
  · cases h
end
end Z
/-! Z, part D: calls of defs, by place and by name. -/
namespace Z
open PySem PySem.Spec PyProof.Rows L2

/-- a def of the text that keeps a promise, as callers see it -/
structure Cal (P : Program) (w : World) (K : PySem.W.Frag) (mg : Str → Option Value) (base : Heap) (k : Nat) (x : Str) (st : Stmt) (ps : List Str) (sp : Sp) : Prop where
  ex : ∃ (f : Addr) (fd : FuncData), Fun K x x st f fd ∧ FnG P w K mg base CX0 k f fd ps sp ∧ mg x = some (.ref f) ∧ Binds K fd ps []
theorem Cal.mono {P : Program} {w : World} {K : PySem.W.Frag} {mg : Str → Option Value} {base : Heap} {j k : Nat} {x : Str} {st : Stmt} {ps : List Str} {sp : Sp} (c : Cal P w K mg base j x st ps sp) (h : j ≤ k) : Cal P w K mg base k x st ps sp :=
  let ⟨f, fd, a, b, d⟩ := c.ex
  ⟨f, fd, a, b.mono h, d⟩
section
variable {X : Cx} {k : Nat} {f : Addr} {fd : FuncData} {ps : List Str} {sp : Sp} {x : Str} {p pos : Pos} {e : Expr} {as : List Expr} {t tk : TA} {kws : List Keyword}
theorem run_g {pins : List (Addr × Obj)} {σ : L2.St} {H : Hp} {s : Shared} {Q : VK} {us zs : List Value} {kv : List (Str × Value)} {vs : List L2.V} (c : FnG X.prog X.w X.K X.mg X.base CX0 k f fd ps sp) (gd : X.A.guards = some []) (hr : Room k X.A)
    (I : Inv X pins σ H s) (b : BindsTo s fd ⟨us, kv⟩ (ps.zip zs)) (r : Vals vs zs) (h : sp vs H Q E0) : wpAny (model X.prog X.w) X.A (call (.ref f) us kv) (EP X pins σ Q) X.xe s := by
  refine wpAny_call (codeAny_mono (c.run X.A X.stack s H ⟨us, kv⟩ zs vs Q E0 gd hr I.env0 b r h) ?_)
  intro res s' hq
  cases res with
  | error e => exact hq.elim
  | ok fl =>
    cases fl with
    | ret u => exact I.after hq
    | next => exact hq.elim
    | brk => exact hq.elim
    | cont => exact hq.elim
theorem pe_g {st : Stmt} (c : Cal X.prog X.w X.K X.mg X.base k x st ps sp) (gd : X.A.guards = some []) (hr : Room k X.A) (hg : Gl X x) (ha : PA X (e :: as) t) (hdb : (x == ("__debug__" : Str)) = false)
    (he : starEach (e :: as) X.env = (false, eval e X.env) :: starEach as X.env := by rfl) (hpl : (backTo pos (starEach as X.env)).any (·.1) = false := by rfl) : PE X (.Call (.Name x p) (e :: as) [] pos) (fun σ H Q => t σ H fun vs H1 => sp vs H1 Q E0) := by
  obtain ⟨f, fd, Fn, G, hm, hb⟩ := c.ex
  refine ⟨fun pins s σ H Q I h => wpAny_Call_Name_kw (ld_glob I hg hm ?_ hdb)⟩
  refine PySem.W.callWith_K (h₀ := X.base) I.ok.mod.kin Fn.kp (thn (ha.run pos pins s σ H _ I h) ?_) he hpl
  rintro us s1 ⟨vs, H1, I1, r, q⟩
  refine ⟨I1.kIn, run_g G gd hr I1 ?_ r q⟩
  have := hb s1 us I1.kIn (by rw [List.append_nil, ← r.length]; exact G.len _ _ _ _ q)
  rw [List.append_nil] at this
  exact this
theorem pe_g0 {st : Stmt} (c : Cal X.prog X.w X.K X.mg X.base k x st ps sp) (gd : X.A.guards = some []) (hr : Room k X.A) (hg : Gl X x) (hdb : (x == ("__debug__" : Str)) = false) : PE X (.Call (.Name x p) [] [] pos) (fun _ H Q => sp [] H Q E0) := by
  obtain ⟨f, fd, Fn, G, hm, hb⟩ := c.ex
  refine ⟨fun pins s σ H Q I h => wpAny_Call_Name_kw (ld_glob I hg hm ?_ hdb)⟩
  refine PySem.W.callWith_K0 I.kIn Fn.kp (run_g (us := []) G gd hr I ?_ .nil h)
  have := hb s [] I.kIn (by rw [List.append_nil]; exact G.len _ _ _ _ h)
  exact this

/-! ### keywords: the pi-th of all values stands for the parameters, one by one -/
def kperm {α : Type} (n m : Nat) (pi : List Nat) (us ws : List α) : List α := if us.length = n ∧ ws.length = m then pi.filterMap fun i => (us ++ ws)[i]? else []
theorem vals_fm {vs : List L2.V} {us : List Value} (h : Vals vs us) : ∀ pi : List Nat, Vals (pi.filterMap fun i => vs[i]?) (pi.filterMap fun i => us[i]?)
  | [] => .nil
  | i :: pi => by
    rw [List.filterMap_cons, List.filterMap_cons]
    cases e : vs[i]? with
    | none =>
      rw [h.none_of e]
      exact vals_fm h pi
    | some v =>
      obtain ⟨u, e2, r⟩ := h.get e
      rw [e2]
      exact .cons r (vals_fm h pi)
theorem vals_kperm {n m : Nat} {pi : List Nat} {vs zs : List L2.V} {us ws : List Value} (h : Vals vs us) (h' : Vals zs ws) : Vals (kperm n m pi vs zs) (kperm n m pi us ws) := by
  unfold kperm
  rw [h.length, h'.length]
  split
  · exact vals_fm (h.append h') pi
  · exact .nil
/-- how the def st binds positional values and keywords ks -/
def KwOk (x : Str) (st : Stmt) (ps ks : List Str) (n : Nat) (pi : List Nat) : Prop := ∀ (kV doc pm : Value) (an : Option Addr) (cdv ct : Value) (us ws : List Value), us.length = n → ws.length = ks.length →
  bindArgs (PySem.W.fnOf x x (defArgs st) (defBody st) (defScope st) .none kV doc pm an cdv ct) ⟨us, ks.zip ws⟩ = pure (ps.zip (pi.filterMap fun i => (us ++ ws)[i]?))
theorem pe_gk {st : Stmt} {ks : List Str} {n : Nat} {pi : List Nat} (c : Cal X.prog X.w X.K X.mg X.base k x st ps sp) (kw : KwOk x st ps ks n pi) (hps : 0 < ps.length) (gd : X.A.guards = some []) (hr : Room k X.A) (hg : Gl X x) (ha : PA X (e :: as) t) (hk : PK X kws tk) (hdb : (x == ("__debug__" : Str)) = false)
    (hall : (backToKw pos (keywordEach kws X.env)).all (·.1.isSome) = true := by rfl) (hks : (backToKw pos (keywordEach kws X.env)).filterMap (·.1) = ks := by rfl)
    (he : starEach (e :: as) X.env = (false, eval e X.env) :: starEach as X.env := by rfl)
    (hpl : ((backTo pos (starEach (e :: as) X.env)).any (·.1) || (backToKw pos (keywordEach kws X.env)).any (·.1.isNone)) = false := by rfl) :
    PE X (.Call (.Name x p) (e :: as) kws pos) (fun σ H Q => t σ H fun vs H1 => tk σ H1 fun zs H2 => sp (kperm n ks.length pi vs zs) H2 Q E0) := by
  obtain ⟨f, fd, Fn, G, hm, hb⟩ := c.ex
  refine ⟨fun pins s σ H Q I h => wpAny_Call_Name_kw (ld_glob I hg hm ?_ hdb)⟩
  refine PySem.W.callWith_KW (h₀ := X.base) I.ok.mod.kin Fn.kp hall (thn (ha.run pos pins s σ H _ I h) ?_) hpl he
  rintro us s1 ⟨vs, H1, I1, r, q⟩
  refine thn (hk.run pos pins s1 σ H1 _ I1 q) ?_
  rintro ws s2 ⟨zs, H2, I2, rz, q2⟩
  refine ⟨I2.kIn, ?_⟩
  rw [hks]
  have rk := vals_kperm (n := n) (m := ks.length) (pi := pi) r rz
  refine run_g G gd hr I2 (.of_eq ?_) rk q2
  have hl := G.len _ _ _ _ q2
  obtain ⟨oc, od, kV, doc, pm, an, cdv, ct, osl, rfl, _, _⟩ := Fn.ex
  unfold kperm at hl ⊢
  split at hl
  · rename_i hh
    rw [if_pos (by rw [← r.length, ← rz.length]; exact hh)]
    exact kw kV doc pm an cdv ct us ws (by rw [← r.length]; exact hh.1) (by rw [← rz.length]; exact hh.2)
  · have : ps.length = 0 := hl.symm
    omega
theorem pe_gk0 {st : Stmt} {ks : List Str} {pi : List Nat} (c : Cal X.prog X.w X.K X.mg X.base k x st ps sp) (kw : KwOk x st ps ks 0 pi) (hps : 0 < ps.length) (gd : X.A.guards = some []) (hr : Room k X.A) (hg : Gl X x) (hk : PK X kws tk) (hdb : (x == ("__debug__" : Str)) = false)
    (hall : (backToKw pos (keywordEach kws X.env)).all (·.1.isSome) = true := by rfl) (hks : (backToKw pos (keywordEach kws X.env)).filterMap (·.1) = ks := by rfl)
    (hpl : ((backTo pos (starEach [] X.env)).any (·.1) || (backToKw pos (keywordEach kws X.env)).any (·.1.isNone)) = false := by rfl) :
    PE X (.Call (.Name x p) [] kws pos) (fun σ H Q => tk σ H fun zs H2 => sp (kperm 0 ks.length pi [] zs) H2 Q E0) := by
  obtain ⟨f, fd, Fn, G, hm, hb⟩ := c.ex
  refine ⟨fun pins s σ H Q I h => wpAny_Call_Name_kw (ld_glob I hg hm ?_ hdb)⟩
  refine PySem.W.callWith_KW0 (h₀ := X.base) I.ok.mod.kin Fn.kp hall ?_ hpl
  refine thn (hk.run pos pins s σ H _ I h) ?_
  rintro ws s2 ⟨zs, H2, I2, rz, q2⟩
  refine ⟨I2.kIn, ?_⟩
  rw [hks]
  have rk := vals_kperm (n := 0) (m := ks.length) (pi := pi) (show Vals [] [] from .nil) rz
  refine run_g (us := []) G gd hr I2 (.of_eq ?_) rk q2
  have hl := G.len _ _ _ _ q2
  obtain ⟨oc, od, kV, doc, pm, an, cdv, ct, osl, rfl, _, _⟩ := Fn.ex
  unfold kperm at hl ⊢
  split at hl
  · rename_i hh
    rw [if_pos (by rw [← rz.length]; exact hh)]
    exact kw kV doc pm an cdv ct [] ws rfl (by rw [← rz.length]; exact hh.2)
  · have : ps.length = 0 := hl.symm
    omega
end

/-! ### the promises that are made here -/
/-- it hands back the value of which res tells -/
def spZ {α β : Type} (ps : α → List VP) (pre : α → Os) (m : α → Option β) (res : α → β → VP) (post : α → β → Os) : Sp := fun vs H Q _ =>
  ∃ (a : α) (b : β) (F : Hp) (os : Os), ClA (ps a) F vs ∧ Ow F (pre a ++ os) H ∧ m a = some b ∧ ∀ F' H' v, Same F F' → Ow F' (post a b ++ os) H' → Cl (res a b) F' v → Q v H'
/-- it hands back a new list -/
def spN {α β : Type} (ps : α → List VP) (pre : α → Os) (m : α → Option β) (n : α → β → Ent) (post : α → β → Os) : Sp := fun vs H Q _ =>
  ∃ (a : α) (b : β) (F : Hp) (os : Os), ClA (ps a) F vs ∧ Ow F (pre a ++ os) H ∧ m a = some b ∧ ∀ F' H' p, Same F F' → Ow F' ((p, n a b) :: (post a b ++ os)) H' → Q (.ref p) H'
theorem spZ_len {α β : Type} {ps : α → List VP} {pre : α → Os} {m : α → Option β} {res : α → β → VP} {post : α → β → Os} {n : Nat} (h : ∀ a, (ps a).length = n) : ∀ vs H Q E, spZ ps pre m res post vs H Q E → vs.length = n :=
  fun vs H Q E ⟨a, b, F, os, c, _⟩ => (cla_len c).trans (h a)
theorem spN_len {α β : Type} {ps : α → List VP} {pre : α → Os} {m : α → Option β} {n : α → β → Ent} {post : α → β → Os} {k : Nat} (h : ∀ a, (ps a).length = k) : ∀ vs H Q E, spN ps pre m n post vs H Q E → vs.length = k :=
  fun vs H Q E ⟨a, b, F, os, c, _⟩ => (cla_len c).trans (h a)

section
variable {X : Cx} {es : List Slot} {os os1 os2 rest : Os} {N V G : List Str} {k j : Nat} {x : Str} {p pos : Pos} {e : Expr} {as : List Expr} {kws : List Keyword} {ks : List Str} {st : Stmt} {pn : List Str} {α β : Type} {ps : α → List VP} {pre : α → Os} {m : α → Option β} {res : α → β → VP} {post : α → β → Os} {n : α → β → Ent} {gi : Nat}
theorem ex_call (B : Bd X N V G k) (hj : G[gi]? = some x) (c : Cal X.prog X.w X.K X.mg X.base j x st pn (spZ ps pre m res post)) (hl : j ≤ k) {a : α} {b : β} (hm : m a = some b) (ha : AX X es os (e :: as) (ps a) (pre a ++ rest))
    (he : starEach (e :: as) X.env = (false, eval e X.env) :: starEach as X.env := by rfl) (hpl : (backTo pos (starEach as X.env)).any (·.1) = false := by rfl) : EX X es os (.Call (.Name x p) (e :: as) [] pos) (res a b) (post a b ++ rest) := fun F σ H Q ow sl q =>
  let ⟨u, v⟩ := B.gl x (List.mem_of_getElem? hj)
  we_of (pe_g (c.mono hl) B.gd B.room u pa_u (dun_d v) he hpl) (ha F σ H _ ow sl fun F1 H1 vs e1 o1 c1 => ⟨a, b, F1, rest, c1, o1, hm, fun F2 H2 v e2 o2 c2 => q F2 H2 v (e1.trans e2) o2 c2⟩)
theorem ex_call0 (B : Bd X N V G k) (hj : G[gi]? = some x) (c : Cal X.prog X.w X.K X.mg X.base j x st pn (spZ ps pre m res post)) (hl : j ≤ k) {a : α} {b : β} (hm : m a = some b) (hp : ps a = []) (ho : os = pre a ++ rest) : EX X es os (.Call (.Name x p) [] [] pos) (res a b) (post a b ++ rest) := fun F σ H Q ow sl q =>
  let ⟨u, v⟩ := B.gl x (List.mem_of_getElem? hj)
  we_of (pe_g0 (c.mono hl) B.gd B.room u (dun_d v)) ⟨a, b, F, rest, by rw [hp]; rfl, ho ▸ ow, hm, q⟩
theorem en_call (B : Bd X N V G k) (hj : G[gi]? = some x) (c : Cal X.prog X.w X.K X.mg X.base j x st pn (spN ps pre m n post)) (hl : j ≤ k) {a : α} {b : β} (hm : m a = some b) (ha : AX X es os (e :: as) (ps a) (pre a ++ rest))
    (he : starEach (e :: as) X.env = (false, eval e X.env) :: starEach as X.env := by rfl) (hpl : (backTo pos (starEach as X.env)).any (·.1) = false := by rfl) : EN X es os (.Call (.Name x p) (e :: as) [] pos) (n a b) (post a b ++ rest) := fun F σ H Q ow sl q =>
  let ⟨u, v⟩ := B.gl x (List.mem_of_getElem? hj)
  we_of (pe_g (c.mono hl) B.gd B.room u pa_u (dun_d v) he hpl) (ha F σ H _ ow sl fun F1 H1 vs e1 o1 c1 => ⟨a, b, F1, rest, c1, o1, hm, fun F2 H2 v e2 o2 => q F2 H2 v (e1.trans e2) o2⟩)
/-- the values of keywords -/
def KX (X : Cx) (es : List Slot) (os : Os) (kws : List Keyword) (φs : List VP) (os' : Os) : Prop := ∀ F σ H, Ow F os H → Sl F es σ → ∀ Q : List L2.V → Hp → Prop, (∀ F' H' vs, Same F F' → Ow F' os' H' → ClA φs F' vs → Q vs H') →
  ∀ pos pins s, Inv X pins σ H s → wpAny (model X.prog X.w) X.A (evalAll ((backToKw pos (keywordEach kws X.env)).map (·.2))) (AP X pins σ Q) X.xe s
def WK (X : Cx) (kws : List Keyword) (σ : L2.St) (H : Hp) (Q : List L2.V → Hp → Prop) : Prop := ∀ pos pins s, Inv X pins σ H s → wpAny (model X.prog X.w) X.A (evalAll ((backToKw pos (keywordEach kws X.env)).map (·.2))) (AP X pins σ Q) X.xe s
theorem pk_u : PK X kws (WK X kws) := ⟨fun pos pins s _ _ _ I h => h pos pins s I⟩
theorem kx_nil : KX X es os [] [] os := fun F σ H ow sl Q q pos pins s I => pk_nil.run pos pins s σ H Q I (q F H [] (Same.refl F) ow rfl)
theorem kx_cons {nm : Option Str} {kpos : Pos} {φ : VP} {φs : List VP} (ha : EX X es os e φ os1) (hr : KX X es os1 kws φs os2) : KX X es os (⟨nm, e, kpos⟩ :: kws) (φ :: φs) os2 := fun F σ H ow sl Q q pos pins s I =>
  (pk_cons pe_u pk_u).run pos pins s σ H Q I (ha F σ H _ ow sl fun F1 H1 x e1 o1 c1 => hr F1 σ H1 o1 (sl.mono e1) _ fun F2 H2 vs e2 o2 c2 => q F2 H2 _ (e1.trans e2) o2 ⟨x, vs, rfl, c1.mono e2, c2⟩)
theorem cla_get {F : Hp} : ∀ {φs : List VP} {vs : List L2.V} {i : Nat}, ClA φs F vs → (φs[i]? = none ∧ vs[i]? = none) ∨ ∃ φ v, φs[i]? = some φ ∧ vs[i]? = some v ∧ Cl φ F v
  | [], _, i, h => by
    have e : _ = [] := h
    subst e
    exact .inl ⟨rfl, rfl⟩
  | φ :: φs, _, 0, ⟨v, r, e, h1, h2⟩ => by
    subst e
    exact .inr ⟨φ, v, rfl, rfl, h1⟩
  | φ :: φs, _, i + 1, ⟨v, r, e, h1, h2⟩ => by
    subst e
    rw [List.getElem?_cons_succ, List.getElem?_cons_succ]
    exact cla_get h2
theorem cla_fm {F : Hp} {φs : List VP} {vs : List L2.V} (h : ClA φs F vs) : ∀ pi : List Nat, ClA (pi.filterMap fun i => φs[i]?) F (pi.filterMap fun i => vs[i]?)
  | [] => rfl
  | i :: pi => by
    rw [List.filterMap_cons, List.filterMap_cons]
    rcases cla_get (i := i) h with ⟨e1, e2⟩ | ⟨φ, v, e1, e2, c⟩
    · rw [e1, e2]
      exact cla_fm h pi
    · rw [e1, e2]
      exact ⟨v, _, rfl, c, cla_fm h pi⟩
theorem cla_app {F : Hp} : ∀ {φs ψs : List VP} {vs us : List L2.V}, ClA φs F vs → ClA ψs F us → ClA (φs ++ ψs) F (vs ++ us)
  | [], _, _, _, h, g => by
    have e : _ = [] := h
    subst e
    exact g
  | φ :: φs, _, _, _, ⟨v, r, e, h1, h2⟩, g => by
    subst e
    exact ⟨v, _, rfl, h1, cla_app h2 g⟩
theorem cla_kperm {F : Hp} {φs ψs : List VP} {vs us : List L2.V} {n m : Nat} {pi : List Nat} (h : ClA φs F vs) (g : ClA ψs F us) : ClA (kperm n m pi φs ψs) F (kperm n m pi vs us) := by
  unfold kperm
  rw [cla_len h, cla_len g]
  split
  · exact cla_fm (cla_app h g) pi
  · rfl
theorem ex_callk {φs ψs : List VP} {nn : Nat} {pi : List Nat} (B : Bd X N V G k) (hj : G[gi]? = some x) (c : Cal X.prog X.w X.K X.mg X.base j x st pn (spZ ps pre m res post)) (hl : j ≤ k) (kw : KwOk x st pn ks nn pi) (hpn : 0 < pn.length) {a : α} {b : β} (hm : m a = some b) (ha : AX X es os (e :: as) φs os1) (hk : KX X es os1 kws ψs (pre a ++ rest))
    (hp : ps a = kperm nn ks.length pi φs ψs)
    (hall : (backToKw pos (keywordEach kws X.env)).all (·.1.isSome) = true := by rfl) (hks : (backToKw pos (keywordEach kws X.env)).filterMap (·.1) = ks := by rfl)
    (he : starEach (e :: as) X.env = (false, eval e X.env) :: starEach as X.env := by rfl)
    (hpl : ((backTo pos (starEach (e :: as) X.env)).any (·.1) || (backToKw pos (keywordEach kws X.env)).any (·.1.isNone)) = false := by rfl) : EX X es os (.Call (.Name x p) (e :: as) kws pos) (res a b) (post a b ++ rest) := fun F σ H Q ow sl q =>
  let ⟨u, v⟩ := B.gl x (List.mem_of_getElem? hj)
  we_of (pe_gk (c.mono hl) kw hpn B.gd B.room u pa_u pk_u (dun_d v) hall hks he hpl) (ha F σ H _ ow sl fun F1 H1 vs e1 o1 c1 => hk F1 σ H1 o1 (sl.mono e1) _ fun F2 H2 zs e2 o2 c2 =>
    ⟨a, b, F2, rest, by rw [hp]; exact cla_kperm (cla_mono e2 c1) c2, o2, hm, fun F3 H3 v e3 o3 c3 => q F3 H3 v ((e1.trans e2).trans e3) o3 c3⟩)
theorem ex_callk0 {ψs : List VP} {pi : List Nat} (B : Bd X N V G k) (hj : G[gi]? = some x) (c : Cal X.prog X.w X.K X.mg X.base j x st pn (spZ ps pre m res post)) (hl : j ≤ k) (kw : KwOk x st pn ks 0 pi) (hpn : 0 < pn.length) {a : α} {b : β} (hm : m a = some b) (hk : KX X es os kws ψs (pre a ++ rest))
    (hp : ps a = kperm 0 ks.length pi [] ψs)
    (hall : (backToKw pos (keywordEach kws X.env)).all (·.1.isSome) = true := by rfl) (hks : (backToKw pos (keywordEach kws X.env)).filterMap (·.1) = ks := by rfl)
    (hpl : ((backTo pos (starEach [] X.env)).any (·.1) || (backToKw pos (keywordEach kws X.env)).any (·.1.isNone)) = false := by rfl) : EX X es os (.Call (.Name x p) [] kws pos) (res a b) (post a b ++ rest) := fun F σ H Q ow sl q =>
  let ⟨u, v⟩ := B.gl x (List.mem_of_getElem? hj)
  we_of (pe_gk0 (c.mono hl) kw hpn B.gd B.room u pk_u (dun_d v) hall hks hpl) (hk F σ H ow sl _ fun F2 H2 zs e2 o2 c2 =>
    ⟨a, b, F2, rest, by rw [hp]; exact cla_kperm (φs := []) (vs := []) rfl c2, o2, hm, fun F3 H3 v e3 o3 c3 => q F3 H3 v (e2.trans e3) o3 c3⟩)
theorem en_callk {φs ψs : List VP} {nn : Nat} {pi : List Nat} (B : Bd X N V G k) (hj : G[gi]? = some x) (c : Cal X.prog X.w X.K X.mg X.base j x st pn (spN ps pre m n post)) (hl : j ≤ k) (kw : KwOk x st pn ks nn pi) (hpn : 0 < pn.length) {a : α} {b : β} (hm : m a = some b) (ha : AX X es os (e :: as) φs os1) (hk : KX X es os1 kws ψs (pre a ++ rest))
    (hp : ps a = kperm nn ks.length pi φs ψs)
    (hall : (backToKw pos (keywordEach kws X.env)).all (·.1.isSome) = true := by rfl) (hks : (backToKw pos (keywordEach kws X.env)).filterMap (·.1) = ks := by rfl)
    (he : starEach (e :: as) X.env = (false, eval e X.env) :: starEach as X.env := by rfl)
    (hpl : ((backTo pos (starEach (e :: as) X.env)).any (·.1) || (backToKw pos (keywordEach kws X.env)).any (·.1.isNone)) = false := by rfl) : EN X es os (.Call (.Name x p) (e :: as) kws pos) (n a b) (post a b ++ rest) := fun F σ H Q ow sl q =>
  let ⟨u, v⟩ := B.gl x (List.mem_of_getElem? hj)
  we_of (pe_gk (c.mono hl) kw hpn B.gd B.room u pa_u pk_u (dun_d v) hall hks he hpl) (ha F σ H _ ow sl fun F1 H1 vs e1 o1 c1 => hk F1 σ H1 o1 (sl.mono e1) _ fun F2 H2 zs e2 o2 c2 =>
    ⟨a, b, F2, rest, by rw [hp]; exact cla_kperm (cla_mono e2 c1) c2, o2, hm, fun F3 H3 v e3 o3 => q F3 H3 v ((e1.trans e2).trans e3) o3⟩)
theorem en_callk0 {ψs : List VP} {pi : List Nat} (B : Bd X N V G k) (hj : G[gi]? = some x) (c : Cal X.prog X.w X.K X.mg X.base j x st pn (spN ps pre m n post)) (hl : j ≤ k) (kw : KwOk x st pn ks 0 pi) (hpn : 0 < pn.length) {a : α} {b : β} (hm : m a = some b) (hk : KX X es os kws ψs (pre a ++ rest))
    (hp : ps a = kperm 0 ks.length pi [] ψs)
    (hall : (backToKw pos (keywordEach kws X.env)).all (·.1.isSome) = true := by rfl) (hks : (backToKw pos (keywordEach kws X.env)).filterMap (·.1) = ks := by rfl)
    (hpl : ((backTo pos (starEach [] X.env)).any (·.1) || (backToKw pos (keywordEach kws X.env)).any (·.1.isNone)) = false := by rfl) : EN X es os (.Call (.Name x p) [] kws pos) (n a b) (post a b ++ rest) := fun F σ H Q ow sl q =>
  let ⟨u, v⟩ := B.gl x (List.mem_of_getElem? hj)
  we_of (pe_gk0 (c.mono hl) kw hpn B.gd B.room u pk_u (dun_d v) hall hks hpl) (hk F σ H ow sl _ fun F2 H2 zs e2 o2 c2 =>
    ⟨a, b, F2, rest, by rw [hp]; exact cla_kperm (φs := []) (vs := []) rfl c2, o2, hm, fun F3 H3 v e3 o3 => q F3 H3 v (e2.trans e3) o3⟩)
end
end Z
/-! Z, part E: statements. -/
namespace Z
open PySem PySem.Spec PyProof.Rows L2

/-- what a body's statements need beside Bd -/
structure Bt (X : Cx) (V : List Str) : Prop where
  fn : ∀ x, X.fn x = true
  loc : ∀ x ∈ V, Loc X.env.scope x
  po : PassesOwn (model X.prog X.w) X.A X.env X.xe
/-- the state fits -/
def At (F0 : Hp) (es : List Slot) (os : Os) (σ : L2.St) (H : Hp) : Prop := ∃ F, Same F0 F ∧ Ow F os H ∧ Sl F es σ
section
variable {X : Cx} {es es' : List Slot} {os os1 os2 : Os} {F0 : Hp} {rest : List Stmt} {D : Ends} {N V G W : List Str} {k i vi : Nat} {x : Str} {pos pos' : Pos} {e : Expr} {φ : VP} {n : Ent}
theorem sx_at (h : ∀ σ H, At F0 es os σ H → WPs X rest D σ H) : SX X es os F0 rest D := fun F σ H s ow sl => h σ H ⟨F, s, ow, sl⟩
theorem SX.at (h : SX X es os F0 rest D) {σ : L2.St} {H : Hp} (a : At F0 es os σ H) : WPs X rest D σ H := let ⟨F, s, ow, sl⟩ := a; h F σ H s ow sl
theorem SX.perm (h : SX X es os F0 rest D) (p : os1.Perm os) : SX X es os1 F0 rest D := fun F σ H s ow sl => h F σ H s (ow.perm p) sl
theorem SX.weak (h : SX X es' os F0 rest D) (w : Wk es es') : SX X es os F0 rest D := fun F σ H s ow sl => h F σ H s ow (sl.weak w)
theorem SX.drop {q : Addr × Ent} (h : SX X es os F0 rest D) : SX X es (q :: os) F0 rest D := fun F σ H s ow sl => h F σ H s ow.drop sl
theorem sx_nil (h : ∀ σ H, At F0 es os σ H → D.nx σ H) : SX X es os F0 [] D := fun F σ H s ow sl => wps_nil (h σ H ⟨F, s, ow, sl⟩)
/-- behind a branch the rest goes on -/
theorem sx_fall {D' : Ends} (h : SX X es os F0 rest D') (e : D.nx = WPs X rest D') : SX X es os F0 [] D := sx_nil fun σ H a => by
  rw [e]
  exact h.at a
theorem sx_asg (B : Bd X N W G k) (T : Bt X V) (hi : N[i]? = some x) (hv : V[vi]? = some x) (he : EX X es os e φ os1) (h : SX X (es.set i (sl φ)) os1 F0 rest D) (hs : swapsWith e (some (.Name x pos')) pos.line X.env = pure false := by rfl) :
    SX X es os F0 (.Assign [.Name x pos'] e pos :: rest) D := fun F σ H s ow sl =>
  wps_cons (ws_of (ps_set (B.hN ▸ B.nd) (B.hN ▸ hi) (T.loc x (List.mem_of_getElem? hv)) pe_u hs (.inl (T.fn x))) (he F σ H _ ow sl fun F1 H1 v e1 o1 c1 => h F1 _ H1 (s.trans e1) o1 ((sl.mono e1).put c1)))
theorem sx_asgN (B : Bd X N W G k) (T : Bt X V) (hi : N[i]? = some x) (hv : V[vi]? = some x) (he : EN X es os e n os1) (h : ∀ p, SX X (es.set i (sl (own p))) ((p, n) :: os1) F0 rest D) (hs : swapsWith e (some (.Name x pos')) pos.line X.env = pure false := by rfl) :
    SX X es os F0 (.Assign [.Name x pos'] e pos :: rest) D := fun F σ H s ow sl =>
  wps_cons (ws_of (ps_set (B.hN ▸ B.nd) (B.hN ▸ hi) (T.loc x (List.mem_of_getElem? hv)) pe_u hs (.inl (T.fn x))) (he F σ H _ ow sl fun F1 H1 p e1 o1 => h p F1 _ H1 (s.trans e1) o1 ((sl.mono e1).put cl_own)))
theorem sx_expr (he : EX X es os e φ os1) (h : SX X es os1 F0 rest D) (hs : swapsWith e none pos.line X.env = pure false := by rfl) : SX X es os F0 (.Expr e pos :: rest) D := fun F σ H s ow sl =>
  wps_cons (ws_of (ps_expr pe_u hs) (he F σ H _ ow sl fun F1 H1 v e1 o1 c1 => h F1 σ H1 (s.trans e1) o1 (sl.mono e1)))
theorem sx_ret (he : EX X es os e φ os1) (h : ∀ F H v, Same F0 F → Ow F os1 H → Cl φ F v → D.rt v H) : SX X es os F0 (.Return (some e) pos :: rest) D := fun F σ H s ow sl =>
  wps_cons (ws_of (ps_ret pe_u) (he F σ H _ ow sl fun F1 H1 v e1 o1 c1 => h F1 H1 v (s.trans e1) o1 c1))
theorem sx_retN (he : EN X es os e n os1) (h : ∀ F H p, Same F0 F → Ow F ((p, n) :: os1) H → D.rt (.ref p) H) : SX X es os F0 (.Return (some e) pos :: rest) D := fun F σ H s ow sl =>
  wps_cons (ws_of (ps_ret pe_u) (he F σ H _ ow sl fun F1 H1 v e1 o1 => h F1 H1 v (s.trans e1) o1))
theorem sx_if {c : Expr} {a b : List Stmt} {t : Bool} (hc : TX X es os c t os1) (ha : t = true → SX X es os1 F0 a { D with nx := WPs X rest D }) (hb : t = false → SX X es os1 F0 b { D with nx := WPs X rest D }) : SX X es os F0 (.If c a b pos :: rest) D := fun F σ H s ow sl =>
  wps_cons (ws_of (ps_if pt_u pss_u pss_u) (hc F σ H _ ow sl fun F1 H1 e1 o1 => by
    cases t with
    | true =>
      rw [if_pos rfl]
      exact ha rfl F1 σ H1 (s.trans e1) o1 (sl.mono e1)
    | false =>
      rw [if_neg Bool.false_ne_true]
      exact hb rfl F1 σ H1 (s.trans e1) o1 (sl.mono e1)))
theorem sx_never (h : False) : SX X es os F0 rest D := h.elim
theorem sx_brk (h : ∀ σ H, At F0 es os σ H → D.bk σ H) : SX X es os F0 (.Break pos :: rest) D := fun F σ H s ow sl => wps_cons (ws_of ps_break (h σ H ⟨F, s, ow, sl⟩))
theorem sx_cont (h : ∀ σ H, At F0 es os σ H → D.ct σ H) : SX X es os F0 (.Continue pos :: rest) D := fun F σ H s ow sl => wps_cons (ws_of ps_continue (h σ H ⟨F, s, ow, sl⟩))
theorem sx_pass (h : SX X es os F0 rest D) : SX X es os F0 (.Pass pos :: rest) D := fun F σ H s ow sl => wps_cons (ws_of ps_pass (h F σ H s ow sl))
/-- x += e (ints) -/
theorem sx_addI {a b : Int} (B : Bd X N W G k) (T : Bt X V) (hi : N[i]? = some x) (hv : V[vi]? = some x) (hx : es[i]? = some (sl (dat (.int a)))) (he : EX X es os e (dat (.int b)) os1) (h : SX X (es.set i (sl (dat (.int (a + b))))) os1 F0 rest D) :
    SX X es os F0 (.AugAssign (.Name x pos') .Add e pos :: rest) D := fun F σ H s ow sl => by
  obtain ⟨v, ev, cv⟩ := sl.val hx
  refine wps_cons (ws_of (ps_aug (B.hN ▸ B.nd) (B.hN ▸ hi) (T.loc x (List.mem_of_getElem? hv)) pe_u ip_add (.inl (T.fn x))) ⟨v, ev, he F σ H _ ow sl fun F1 H1 y e1 o1 c1 => ?_⟩)
  exact ⟨a, b, clv_int cv, clv_int c1, h F1 _ H1 (s.trans e1) o1 ((sl.mono e1).put (cl_dat (.int _)))⟩
/-- a, b = e1, e2 of plain local names -/
theorem sx_par {j : Nat} {y : Str} {a b : Expr} {px py pt p2 : Pos} {kt k2 : Nat} {φ ψ : VP} (B : Bd X N W G k) (hi : N[i]? = some x) (hj : N[j]? = some y) (hij : i ≠ j) (hx : X.env.scope.names.lookup x = some .local) (hy : X.env.scope.names.lookup y = some .local)
    (ha : AX X es os [a, b] [φ, ψ] os1) (hw : swappedStores [.Tuple [.Name x px, .Name y py] kt pt] (.Tuple [a, b] k2 p2) X.env = pure (some [x, y])) (h : SX X ((es.set i (sl φ)).set j (sl ψ)) os1 F0 rest D)
    (hs : swapsWithSole [.Tuple [.Name x px, .Name y py] kt pt] (.Tuple [a, b] k2 p2) pos.line X.env = pure false := by rfl) : SX X es os F0 (.Assign [.Tuple [.Name x px, .Name y py] kt pt] (.Tuple [a, b] k2 p2) pos :: rest) D := fun F σ H s ow sl =>
  wps_cons (ws_of (ps_par B.calm (B.hN ▸ B.nd) (B.hN ▸ hi) (B.hN ▸ hj) hij hx hy pa_u hw hs) (ha F σ H _ ow sl fun F1 H1 vs e1 o1 c1 => by
    obtain ⟨v, u, rfl, h1, h2⟩ := cla2 c1
    exact ⟨v, u, rfl, h F1 _ H1 (s.trans e1) o1 (((sl.mono e1).put h1).put h2)⟩))

/-! ### targets -/
def WG (X : Cx) (tg : Expr) : TG := fun v σ H Q => ∀ pins s u, Inv X pins σ H s → RelV v u → wpAny (model X.prog X.w) X.A (assign tg X.env u) (fun _ s' => ∃ σ' H', Inv X pins σ' H' s' ∧ Q σ' H') X.xe s
theorem pg_u {tg : Expr} : PG X tg (WG X tg) := ⟨fun pins s _ _ _ u _ I r h => h pins s u I r⟩
theorem wg_of {tg : Expr} {g : TG} {v : L2.V} {σ : L2.St} {H : Hp} {Q : L2.St → Hp → Prop} (h : PG X tg g) (q : g v σ H Q) : WG X tg v σ H Q := fun pins s u I r => h.run pins s σ H v u Q I r q
/-- to assign a value of φ to tg changes the slots as f tells -/
def GX (X : Cx) (tg : Expr) (φ : VP) (f : List Slot → List Slot) : Prop := ∀ es os F σ H v Q, Ow F os H → Sl F es σ → Cl φ F v → (∀ σ', Sl F (f es) σ' → Q σ' H) → WG X tg v σ H Q
theorem gx_name (B : Bd X N W G k) (T : Bt X V) (hi : N[i]? = some x) (hv : V[vi]? = some x) : GX X (.Name x pos) φ (fun es => es.set i (sl φ)) := fun es os F σ H v Q ow sl c q =>
  wg_of (pg_name (B.hN ▸ B.nd) (B.hN ▸ hi) (T.loc x (List.mem_of_getElem? hv)) (.inl (T.fn x))) (q _ (sl.put c))
theorem gx_pair {a b : Expr} {kk : Nat} {d1 d2 : PyData} {f g : List Slot → List Slot} (B : Bd X N W G k) (h1 : GX X a (dat d1) f) (h2 : GX X b (dat d2) g) (hn : (assignEach [a, b] X.env).length = 2 := by rfl) (hst : (assignEach [a, b] X.env).findIdx? (·.1) = none := by rfl)
    (hs : (assignEach [a, b] X.env).map (·.2) = assign a X.env :: (assignEach [b] X.env).map (·.2) := by rfl) (hs2 : (assignEach [b] X.env).map (·.2) = assign b X.env :: (assignEach [] X.env).map (·.2) := by rfl) :
    GX X (.Tuple [a, b] kk pos) (dat (.tuple [d1, d2])) (fun es => g (f es)) := fun es os F σ H v Q ow sl c q => by
  obtain ⟨p, vs, rfl, hp, hv⟩ := rdt_dat F v c
  cases hv with
  | cons k1 r =>
    cases r with
    | cons k2 r =>
      cases r
      refine wg_of (pg_tup (n := 2) B.calm (pgs_cons pg_u (pgs_cons pg_u pgs_nil hs2) hs) hn hst) ⟨p, _, rfl, .of (ow.ex _ _ hp), rfl, _, _, rfl, ?_⟩
      refine h1 es os F σ H _ _ ow sl (cl_dat k1) fun σ1 s1 => ⟨_, _, rfl, ?_⟩
      exact h2 _ os F σ1 H _ _ ow s1 (cl_dat k2) fun σ2 s2 => ⟨rfl, q σ2 s2⟩
theorem gx_triple {a b c : Expr} {kk : Nat} {d1 d2 d3 : PyData} {f g h : List Slot → List Slot} (B : Bd X N W G k) (h1 : GX X a (dat d1) f) (h2 : GX X b (dat d2) g) (h3 : GX X c (dat d3) h) (hn : (assignEach [a, b, c] X.env).length = 3 := by rfl) (hst : (assignEach [a, b, c] X.env).findIdx? (·.1) = none := by rfl)
    (hs : (assignEach [a, b, c] X.env).map (·.2) = assign a X.env :: (assignEach [b, c] X.env).map (·.2) := by rfl) (hs2 : (assignEach [b, c] X.env).map (·.2) = assign b X.env :: (assignEach [c] X.env).map (·.2) := by rfl) (hs3 : (assignEach [c] X.env).map (·.2) = assign c X.env :: (assignEach [] X.env).map (·.2) := by rfl) :
    GX X (.Tuple [a, b, c] kk pos) (dat (.tuple [d1, d2, d3])) (fun es => h (g (f es))) := fun es os F σ H v Q ow sl c q => by
  obtain ⟨p, vs, rfl, hp, hv⟩ := rdt_dat F v c
  cases hv with
  | cons k1 r =>
    cases r with
    | cons k2 r =>
      cases r with
      | cons k3 r =>
        cases r
        refine wg_of (pg_tup (n := 3) B.calm (pgs_cons pg_u (pgs_cons pg_u (pgs_cons pg_u pgs_nil hs3) hs2) hs) hn hst) ⟨p, _, rfl, .of (ow.ex _ _ hp), rfl, _, _, rfl, ?_⟩
        refine h1 es os F σ H _ _ ow sl (cl_dat k1) fun σ1 s1 => ⟨_, _, rfl, ?_⟩
        refine h2 _ os F σ1 H _ _ ow s1 (cl_dat k2) fun σ2 s2 => ⟨_, _, rfl, ?_⟩
        exact h3 _ os F σ2 H _ _ ow s2 (cl_dat k3) fun σ3 s3 => ⟨rfl, q σ3 s3⟩
/-- a, b = e: e a tuple -/
theorem sx_unp {tg : Expr} {f : List Slot → List Slot} (hg : GX X tg φ f) (he : EX X es os e φ os1) (h : SX X (f es) os1 F0 rest D) (hs : swapsWithSole [tg] e pos.line X.env = pure false := by rfl) (hw : swappedStores [tg] e X.env = pure none := by rfl)
    (h1 : (assignEach [tg] X.env).map (·.2) = [assign tg X.env] := by rfl) : SX X es os F0 (.Assign [tg] e pos :: rest) D := fun F σ H s ow sl =>
  wps_cons (ws_of (ps_asg pe_u pg_u hs hw h1) (he F σ H _ ow sl fun F1 H1 v e1 o1 c1 => hg es os1 F1 σ H1 v _ o1 (sl.mono e1) c1 fun σ1 s1 => h F1 σ1 H1 (s.trans e1) o1 s1))

/-! ### methods of one's own lists -/
theorem ty_own {F H : Hp} {K : PySem.W.Frag} {p : Addr} {ds : List PyData} {j : Nat} (ow : Ow F os H) (hj : os[j]? = some (p, ol ds)) : ∃ vs, H p = some (.lst vs) ∧ DqAll F vs ds ∧ tyV K "list" (.ref p) H := by
  obtain ⟨_, vs, ho, hv⟩ := (ow.perm (perm_at hj)).atL
  exact ⟨vs, ho, hv, .inl ⟨rfl, vs, .of ho⟩⟩
/-- a list that is one's own is rewritten -/
theorem ow_set {F H : Hp} {p : Addr} {ds ds' : List PyData} {vs' : List L2.V} {j : Nat} (ow : Ow F os H) (hj : os[j]? = some (p, ol ds)) (h : DqAll F vs' ds') : Ow F (os.set j (p, ol ds')) (upd H p (.lst vs')) :=
  ((ow.perm (perm_at hj)).putL h).perm (perm_set hj)
theorem ex_append {a : Expr} {apos cpos : Pos} {p : Addr} {ds : List PyData} {d : PyData} {j : Nat} (ho : EX X es os a (own p) os) (he : EX X es os e (dat d) os1) (h0 : os[j]? = some (p, ol ds0)) (hj : os1[j]? = some (p, ol ds)) (hz : ds.length < sizeLine)
    (hbase : attributeBase a "append" X.env (eval a X.env) = eval a X.env := by rfl) (hline : (apos.endLine == cpos.line) = true := by rfl) (hs : starEach [e] X.env = (false, eval e X.env) :: starEach [] X.env := by rfl)
    (hfew : ((backTo cpos (starEach [e] X.env)).all (fun x => !x.1) && (backToKw cpos (keywordEach [] X.env)).all (fun x => x.1.isSome) && decide ([e].length + ([] : List Keyword).length + (if ([] : List Keyword).isEmpty then 0 else 1) < 30)) = true := by rfl)
    (hplain : (backTo cpos (starEach [] X.env)).any (·.1) = false := by rfl) : EX X es os (.Call (.Attribute a "append" apos) [e] [] cpos) (dat .none) (os1.set j (p, ol (ds ++ [d]))) := fun F σ H Q ow sl q =>
  we_of (pe_bm PySem.F.plainAttrs_list PySem.F.slot_list_append PySem.F.type_list_append mt_append pe_u pa_u hbase hfew hline hs hplain) (ho F σ H _ ow sl fun F1 H1 v e1 o1 c1 => by
    obtain rfl : v = .ref p := c1.now
    obtain ⟨_, _, _, ty⟩ := ty_own (K := X.K) o1 h0
    refine ⟨ty, wa_of (pa_cons pe_u pa_nil hs) (he F1 σ H1 _ o1 (sl.mono e1) fun F2 H2 u e2 o2 c2 => ?_)⟩
    obtain ⟨vs, hp, hv, _⟩ := ty_own (K := X.K) o2 hj
    exact ⟨p, vs, u, rfl, rfl, hp, by rw [dqall_len hv]; exact hz, q F2 _ .non (e1.trans e2) (ow_set o2 hj (dqall_app hv (.cons c2.now .nil))) (cl_dat .non)⟩)
theorem dqall_last {F : Hp} : ∀ {ds : List PyData} {vs : List L2.V} {d : PyData}, DqAll F vs ds → ds.getLast? = some d → ∃ v, vs[vs.length - 1]? = some v ∧ Dq F v d ∧ DqAll F vs.dropLast ds.dropLast := fun {ds vs d} h e => by
  rw [List.getLast?_eq_getElem?] at e
  obtain ⟨v, e2, hd⟩ := dqall_get' h e
  refine ⟨v, by rw [dqall_len h]; exact e2, hd, ?_⟩
  rw [List.dropLast_eq_take, List.dropLast_eq_take, dqall_len h]
  exact dqall_take _ h
theorem ex_pop {a : Expr} {apos cpos : Pos} {p : Addr} {ds : List PyData} {d : PyData} {j : Nat} (ho : EX X es os a (own p) os) (hj : os[j]? = some (p, ol ds)) (hd : ds.getLast? = some d)
    (hbase : attributeBase a "pop" X.env (eval a X.env) = eval a X.env := by rfl) (hline : (apos.endLine == cpos.line) = true := by rfl) : EX X es os (.Call (.Attribute a "pop" apos) [] [] cpos) (dat d) (os.set j (p, ol ds.dropLast)) := fun F σ H Q ow sl q =>
  we_of (pe_bm0 PySem.F.plainAttrs_list PySem.F.slot_list_pop PySem.F.type_list_pop mt_pop pe_u hbase hline) (ho F σ H _ ow sl fun F1 H1 v e1 o1 c1 => by
    obtain rfl : v = .ref p := c1.now
    obtain ⟨vs, hp, hv, ty⟩ := ty_own (K := X.K) o1 hj
    obtain ⟨u, eu, hu, hr⟩ := dqall_last hv hd
    exact ⟨ty, p, vs, u, rfl, rfl, hp, eu, q F1 _ u e1 (ow_set o1 hj hr) (cl_dat hu)⟩)
/-- xs[i] = e -/
theorem sx_setL {a b : Expr} {tpos : Pos} {p : Addr} {ds : List PyData} {d : PyData} {j m : Nat} {z : Int} (he : EX X es os e (dat d) os1) (ho : EX X es os1 a (own p) os1) (hb : EX X es os1 b (dat (.int z)) os2) (hj : os2[j]? = some (p, ol ds)) (hz : ixN ds.length z = some m) (h : SX X es (os2.set j (p, ol (ds.set m d))) F0 rest D)
    (hs : swapsWithSole [.Subscript a b tpos] e pos.line X.env = pure false := by rfl) (hw : swappedStores [.Subscript a b tpos] e X.env = pure none := by rfl) (h1 : (assignEach [.Subscript a b tpos] X.env).map (·.2) = [assign (.Subscript a b tpos) X.env] := by rfl)
    (hsub : ∀ v, assign (.Subscript a b tpos) X.env v = (do
      let ov ← holding [v] (eval a X.env)
      let iv ← holding [v, ov] (eval b X.env)
      standAt tpos
      holding [v, ov, iv] (setItem ov iv v)
      release [v, ov, iv] []) := by intro _; rfl) : SX X es os F0 (.Assign [.Subscript a b tpos] e pos :: rest) D := fun F σ H s ow sl =>
  wps_cons (ws_of (ps_asg pe_u (pg_sub pe_u pe_u set_list hsub) hs hw h1) (he F σ H _ ow sl fun F1 H1 v e1 o1 c1 => ho F1 σ H1 _ o1 (sl.mono e1) fun F2 H2 w e2 o2 c2 => hb F2 σ H2 _ o2 (sl.mono (e1.trans e2)) fun F3 H3 u e3 o3 c3 => by
    obtain rfl : w = .ref p := c2.now
    obtain ⟨vs, hp, hv, _⟩ := ty_own (K := X.K) o3 hj
    refine ⟨p, vs, z, m, rfl, clv_int c3, hp, by rw [dqall_len hv]; exact hz, ?_⟩
    have e := (e1.trans e2).trans e3
    exact h F3 σ _ (s.trans e) (ow_set o3 hj (dqall_set ((c1.mono e2).mono e3).now m hv)) (sl.mono e)))
end
end Z
/-! Z, part F: loops and list comprehensions. -/
namespace Z
open PySem PySem.Spec PyProof.Rows L2

/-! ### the mirrors of loops -/
/-- one turn after another; none: it raises -/
def lp {α S : Type} (f : S → α → Option S) : List α → S → Option S
  | [], s => some s
  | x :: xs, s => (f s x).bind (lp f xs)
inductive Step (R S : Type) where
  | go (s : S) | brk (s : S) | ret (r : R)
/-- what follows a turn -/
def Step.aft {R S : Type} (k : S → Option (Sum R S)) : Step R S → Option (Sum R S)
  | .go s => k s
  | .brk s => some (.inr s)
  | .ret r => some (.inl r)
/-- .. that may be left: inl, what is handed back; inr, the state behind -/
def lpR {α R S : Type} (f : S → α → Option (Step R S)) : List α → S → Option (Sum R S)
  | [], s => some (.inr s)
  | x :: xs, s => (f s x).bind (Step.aft (lpR f xs))
/-- while, at most so many turns -/
def wh {R S : Type} (c : S → Option Bool) (f : S → Option (Step R S)) : Nat → S → Option (Sum R S)
  | 0, _ => none
  | n + 1, s => (c s).bind fun b => if b = true then (f s).bind (Step.aft (wh c f n)) else some (.inr s)
/-- a comprehension whose element may change the state -/
def lcS {α β S : Type} (f : S → α → Option (Option β × S)) : List α → S → Option (List β × S)
  | [], s => some ([], s)
  | x :: xs, s => (f s x).bind fun t => (lcS f xs t.2).bind fun u => some (t.1.toList ++ u.1, u.2)
def range' (a b : Int) : List Int := (List.range (b - a).toNat).map fun (i : Nat) => a + (i : Int)

section
variable {X : Cx} {es : List Slot} {os os1 os2 : Os} {F0 : Hp} {rest : List Stmt} {D : Ends} {N V G W : List Str} {k i vi gi : Nat} {x : Str} {p pos : Pos} {e e2 : Expr} {α : Type}

/-! ### what is walked -/
def WI (X : Cx) (tg iter : Expr) (σ : L2.St) (H : Hp) (R : It → Hp → Prop) : Prop := ∀ pins s, Inv X pins σ H s →
    wpAny (model X.prog X.w) X.A (eval iter X.env) (fun v s1 => wpAny (model X.prog X.w) X.A (pyIter v) (PIE X pins σ tg R) X.xe s1) X.xe s
theorem pi_u {tg iter : Expr} : PI X tg iter (WI X tg iter) := ⟨fun pins s _ _ _ I h => h pins s I⟩
theorem wi_of {tg iter : Expr} {w : TI} {σ : L2.St} {H : Hp} {R : It → Hp → Prop} (h : PI X tg iter w) (q : w σ H R) : WI X tg iter σ H R := fun pins s I => h.run pins s σ H R I q
/-- J yields the xs, as vp tells of each, from F on, while c holds of what is owned -/
def Good (J : It) (F : Hp) (xs : List α) (vp : α → VP) (c : Os → Prop) : Prop := ∀ F2 H2 os2 i, Same F F2 → Ow F2 os2 H2 → c os2 →
  (xs.length ≤ i → J.stop i H2) ∧ ∀ x, xs[i]? = some x → J.go i H2 ∧ ∀ v H3, J.yld i H2 v H3 → ∃ F3, Same F2 F3 ∧ Ow F3 os2 H3 ∧ Cl (vp x) F3 v
def IX (X : Cx) (tg : Expr) (es : List Slot) (os : Os) (iter : Expr) (xs : List α) (vp : α → VP) (c : Os → Prop) (os' : Os) : Prop := ∀ F σ H R, Ow F os H → Sl F es σ → (∀ F' H' J, Same F F' → Ow F' os' H' → Good J F' xs vp c → R J H') → WI X tg iter σ H R
def anyOs : Os → Prop := fun _ => True
theorem range_get {n i : Nat} {lo x : Int} (h : ((List.range n).map fun (i : Nat) => lo + (i : Int))[i]? = some x) : i < n ∧ x = lo + (i : Int) := by
  rw [List.getElem?_map] at h
  by_cases hi : i < n
  · rw [List.getElem?_range hi] at h
    exact ⟨hi, (Option.some.inj h).symm⟩
  · rw [List.getElem?_eq_none (by rw [List.length_range]; omega)] at h
    cases h
theorem good_range {F : Hp} {lo : Int} {n : Nat} : Good (Itr lo n) F ((List.range n).map fun (i : Nat) => lo + (i : Int)) (fun x => dat (.int x)) anyOs := fun F2 H2 os2 i s ow _ => by
  refine ⟨fun h => show n ≤ i by simpa using h, fun x hx => ?_⟩
  obtain ⟨h1, rfl⟩ := range_get hx
  refine ⟨h1, fun v H3 y => ?_⟩
  obtain ⟨rfl, rfl⟩ := y
  exact ⟨F2, Same.refl F2, ow, cl_dat (.int _)⟩
theorem ix_range1 {tg : Expr} {b : Int} (B : Bd X N W G k) (hj : G[gi]? = some "range") (hm : X.mg "range" = none) (hb : -(2 ^ 62) ≤ b ∧ b < 2 ^ 62) (ha : EX X es os e (dat (.int b)) os1) (hs : starEach [e] X.env = [(false, eval e X.env)] := by rfl) :
    IX X tg es os (.Call (.Name "range" p) [e] [] pos) (range' 0 b) (fun x => dat (.int x)) anyOs os1 := fun F σ H R ow sl q =>
  wi_of (pi_range1 (B.gl _ (List.mem_of_getElem? hj)).1 hm pa_u hs) (wa_of (pa_cons pe_u pa_nil hs) (ha F σ H _ ow sl fun F1 H1 v e1 o1 c1 => ⟨b, by rw [clv_int c1], hb.1, hb.2, q F1 H1 _ e1 o1 (by
    have := good_range (F := F1) (lo := 0) (n := b.toNat)
    unfold range'
    rw [Int.sub_zero]
    exact this)⟩))
theorem ix_range2 {tg : Expr} {a b : Int} (B : Bd X N W G k) (hj : G[gi]? = some "range") (hm : X.mg "range" = none) (hab : -(2 ^ 62) ≤ a ∧ a < 2 ^ 62 ∧ -(2 ^ 62) ≤ b ∧ b < 2 ^ 62) (ha : EX X es os e (dat (.int a)) os1) (hb : EX X es os1 e2 (dat (.int b)) os2)
    (hs : starEach [e, e2] X.env = [(false, eval e X.env), (false, eval e2 X.env)] := by rfl) (hs2 : starEach [e2] X.env = [(false, eval e2 X.env)] := by rfl) :
    IX X tg es os (.Call (.Name "range" p) [e, e2] [] pos) (range' a b) (fun x => dat (.int x)) anyOs os2 := fun F σ H R ow sl q =>
  wi_of (pi_range2 (B.gl _ (List.mem_of_getElem? hj)).1 hm pa_u hs hs2) (wa_of (pa_cons pe_u (pa_cons pe_u pa_nil hs2) (by rw [hs, hs2])) (ha F σ H _ ow sl fun F1 H1 v e1 o1 c1 => hb F1 σ H1 _ o1 (sl.mono e1) fun F2 H2 u e2 o2 c2 =>
    ⟨a, b, by rw [clv_int c1, clv_int c2], hab, q F2 H2 _ (e1.trans e2) o2 good_range⟩))
theorem dqall_map {F : Hp} {xs : List α} {enc : α → PyData} {vs : List L2.V} {i : Nat} {x : α} (h : DqAll F vs (xs.map enc)) (e : xs[i]? = some x) : ∃ v, vs[i]? = some v ∧ Dq F v (enc x) := dqall_get' h (by rw [List.getElem?_map, e]; rfl)
/-- a list (read as rl tells) -/
theorem ix_list {tg : Expr} {φ : VP} {xs : List α} {enc : α → PyData} {c : Os → Prop} (he : EX X es os e φ os1) (hc : ∀ o, c o → RdL X φ o (xs.map enc)) (h0 : c os1) : IX X tg es os e xs (fun x => dat (enc x)) c os1 := fun F σ H R ow sl q =>
  wi_of (pi_list pe_u) (he F σ H _ ow sl fun F1 H1 v e1 o1 c1 => by
    obtain ⟨a, vs, rfl, h1, h2⟩ := hc os1 h0 F1 H1 v o1 c1
    refine ⟨a, rfl, ⟨vs, h1⟩, q F1 H1 _ e1 o1 fun F2 H2 os2 i s ow2 k2 => ?_⟩
    obtain ⟨a', us, ea, g1, g2⟩ := hc os2 k2 F2 H2 _ ow2 (c1.mono s)
    cases ea
    have hl := dqall_len g2
    rw [List.length_map] at hl
    refine ⟨fun h => ⟨us, g1, by omega⟩, fun x hx => ?_⟩
    obtain ⟨u, hu, hd⟩ := dqall_map g2 hx
    refine ⟨⟨us, u, g1, hu⟩, fun w H3 y => ?_⟩
    obtain ⟨rfl, hy⟩ := y
    have ew : us[i]? = some w := hy us g1
    rw [hu] at ew
    cases ew
    exact ⟨F2, Same.refl F2, ow2, cl_dat hd⟩)
theorem ix_tup {tg : Expr} {φ : VP} {xs : List α} {enc : α → PyData} (he : EX X es os e φ os1) (hr : RdT φ (xs.map enc)) : IX X tg es os e xs (fun x => dat (enc x)) anyOs os1 := fun F σ H R ow sl q =>
  wi_of (pi_tup pe_u) (he F σ H _ ow sl fun F1 H1 v e1 o1 c1 => by
    obtain ⟨a, vs, rfl, h1, h2⟩ := hr F1 v c1
    refine ⟨a, rfl, ⟨vs, .of (o1.ex _ _ h1)⟩, q F1 H1 _ e1 o1 fun F2 H2 os2 i s ow2 k2 => ?_⟩
    have g1 := ow2.ex _ _ (s _ _ h1)
    have g2 := dqall_mono s _ _ h2
    have hl := dqall_len g2
    rw [List.length_map] at hl
    refine ⟨fun h => ⟨vs, .of g1, by omega⟩, fun x hx => ?_⟩
    obtain ⟨u, hu, hd⟩ := dqall_map g2 hx
    refine ⟨⟨vs, u, .of g1, hu⟩, fun w H3 y => ?_⟩
    obtain ⟨rfl, hy⟩ := y
    have ew : vs[i]? = some w := hy vs (.of g1)
    rw [hu] at ew
    cases ew
    exact ⟨F2, Same.refl F2, ow2, cl_dat hd⟩)
theorem zipIdx_get {xs : List α} {i : Nat} {z : Int × α} (h : (xs.zipIdx.map fun y => ((y.2 : Int), y.1))[i]? = some z) : z.1 = (i : Int) ∧ xs[i]? = some z.2 := by
  rw [List.getElem?_map, List.getElem?_zipIdx] at h
  cases e : xs[i]? with
  | none =>
    rw [e] at h
    cases h
  | some x =>
    rw [e] at h
    have := Option.some.inj h
    subst this
    exact ⟨by simp, rfl⟩
/-- enumerate(a list) -/
def enum {α : Type} (xs : List α) : List (Int × α) := xs.zipIdx.map fun y => ((y.2 : Int), y.1)
theorem enum_len {xs : List α} : (enum xs).length = xs.length := by
  unfold enum
  rw [List.length_map, List.length_zipIdx]
theorem ix_enum {elts : List Expr} {kk : Nat} {tpos : Pos} {φ : VP} {xs : List α} {enc : α → PyData} {c : Os → Prop} (B : Bd X N W G k) (hj : G[gi]? = some "enumerate") (hm : X.mg "enumerate" = none) (he : EX X es os e φ os1) (hc : ∀ o, c o → RdL X φ o (xs.map enc)) (h0 : c os1) (hs : starEach [e] X.env = [(false, eval e X.env)] := by rfl) :
    IX X (.Tuple elts kk tpos) es os (.Call (.Name "enumerate" p) [e] [] pos) (enum xs) (fun x => dat (.tuple [.int x.1, enc x.2])) c os1 := fun F σ H R ow sl q =>
  wi_of (pi_enum (B.gl _ (List.mem_of_getElem? hj)).1 hm pa_u hs) (wa_of (pa_cons pe_u pa_nil hs) (he F σ H _ ow sl fun F1 H1 v e1 o1 c1 => by
    obtain ⟨a, vs, rfl, h1, h2⟩ := hc os1 h0 F1 H1 v o1 c1
    refine ⟨a, vs, rfl, h1, q F1 H1 _ e1 o1 fun F2 H2 os2 i s ow2 k2 => ?_⟩
    obtain ⟨a', us, ea, g1, g2⟩ := hc os2 k2 F2 H2 _ ow2 (c1.mono s)
    cases ea
    have hl := dqall_len g2
    rw [List.length_map] at hl
    refine ⟨fun h => ⟨us, g1, by rw [enum_len] at h; omega⟩, fun x hx => ?_⟩
    obtain ⟨hz1, hz2⟩ := zipIdx_get hx
    obtain ⟨u, hu, hd⟩ := dqall_map g2 hz2
    refine ⟨⟨us, u, g1, hu⟩, fun w H3 y => ?_⟩
    obtain ⟨T, w2, rfl, hT, rfl, hy⟩ := y
    have ew : us[i]? = some w2 := hy us g1
    rw [hu] at ew
    cases ew
    have fT := ow2.ex.free hT
    refine ⟨_, same_upd fT, ow2.frozen hT, cl_dat (.tup upd_same ?_)⟩
    rw [hz1]
    exact .cons (.int _) (.cons (dq_mono (same_upd fT) _ _ hd) .nil)))

/-! ### for -/
theorem drop_cons' {xs : List α} {i : Nat} {x : α} (h : xs[i]? = some x) : xs.drop i = x :: xs.drop (i + 1) := by
  obtain ⟨h1, h2⟩ := List.getElem?_eq_some_iff.mp h
  rw [List.drop_eq_getElem_cons h1, h2]
/-- what a turn is to reach -/
def LpD {R S γ : Type} (F0 : Hp) (ES : S → γ → List Slot) (OS : S → γ → Os) (RT : R → L2.V → Hp → Prop) (t : Step R S) : Ends where
  nx := fun σ H => ∃ s g, t = .go s ∧ At F0 (ES s g) (OS s g) σ H
  ct := fun σ H => ∃ s g, t = .go s ∧ At F0 (ES s g) (OS s g) σ H
  bk := fun σ H => ∃ s g, t = .brk s ∧ At F0 (ES s g) (OS s g) σ H
  rt := fun v H => ∃ r, t = .ret r ∧ RT r v H
/-- a loop that may be left. γ: what changes beside the mirror's state (addresses) -/
theorem sx_forR {R S γ : Type} {tg iter : Expr} {body : List Stmt} {xs : List α} {vp : α → VP} {c : Os → Prop} {up : α → List Slot → List Slot} {fpos : Pos} (f : S → α → Option (Step R S)) (ES : S → γ → List Slot) (OS : S → γ → Os) (RT : R → L2.V → Hp → Prop)
    (B : Bd X N W G k) (T : Bt X V) (hg : ∀ x, GX X tg (vp x) (up x)) (s0 : S) (g0 : γ) (o : Sum R S) (hl : lpR f xs s0 = some o) (hi : IX X tg es os iter xs vp c (OS s0 g0)) (h0 : Wk es (ES s0 g0)) (hc : ∀ s g, c (OS s g))
    (hb : ∀ F1, Same F0 F1 → ∀ s g x t, x ∈ xs → f s x = some t → SX X (up x (ES s g)) (OS s g) F1 body (LpD F1 ES OS RT t))
    (hn : ∀ s g, o = .inr s → SX X (ES s g) (OS s g) F0 rest D) (hr : ∀ r v H, o = .inl r → RT r v H → D.rt v H) (hs : ∀ x, foldedSetIterable iter X.env x = pure x := by intro _; rfl) : SX X es os F0 (.For tg iter body [] fpos :: rest) D := fun F σ H s ow sl => by
  refine wps_cons (ws_of (ps_for T.po B.calm pi_u pg_u pss_u hs) (hi F σ H _ ow sl fun F1 H1 J e1 o1 good => ?_))
  refine ⟨fun i m σ' H' => m = xs.length - i ∧ i ≤ xs.length ∧ ∃ s' g', lpR f (xs.drop i) s' = some o ∧ ∃ F', Same F1 F' ∧ Ow F' (OS s' g') H' ∧ Sl F' (ES s' g') σ', ⟨_, rfl, Nat.zero_le _, s0, g0, hl, F1, Same.refl F1, o1, (sl.mono e1).weak h0⟩, ?_⟩
  rintro i m σ' H' ⟨rfl, hi, s', g', hl', F', e', o', sl'⟩
  obtain ⟨stop, go⟩ := good F' H' (OS s' g') i e' o' (hc s' g')
  cases hx : xs[i]? with
  | none =>
    have hi2 : xs.length ≤ i := List.getElem?_eq_none_iff.mp hx
    refine .inl ⟨stop hi2, ?_⟩
    rw [List.drop_eq_nil_of_le hi2] at hl'
    cases hl'
    exact hn s' g' rfl F' σ' H' ((s.trans e1).trans e') o' sl'
  | some x =>
    obtain ⟨hgo, hy⟩ := go x hx
    have hlt : i < xs.length := (List.getElem?_eq_some_iff.mp hx).1
    rw [drop_cons' hx] at hl'
    cases hf : f s' x with
    | none =>
      unfold lpR at hl'
      rw [hf] at hl'
      cases hl'
    | some t =>
      unfold lpR at hl'
      rw [hf] at hl'
      have hl2 : Step.aft (lpR f (xs.drop (i + 1))) t = some o := hl'
      refine .inr ⟨hgo, fun σ2 H2 => ∃ s2 g2, t = .go s2 ∧ ∃ F2, Same F1 F2 ∧ Ow F2 (OS s2 g2) H2 ∧ Sl F2 (ES s2 g2) σ2, ?_, ?_⟩
      · rintro σ2 H2 ⟨s2, g2, rfl, F2, e2, o2, sl2⟩
        exact ⟨_, by omega, rfl, by omega, s2, g2, hl2, F2, e2, o2, sl2⟩
      · intro v H3 yv
        obtain ⟨F3, e3, o3, c3⟩ := hy v H3 yv
        refine hg x _ _ F3 σ' H3 v _ o3 (sl'.mono e3) c3 fun σ4 sl4 => ?_
        have key := hb F1 (s.trans e1) s' g' x t (List.mem_of_getElem? hx) hf
        have q3 : Same F1 F3 := e'.trans e3
        -- the body, from F3; its ends are at least as strong as is wanted
        intro pins sh I
        refine wpAny_mono (key F3 σ4 H3 q3 o3 sl4 pins sh I) (fun fl s5 z => ?_) fun _ _ z => z
        cases fl with
        | next =>
          obtain ⟨σ5, H5, J5, s5', g5, et, F5, e5, o5, sl5⟩ := z
          exact ⟨σ5, H5, J5, s5', g5, et, F5, e5, o5, sl5⟩
        | cont =>
          obtain ⟨σ5, H5, J5, s5', g5, et, F5, e5, o5, sl5⟩ := z
          exact ⟨σ5, H5, J5, s5', g5, et, F5, e5, o5, sl5⟩
        | brk =>
          obtain ⟨σ5, H5, J5, s5', g5, et, F5, e5, o5, sl5⟩ := z
          subst et
          cases hl2
          exact ⟨σ5, H5, J5, hn s5' g5 rfl F5 σ5 H5 ((s.trans e1).trans e5) o5 sl5⟩
        | ret u =>
          obtain ⟨w, σ5, H5, J5, rv, r, et, rr⟩ := z
          subst et
          cases hl2
          exact ⟨w, σ5, H5, J5, rv, hr r w H5 rfl rr⟩
end
end Z
/-! Z, part G: plain loops, while, list comprehensions. -/
namespace Z
open PySem PySem.Spec PyProof.Rows L2

theorem lp_lpR {α S : Type} (f : S → α → Option S) : ∀ (xs : List α) (s fin : S), lp f xs s = some fin → lpR (R := Empty) (fun s x => (f s x).map Step.go) xs s = some (.inr fin)
  | [], s, fin, h => by
    cases h
    rfl
  | x :: xs, s, fin, h => by
    unfold lp at h
    unfold lpR
    cases e : f s x with
    | none =>
      rw [e] at h
      cases h
    | some s' =>
      rw [e] at h
      exact lp_lpR f xs s' fin h
section
variable {X : Cx} {es : List Slot} {os os1 os2 : Os} {F0 : Hp} {rest : List Stmt} {D : Ends} {N V G W : List Str} {k i vi gi : Nat} {x : Str} {p pos : Pos} {e e2 : Expr} {α : Type}
/-- what a turn of a plain loop is to reach -/
def LgD {S γ : Type} (F0 : Hp) (ES : S → γ → List Slot) (OS : S → γ → Os) (s : S) : Ends where
  nx := fun σ H => ∃ g, At F0 (ES s g) (OS s g) σ H
  ct := fun σ H => ∃ g, At F0 (ES s g) (OS s g) σ H
  bk := fun _ _ => False
  rt := fun _ _ => False
theorem sx_for {S γ : Type} {tg iter : Expr} {body : List Stmt} {xs : List α} {vp : α → VP} {c : Os → Prop} {up : α → List Slot → List Slot} {fpos : Pos} (f : S → α → Option S) (ES : S → γ → List Slot) (OS : S → γ → Os)
    (B : Bd X N W G k) (T : Bt X V) (hg : ∀ x, GX X tg (vp x) (up x)) (s0 : S) (g0 : γ) (fin : S) (hl : lp f xs s0 = some fin) (hi : IX X tg es os iter xs vp c (OS s0 g0)) (h0 : Wk es (ES s0 g0)) (hc : ∀ s g, c (OS s g))
    (hb : ∀ F1, Same F0 F1 → ∀ s g x s', x ∈ xs → f s x = some s' → SX X (up x (ES s g)) (OS s g) F1 body (LgD F1 ES OS s'))
    (hn : ∀ g, SX X (ES fin g) (OS fin g) F0 rest D) (hs : ∀ x, foldedSetIterable iter X.env x = pure x := by intro _; rfl) : SX X es os F0 (.For tg iter body [] fpos :: rest) D := by
  refine sx_forR (R := Empty) (fun s x => (f s x).map Step.go) ES OS (fun _ _ _ => False) B T hg s0 g0 (.inr fin) (lp_lpR f xs s0 fin hl) hi h0 hc (fun F1 h1 s g x t hx ht => ?_) (fun s g e => ?_) (fun r _ _ _ z => z.elim) hs
  · cases e : f s x with
    | none =>
      rw [e] at ht
      cases ht
    | some s' =>
      rw [e] at ht
      cases ht
      intro F σ H a b c pins sh I
      refine wpAny_mono (hb F1 h1 s g x s' hx e F σ H a b c pins sh I) (fun fl s5 z => ?_) fun _ _ z => z
      cases fl with
      | next =>
        obtain ⟨σ5, H5, J5, g5, a5⟩ := z
        exact ⟨σ5, H5, J5, s', g5, rfl, a5⟩
      | cont =>
        obtain ⟨σ5, H5, J5, g5, a5⟩ := z
        exact ⟨σ5, H5, J5, s', g5, rfl, a5⟩
      | brk =>
        obtain ⟨σ5, H5, J5, z⟩ := z
        exact z.elim
      | ret u =>
        obtain ⟨w, σ5, H5, J5, rv, z⟩ := z
        exact z.elim
  · cases e
    exact hn g

/-! ### while -/
theorem sx_while {R S γ : Type} {cd : Expr} {body : List Stmt} {fpos : Pos} (c : S → Option Bool) (f : S → Option (Step R S)) (ES : S → γ → List Slot) (OS : S → γ → Os) (RT : R → L2.V → Hp → Prop)
    (T : Bt X V) (n : Nat) (s0 : S) (g0 : γ) (o : Sum R S) (hl : wh c f n s0 = some o) (h0 : Wk es (ES s0 g0)) (ho : os = OS s0 g0)
    (hc : ∀ s g b, c s = some b → TX X (ES s g) (OS s g) cd b (OS s g))
    (hb : ∀ F1, Same F0 F1 → ∀ s g t, c s = some true → f s = some t → SX X (ES s g) (OS s g) F1 body (LpD F1 ES OS RT t))
    (hn : ∀ s g, o = .inr s → SX X (ES s g) (OS s g) F0 rest D) (hr : ∀ r v H, o = .inl r → RT r v H → D.rt v H) : SX X es os F0 (.While cd body [] fpos :: rest) D := fun F σ H s ow sl => by
  subst ho
  refine wps_cons (ws_of (ps_while T.po pt_u pss_u) ⟨fun m σ' H' => ∃ s' g', wh c f m s' = some o ∧ At F (ES s' g') (OS s' g') σ' H', ⟨n, s0, g0, hl, F, Same.refl F, ow, sl.weak h0⟩, ?_⟩)
  rintro m σ' H' ⟨s', g', hl', F', e', o', sl'⟩
  cases m with
  | zero => cases hl'
  | succ m =>
    unfold wh at hl'
    cases hcs : c s' with
    | none =>
      rw [hcs] at hl'
      cases hl'
    | some b =>
      rw [hcs] at hl'
      refine hc s' g' b hcs F' σ' H' _ o' sl' fun F1 H1 e1 o1 => ?_
      cases b with
      | false =>
        have hl2 : some (.inr s') = some o := hl'
        cases hl2
        rw [if_neg Bool.false_ne_true]
        exact hn s' g' rfl F1 σ' H1 ((s.trans e').trans e1) o1 (sl'.mono e1)
      | true =>
        have hl2 : (f s').bind (Step.aft (wh c f m)) = some o := hl'
        rw [if_pos rfl]
        cases hf : f s' with
        | none =>
          rw [hf] at hl2
          cases hl2
        | some t =>
          rw [hf] at hl2
          have hl3 : Step.aft (wh c f m) t = some o := hl2
          refine ⟨fun σ2 H2 => ∃ s2 g2, t = .go s2 ∧ At F (ES s2 g2) (OS s2 g2) σ2 H2, ?_, ?_⟩
          · rintro σ2 H2 ⟨s2, g2, rfl, a2⟩
            exact ⟨m, Nat.lt_succ_self m, s2, g2, hl3, a2⟩
          · intro pins sh I
            refine wpAny_mono (hb F s s' g' t hcs hf F1 σ' H1 (e'.trans e1) o1 (sl'.mono e1) pins sh I) (fun fl s5 z => ?_) fun _ _ z => z
            cases fl with
            | next => exact z
            | cont => exact z
            | brk =>
              obtain ⟨σ5, H5, J5, s5', g5, et, F5, e5, o5, sl5⟩ := z
              subst et
              cases hl3
              exact ⟨σ5, H5, J5, hn s5' g5 rfl F5 σ5 H5 (s.trans e5) o5 sl5⟩
            | ret u =>
              obtain ⟨w, σ5, H5, J5, rv, r, et, rr⟩ := z
              subst et
              cases hl3
              exact ⟨w, σ5, H5, J5, rv, hr r w H5 rfl rr⟩

/-! ### list comprehensions -/
theorem sl_wipe {F : Hp} {σ : L2.St} (h : Sl F es σ) : ∀ vs : List Nat, (∀ j ∈ vs, ∃ s, es[j]? = some s ∧ s = un) → Sl F es (wipe σ vs)
  | [], _ => h
  | v :: vs, hv => by
    have ih := sl_wipe h vs fun j hj => hv j (List.mem_cons_of_mem _ hj)
    obtain ⟨s, e, eu⟩ := hv v List.mem_cons_self
    subst eu
    have := ih.set (i := v) (s := un) (o := none) fun _ _ => trivial
    have e2 : es.set v un = es := by
      refine List.ext_getElem? fun j => ?_
      by_cases hj : v = j
      · subst hj
        rw [List.getElem?_set_self (List.getElem?_eq_some_iff.mp e).1, e]
      · rw [List.getElem?_set_ne hj]
    rw [e2] at this
    exact this

/-- the contexts in which the block of a comprehension runs -/
def Fam (X : Cx) (scope : Scope) (X' : Cx) : Prop := ∃ s H C cl fp, X' = X.blk s H scope (compEnvC scope cl C X.env) fp
/-- the tests of a comprehension: none, or one -/
inductive PTX (X : Cx) (es : List Slot) (os : Os) : List Expr → Bool → Os → Prop
  | nil : PTX X es os [] true os
  | one {c : Expr} {b : Bool} {os' : Os} : TX X es os c b os' → PTX X es os [c] b os'
def tIfs (X : Cx) (scope : Scope) (ifs : List Expr) : TT := fun σ H Q => match ifs with
  | [] => Q true H
  | [c] => ∀ X', Fam X scope X' → WT X' c σ H Q
  | _ => False
theorem pts_u {scope : Scope} {X' : Cx} (hf : Fam X scope X') : ∀ ifs : List Expr, PTs X' ifs (tIfs X scope ifs)
  | [] => pts_nil
  | [c] => pts_one ⟨fun pins s _ _ _ I h => h X' hf pins s I⟩
  | _ :: _ :: _ => ⟨fun _ _ _ _ _ _ h => h.elim⟩
def tElt (X : Cx) (scope : Scope) (e : Expr) : TE := fun σ H Q => ∀ X', Fam X scope X' → WE X' e σ H Q
theorem pe_elt {scope : Scope} {X' : Cx} (hf : Fam X scope X') : PE X' e (tElt X scope e) := ⟨fun pins s _ _ _ I h => h X' hf pins s I⟩
/-- the own names of a comprehension may be stored -/
def ownB (scope sc : Scope) (x : Str) : Bool := match (relS scope sc).names.lookup x with
  | some .local => true
  | some .cell => scope.names.lookup x == some .cell
  | _ => false
theorem pg_own {scope : Scope} {X' : Cx} {j : Nat} {y : Str} {tpos : Pos} (hf : Fam X scope X') (B : Bd X N W G k) (hj : N[j]? = some y) (ho : ownB scope X.env.scope y = true) : PG X' (.Name y tpos) (gName j) := by
  obtain ⟨s, H, C, cl, fp, rfl⟩ := hf
  unfold ownB at ho
  have e : (X.blk s H scope (compEnvC scope cl C X.env) fp).env.scope = relS scope X.env.scope := rfl
  split at ho
  · rename_i hl
    exact pg_name (B.hN ▸ B.nd) (B.hN ▸ hj) (.inl (by rw [e]; exact hl)) (.inr (by rw [e]; exact hl))
  · rename_i hl
    exact pg_name (B.hN ▸ B.nd) (B.hN ▸ hj) (.inr (by rw [e]; exact hl)) (.inl ho)
  · cases ho
/-- the state of a comprehension: the list so far, what is still to come -/
def LcS {S β : Type} (f : S → α → Option (Option β × S)) (OS : S → Os → Os) (enc : β → PyData) (xs : List α) (ys : List β) (sf : S) (os0 : Os) (Dl : Addr) (F1 : Hp) (i : Nat) (H : Hp) : Prop :=
  ∃ s d r F, lcS f (xs.drop i) s = some (r, sf) ∧ ys = d ++ r ∧ d.length ≤ i ∧ Same F1 F ∧ Ow F (OS s ((Dl, ol (d.map enc)) :: os0)) H
theorem lc_elt {S β : Type} {elt : Expr} {scope : Scope} {xs : List α} {enc : β → PyData} {f : S → α → Option (Option β × S)} {OS : S → Os → Os} {ys : List β} {sf : S} {os0 : Os} {Dl : Addr} {F1 F4 : Hp} {i : Nat} {up : List Slot} {t : Option β × S} {d r : List β} {σ : L2.St} {H4 : Hp} {os1 : Os}
    (hperm : ∀ s q tl, (OS s (q :: tl)).Perm (q :: OS s tl)) (hi : i < xs.length) (hz : xs.length < sizeLine) (hd : d.length ≤ i) (hr : ((lcS f (xs.drop (i + 1)) t.2).bind fun u => some (t.1.toList ++ u.1, u.2)) = some (r, sf)) (hy : ys = d ++ r)
    (e4 : Same F1 F4) (o4 : Ow F4 os1 H4) (sl : Sl F4 up σ) (key : ∀ X', Fam X scope X' → ∃ y, t.1 = some y ∧ EX X' up os1 elt (dat (enc y)) (OS t.2 ((Dl, ol (d.map enc)) :: os0))) :
    tElt X scope elt σ H4 fun y H5 => ∃ acc, H5 Dl = some (.lst acc) ∧ acc.length < sizeLine ∧ LcS f OS enc xs ys sf os0 Dl F1 (i + 1) (upd H5 Dl (.lst (acc ++ [y]))) := by
  intro X' hX'
  obtain ⟨y, hy1, he⟩ := key X' hX'
  refine he F4 σ H4 _ o4 sl fun F5 H5 v e5 o5 c5 => ?_
  have o6 := o5.perm (hperm t.2 _ os0)
  obtain ⟨_, vs, hu, hv⟩ := o6.atL
  have hl := dqall_len hv
  rw [List.length_map] at hl
  refine ⟨vs, hu, by omega, ?_⟩
  cases hu2 : lcS f (xs.drop (i + 1)) t.2 with
  | none =>
    rw [hu2] at hr
    cases hr
  | some w =>
    rw [hu2, hy1] at hr
    have hr2 : (y :: w.1, w.2) = (r, sf) := Option.some.inj hr
    obtain ⟨rfl, rfl⟩ := Prod.mk.inj hr2
    refine ⟨t.2, d ++ [y], w.1, F5, by rw [hu2], by rw [hy, List.append_assoc]; rfl, by rw [List.length_append, List.length_singleton]; omega, e4.trans e5, ?_⟩
    refine (o6.putL (ds' := (d ++ [y]).map enc) ?_).perm (hperm t.2 _ os0).symm
    rw [List.map_append]
    exact dqall_app hv (.cons c5.now .nil)
theorem lc_read {S β : Type} {elt iter tg : Expr} {ifs : List Expr} {scope : Scope} {vs : List Nat} {xs : List α} {vp : α → VP} {c : Os → Prop} {g : TG} {up : α → List Slot → List Slot} {enc : β → PyData} {f : S → α → Option (Option β × S)} {OS : S → Os → Os}
    {s0 : S} {os0 : Os} {ys : List β} {sf : S} (hv : ∀ j ∈ vs, es[j]? = some un) (hid : ∀ σ : L2.St, wipe (wipe σ vs) vs = wipe σ vs)
    (hg : ∀ x F σ H v Q os2, Sl F es σ → wipe σ vs = σ → Ow F os2 H → Cl (vp x) F v → (∀ σ', Sl F (up x es) σ' → wipe σ' vs = σ → Q σ' H) → g v σ H Q)
    (hif : ifs.length ≤ 1) (hl : lcS f xs s0 = some (ys, sf)) (hz : xs.length < sizeLine) (hi : IX X tg es os iter xs vp c (OS s0 os0)) (hc : ∀ s tl, c (OS s tl)) (hperm : ∀ s q tl, (OS s (q :: tl)).Perm (q :: OS s tl))
    (hb : ∀ s x t tl, x ∈ xs → f s x = some t → ∃ b os1, ∀ X', Fam X scope X' → PTX X' (up x es) (OS s tl) ifs b os1 ∧ (b = true → ∃ y, t.1 = some y ∧ EX X' (up x es) os1 elt (dat (enc y)) (OS t.2 tl)) ∧ (b = false → t.1 = none ∧ os1 = OS t.2 tl))
    {F σ H Q} (ow : Ow F os H) (sl : Sl F es σ) (q : ∀ F' H' p, Same F F' → Ow F' ((p, ol (ys.map enc)) :: OS sf os0) H' → Q (.ref p) H') : tLc (WI X tg iter) g (tIfs X scope ifs) (tElt X scope elt) vs σ H Q := by
  refine hi F σ H _ ow sl fun F1 H1 J e1 o1 good Dl hD => ?_
  refine ⟨fun i m H => m = xs.length - i ∧ i ≤ xs.length ∧ LcS f OS enc xs ys sf os0 Dl F1 i H, ⟨_, rfl, Nat.zero_le _, s0, [], ys, F1, hl, rfl, Nat.le_refl _, Same.refl F1, ?_⟩, ?_⟩
  · exact (o1.new hD fun G g => ⟨[], rfl, .nil⟩).perm (hperm s0 _ os0).symm
  · rintro i m H' ⟨rfl, hi, s, d, r, F', hr, hy, hdl, e', o'⟩
    obtain ⟨stop, go⟩ := good F' H' _ i e' o' (hc s _)
    cases hx : xs[i]? with
    | none =>
      have hi2 : xs.length ≤ i := List.getElem?_eq_none_iff.mp hx
      rw [List.drop_eq_nil_of_le hi2] at hr
      cases hr
      refine .inl ⟨stop hi2, q F' H' Dl (e1.trans e') ?_⟩
      rw [hy, List.append_nil]
      exact o'.perm (hperm _ _ os0)
    | some x =>
      obtain ⟨hgo, hyl⟩ := go x hx
      have hlt : i < xs.length := (List.getElem?_eq_some_iff.mp hx).1
      rw [drop_cons' hx] at hr
      unfold lcS at hr
      cases hf : f s x with
      | none =>
        rw [hf] at hr
        cases hr
      | some t =>
        rw [hf] at hr
        have hr : ((lcS f (xs.drop (i + 1)) t.2).bind fun u => some (t.1.toList ++ u.1, u.2)) = some (r, sf) := hr
        refine .inr ⟨hgo, LcS f OS enc xs ys sf os0 Dl F1 (i + 1), fun H2 hH2 => ⟨_, by omega, rfl, by omega, hH2⟩, fun v H3 yv => ?_⟩
        obtain ⟨F3, e3, o3, c3⟩ := hyl v H3 yv
        have slw : Sl F3 es (wipe σ vs) := sl_wipe (sl.mono ((e1.trans e').trans e3)) vs fun j hj => ⟨un, hv j hj, rfl⟩
        refine hg x F3 (wipe σ vs) H3 v _ _ slw (hid σ) o3 c3 fun σ' sl' hw => ⟨hw, ?_⟩
        obtain ⟨b, os1, key⟩ := hb s x t ((Dl, ol (d.map enc)) :: os0) (List.mem_of_getElem? hx) hf
        have e4 := e'.trans e3
        match ifs, hif, key with
        | [], _, key =>
          refine lc_elt hperm hlt hz hdl hr hy e4 o3 sl' fun X' hX' => ?_
          obtain ⟨k1, k2, _⟩ := key X' hX'
          cases k1
          exact k2 rfl
        | [cd], _, key =>
          intro X' hX'
          obtain ⟨k1, k2, k3⟩ := key X' hX'
          cases k1 with
          | one ht =>
            refine ht F3 σ' H3 _ o3 sl' fun F4 H4 e5 o4 => ?_
            cases b with
            | true =>
              rw [if_pos rfl]
              exact lc_elt hperm hlt hz hdl hr hy (e4.trans e5) o4 (sl'.mono e5) fun X'' hX'' => (key X'' hX'').2.1 rfl
            | false =>
              rw [if_neg Bool.false_ne_true]
              obtain ⟨k4, rfl⟩ := k3 rfl
              cases hu2 : lcS f (xs.drop (i + 1)) t.2 with
              | none =>
                rw [hu2] at hr
                cases hr
              | some w =>
                rw [hu2, k4] at hr
                have hr2 : (w.1, w.2) = (r, sf) := Option.some.inj hr
                obtain ⟨rfl, rfl⟩ := Prod.mk.inj hr2
                exact ⟨t.2, d, w.1, F4, by rw [hu2], hy, by omega, e4.trans e5, o4⟩
        | _ :: _ :: _, hif, key =>
          rw [List.length_cons, List.length_cons] at hif
          omega

/-- all that a comprehension asks -/
structure LcOk (X : Cx) (es : List Slot) (os : Os) {α S β : Type} (tg iter elt : Expr) (ifs : List Expr) (scope : Scope) (own : List (Str × Nat)) (xs : List α) (vp : α → VP) (c : Os → Prop) (g : TG) (up : α → List Slot → List Slot) (enc : β → PyData)
    (f : S → α → Option (Option β × S)) (OS : S → Os → Os) (s0 : S) (os0 : Os) (ys : List β) (sf : S) : Prop where
  calm : X.calm = true
  nd : X.N.Nodup
  ok : BlkOk X.N X.env.scope scope own
  pg : ∀ X', Fam X scope X' → PG X' tg g
  hv : ∀ j ∈ own.map (·.2), es[j]? = some un
  hid : ∀ σ : L2.St, wipe (wipe σ (own.map (·.2))) (own.map (·.2)) = wipe σ (own.map (·.2))
  hg : ∀ x F σ H v Q os2, Sl F es σ → wipe σ (own.map (·.2)) = σ → Ow F os2 H → Cl (vp x) F v → (∀ σ', Sl F (up x es) σ' → wipe σ' (own.map (·.2)) = σ → Q σ' H) → g v σ H Q
  hif : ifs.length ≤ 1
  hl : lcS f xs s0 = some (ys, sf)
  hz : xs.length < sizeLine
  hi : IX X tg es os iter xs vp c (OS s0 os0)
  hc : ∀ s tl, c (OS s tl)
  hperm : ∀ s q tl, (OS s (q :: tl)).Perm (q :: OS s tl)
  hb : ∀ s x t tl, x ∈ xs → f s x = some t → ∃ b os1, ∀ X', Fam X scope X' → PTX X' (up x es) (OS s tl) ifs b os1 ∧ (b = true → ∃ y, t.1 = some y ∧ EX X' (up x es) os1 elt (dat (enc y)) (OS t.2 tl)) ∧ (b = false → t.1 = none ∧ os1 = OS t.2 tl)
section
variable {α S β : Type} {tg iter elt : Expr} {ifs : List Expr} {scope : Scope} {own : List (Str × Nat)} {xs : List α} {vp : α → VP} {c : Os → Prop} {g : TG} {up : α → List Slot → List Slot} {enc : β → PyData}
    {f : S → α → Option (Option β × S)} {OS : S → Os → Os} {s0 : S} {os0 : Os} {ys : List β} {sf : S}
theorem en_lc (h : LcOk X es os tg iter elt ifs scope own xs vp c g up enc f OS s0 os0 ys sf) (hs : ∀ x, foldedSetIterable iter X.env x = pure x := by intro _; rfl) : EN X es os (.ListComp elt [⟨tg, iter, ifs, 0⟩] scope pos) (ol (ys.map enc)) (OS sf os0) := fun F σ H Q ow sl q =>
  we_of (pe_lc h.calm h.nd pi_u h.ok (fun s H C cl fp => h.pg _ ⟨s, H, C, cl, fp, rfl⟩) (fun s H C cl fp => pts_u ⟨s, H, C, cl, fp, rfl⟩ ifs) (fun s H C cl fp => pe_elt ⟨s, H, C, cl, fp, rfl⟩) hs)
    (lc_read h.hv h.hid h.hg h.hif h.hl h.hz h.hi h.hc h.hperm h.hb ow sl q)
theorem sx_asgLc {y : Str} {py spos : Pos} (B : Bd X N W G k) (T : Bt X V) (hi : N[i]? = some y) (hyl : X.env.scope.names.lookup y = some .local) (h : LcOk X es os tg iter elt ifs scope own xs vp c g up enc f OS s0 os0 ys sf)
    (hsw : swapsWith (.ListComp elt [⟨tg, iter, ifs, 0⟩] scope pos) (some (.Name y py)) spos.line X.env = pure true)
    (hn : ∀ p, SX X (es.set i (sl (Z.own p))) ((p, ol (ys.map enc)) :: OS sf os0) F0 rest D) (hs : ∀ x, foldedSetIterable iter X.env x = pure x := by intro _; rfl) : SX X es os F0 (.Assign [.Name y py] (.ListComp elt [⟨tg, iter, ifs, 0⟩] scope pos) spos :: rest) D := fun F σ H s ow sl =>
  wps_cons (ws_of (ps_setLc h.calm h.nd (B.hN ▸ hi) hyl hsw pi_u h.ok (fun s H C cl fp => h.pg _ ⟨s, H, C, cl, fp, rfl⟩) (fun s H C cl fp => pts_u ⟨s, H, C, cl, fp, rfl⟩ ifs) (fun s H C cl fp => pe_elt ⟨s, H, C, cl, fp, rfl⟩) hs)
    (lc_read (Q := fun v H1 => gName i v σ H1 (WPs X rest D)) h.hv h.hid h.hg h.hif h.hl h.hz h.hi h.hc h.hperm h.hb ow sl fun F1 H1 p e1 o1 => hn p F1 _ H1 (s.trans e1) o1 ((sl.mono e1).put cl_own)))
end
/-- the target is one name -/
theorem lc_gname {α : Type} {vp : α → VP} {j : Nat} (x : α) (F : Hp) (σ : L2.St) (H : Hp) (v : L2.V) (Q : L2.St → Hp → Prop) (os2 : Os) (sl : Sl F es σ) (hw : wipe σ [j] = σ) (ow : Ow F os2 H) (c : Cl (vp x) F v) (q : ∀ σ', Sl F (es.set j (Z.sl (vp x))) σ' → wipe σ' [j] = σ → Q σ' H) : gName j v σ H Q := by
  refine q _ (sl.put c) ?_
  show (σ.set j (some v)).set j none = σ
  rw [List.set_set]
  exact hw
theorem lc_id1 {j : Nat} (σ : L2.St) : wipe (wipe σ [j]) [j] = wipe σ [j] := by
  show (σ.set j none).set j none = σ.set j none
  rw [List.set_set]
/-- a pair of names -/
theorem lc_id2 {i j : Nat} (hij : i ≠ j) (σ : L2.St) : wipe (wipe σ [i, j]) [i, j] = wipe σ [i, j] := by
  show (((σ.set j none).set i none).set j none).set i none = (σ.set j none).set i none
  rw [List.set_comm _ _ hij, List.set_set, List.set_set]
theorem lc_gpair {α : Type} {K : PySem.W.Frag} {d1 d2 : α → PyData} {i j : Nat} (hij : i ≠ j) (x : α) (F : Hp) (σ : L2.St) (H : Hp) (v : L2.V) (Q : L2.St → Hp → Prop) (os2 : Os) (sl : Sl F es σ) (hw : wipe σ [i, j] = σ) (ow : Ow F os2 H) (c : Cl (dat (.tuple [d1 x, d2 x])) F v)
    (q : ∀ σ', Sl F ((es.set i (Z.sl (dat (d1 x)))).set j (Z.sl (dat (d2 x)))) σ' → wipe σ' [i, j] = σ → Q σ' H) : gTup K 2 (gCons (gName i) (gCons (gName j) gNil)) v σ H Q := by
  obtain ⟨p, vs, rfl, hp, hv⟩ := rdt_dat F v c
  cases hv with
  | cons k1 r =>
    cases r with
    | cons k2 r =>
      cases r
      refine ⟨p, _, rfl, .of (ow.ex _ _ hp), rfl, _, _, rfl, _, _, rfl, rfl, ?_⟩
      refine q _ ((sl.put (cl_dat k1)).put (cl_dat k2)) ?_
      have hw2 : (σ.set j none).set i none = σ := hw
      show (((σ.set i _).set j _).set j none).set i none = σ
      rw [List.set_set, List.set_comm _ _ hij, List.set_set, List.set_comm _ _ (Ne.symm hij)]
      rw [List.set_comm _ _ hij]
      exact hw2
theorem pg_own2 {scope : Scope} {X' : Cx} {i j : Nat} {y z : Str} {p1 p2 tpos : Pos} {kk : Nat} (hf : Fam X scope X') (B : Bd X N W G k) (hi : N[i]? = some y) (hj : N[j]? = some z) (ho : ownB scope X.env.scope y = true) (ho2 : ownB scope X.env.scope z = true) :
    PG X' (.Tuple [.Name y p1, .Name z p2] kk tpos) (gTup X'.K 2 (gCons (gName i) (gCons (gName j) gNil))) := by
  have hc : X'.calm = true := by
    obtain ⟨s, H, C, cl, fp, rfl⟩ := hf
    exact B.calm
  exact pg_tup hc (pgs_cons (pg_own hf B hi ho) (pgs_cons (pg_own hf B hj ho2) pgs_nil))
/-- a body's facts hold in a comprehension's block -/
theorem Bd.fam {scope : Scope} {X' : Cx} {W' G' : List Str} (B : Bd X N W G k) (hf : Fam X scope X') (h : namB (relS scope X.env.scope) W' G' = true) : Bd X' N W' G' k := by
  obtain ⟨s, H, C, cl, fp, rfl⟩ := hf
  exact ⟨B.hN, B.nd, B.calm, B.gd, B.room, nam_vis h, nam_gl h⟩
end
end Z
/-! Z, part H: from bodies to promises, and the law's own call. -/
namespace Z
open PySem PySem.Spec PyProof.Rows L2

section
variable {P : Program} {w : World} {K : PySem.W.Frag} {mg : Str → Option Value} {base : Heap}
theorem pass_nox {N : List Str} {qual : Str} {sc : Scope} {f : Addr} {cdv : Value} {A : Around} {outer : List Env} {s : Shared} {H : Hp} {E : XK} {sts : List Stmt} {D : Ends} {σ : L2.St} {H' : Hp}
    (h : WPs (cxOf CX0 P w K mg base N qual sc f cdv A outer s H E).nox sts D σ H') : WPs (cxOf CX0 P w K mg base N qual sc f cdv A outer s H E) sts D σ H' :=
  wps_of (PSs.nox (pss_u (X := (cxOf CX0 P w K mg base N qual sc f cdv A outer s H E).nox))) h
theorem cla_start {F : Hp} : ∀ {φs : List VP} {vs : List L2.V} (n : Nat), ClA φs F vs → Sl F (φs.map sl ++ List.replicate n un) (vs.map some ++ List.replicate n none)
  | [], _, n, h => by
    have e : _ = [] := h
    subst e
    refine ⟨by simp, fun i t q => ?_⟩
    have q' : (List.replicate n un)[i]? = some t := q
    rw [List.getElem?_replicate] at q'
    split at q'
    · rename_i hi
      cases q'
      refine ⟨none, ?_, fun _ _ => trivial⟩
      show (List.replicate n none)[i]? = some none
      rw [List.getElem?_replicate, if_pos hi]
    · cases q'
  | φ :: φs, _, n, ⟨v, r, e, h1, h2⟩ => by
    subst e
    have ih := cla_start n h2
    refine ⟨by simpa using ih.len, fun i t q => ?_⟩
    cases i with
    | zero =>
      have q' : some (sl φ) = some t := q
      cases q'
      exact ⟨some v, rfl, fun G g => ⟨v, rfl, h1 G g⟩⟩
    | succ i => exact ih.get i t q
/-- how a body hands back what a promise tells -/
structure RetZ (F0 : Hp) (os : Os) (φ : VP) (D : Ends) : Prop where
  rt : ∀ F H v, Same F0 F → Ow F os H → Cl φ F v → D.rt v H
  nx : ∀ σ H, D.rt .non H → D.nx σ H
structure RetN (F0 : Hp) (os : Os) (n : Ent) (D : Ends) : Prop where
  rt : ∀ F H p, Same F0 F → Ow F ((p, n) :: os) H → D.rt (.ref p) H
variable {α β : Type} {ps : α → List VP} {pre : α → Os} {m : α → Option β} {res : α → β → VP} {post : α → β → Os} {n : α → β → Ent} {x : Str} {st : Stmt} {f : Addr} {fd : FuncData} {N V Gs pn : List Str} {k nl : Nat}
theorem cal_Z (Fn : Fun K x x st f fd) (S : FnScope N pn (defScope st)) (nam : namB (defScope st) V Gs = true) (loc : V.all (locB (defScope st)) = true) (hmg : mg x = some (.ref f)) (hb : Binds K fd pn []) (hps : ∀ a, (ps a).length = pn.length) (hN : N.length = pn.length + nl)
    (body : ∀ (f : Addr) (cdv : Value) (A : Around) (outer : List Env) (s : Shared) (H : Hp) (E : XK) (a : α) (b : β) (F0 : Hp) (os : Os) (D : Ends), Bd (cxOf CX0 P w K mg base N x (defScope st) f cdv A outer s H E).nox N V Gs k → Bt (cxOf CX0 P w K mg base N x (defScope st) f cdv A outer s H E).nox V →
      m a = some b → RetZ F0 (post a b ++ os) (res a b) D → SX (cxOf CX0 P w K mg base N x (defScope st) f cdv A outer s H E).nox ((ps a).map sl ++ List.replicate nl un) (pre a ++ os) F0 (defBody st) D) : Cal P w K mg base (k + 1) x st pn (spZ ps pre m res post) := by
  refine ⟨f, fd, Fn, fun_ok Fn S (spZ_len hps) ?_, hmg, hb⟩
  rintro cdv A outer s H vs Q E hg hr ⟨a, b, F, os, c, ow, hm, q⟩
  refine pass_nox ?_
  have hl := (cla_len c).trans (hps a)
  have hst : L2.start N vs = vs.map some ++ List.replicate nl none := by
    unfold L2.start
    rw [hl, hN, Nat.add_sub_cancel_left]
  rw [hst]
  refine body f cdv A outer s H E a b F os _ ⟨rfl, S.nd, rfl, hg, hr, nam_vis nam, nam_gl nam⟩ ⟨fun _ => rfl, fun y hy => loc_of (List.all_eq_true.mp loc y hy), PassesOwn.never⟩ hm ⟨fun F' H' v e o c => q F' H' v e o c, fun _ _ z => z⟩ F _ H (Same.refl F) ow (cla_start nl c)
theorem cal_N (Fn : Fun K x x st f fd) (S : FnScope N pn (defScope st)) (nam : namB (defScope st) V Gs = true) (loc : V.all (locB (defScope st)) = true) (hmg : mg x = some (.ref f)) (hb : Binds K fd pn []) (hps : ∀ a, (ps a).length = pn.length) (hN : N.length = pn.length + nl)
    (body : ∀ (f : Addr) (cdv : Value) (A : Around) (outer : List Env) (s : Shared) (H : Hp) (E : XK) (a : α) (b : β) (F0 : Hp) (os : Os) (D : Ends), Bd (cxOf CX0 P w K mg base N x (defScope st) f cdv A outer s H E).nox N V Gs k → Bt (cxOf CX0 P w K mg base N x (defScope st) f cdv A outer s H E).nox V →
      m a = some b → RetN F0 (post a b ++ os) (n a b) D → SX (cxOf CX0 P w K mg base N x (defScope st) f cdv A outer s H E).nox ((ps a).map sl ++ List.replicate nl un) (pre a ++ os) F0 (defBody st) D) : Cal P w K mg base (k + 1) x st pn (spN ps pre m n post) := by
  refine ⟨f, fd, Fn, fun_ok Fn S (spN_len hps) ?_, hmg, hb⟩
  rintro cdv A outer s H vs Q E hg hr ⟨a, b, F, os, c, ow, hm, q⟩
  refine pass_nox ?_
  have hl := (cla_len c).trans (hps a)
  have hst : L2.start N vs = vs.map some ++ List.replicate nl none := by
    unfold L2.start
    rw [hl, hN, Nat.add_sub_cancel_left]
  rw [hst]
  refine body f cdv A outer s H E a b F os _ ⟨rfl, S.nd, rfl, hg, hr, nam_vis nam, nam_gl nam⟩ ⟨fun _ => rfl, fun y hy => loc_of (List.all_eq_true.mp loc y hy), PassesOwn.never⟩ hm ⟨fun F' H' p e o => q F' H' p e o⟩ F _ H (Same.refl F) ow (cla_start nl c)
end

/-! ### the law -/
/-- the law's call keeps a promise -/
def LawSp (K : PySem.W.Frag) (m : List Int → Option Bool) : Sp := spZ (fun ns => [scr K ns]) (fun _ => []) m (fun _ b => dat (.bool b)) (fun _ _ => [])
theorem law_run {P : Program} {w : World} {K : PySem.W.Frag} {mg mb : Str → Option Value} {k : Nat} {fa a : Addr} {fd : FuncData} {x : Str} {sp : Sp} {s1 : Shared} {vs : List Value} {ns : List Int}
    (KX : K.In s1.heap) (hns : s1.heap.Ns mainGlobals mg) (hb : s1.heap.Ns builtinsNs mb) (hbb : ∀ x : Str, x ≠ "__name__" → mb x = bootBuiltins x) (hlim : s1.heap.NoLimit) (hg : s1.gens = #[])
    (ha : s1.heap.get? a = some { cls := .type "list", data := .seq vs.toArray }) (hi : IntsAre vs ns) (hl : ns.length ≤ sizeLine) (hr : Room k callerA)
    (F : ∀ base : Heap, K.In base → base.Ns mainGlobals mg → FnG P w K mg base CX0 k fa fd [x] sp) (hbind : ∀ (s : Shared) (u : Value), BindsTo s fd ⟨[u], []⟩ [(x, u)])
    (hsp : ∀ H : Hp, Only H → SqL K H a (ns.map V.int) → sp [.ref a] H (fun v _ => v = .bl true) E0) :
    codeAny (model P w) callerA (.call (.ref fa) ⟨[.ref a], []⟩) (fun r s' => r = .ok (.ret (.bool true)) ∧ OldK s1.heap s'.heap ∧ s'.os = s1.os ∧ AllBare s'.gens) s1 := by
  have rv := vals_ints hi
  have step : ∀ H : Hp, Only H → SqL K H a (ns.map V.int) → HOk P w H s1.heap → (∀ b, H b ≠ none → b = a) → (H a ≠ none → K.lookup a = none) →
      codeAny (model P w) callerA (.call (.ref fa) ⟨[.ref a], []⟩) (fun r s' => r = .ok (.ret (.bool true)) ∧ OldK s1.heap s'.heap ∧ s'.os = s1.os ∧ AllBare s'.gens) s1 := by
    intro H only seq hok single lone
    have nsH : ∀ {b : Addr} {m : Str → Option Value}, s1.heap.Ns b m → (hidT s1.heap H).Ns b m := by
      rintro b m ⟨o, es, ep, e, d, r⟩
      refine ⟨o, es, ep, hidT_get e ?_, d, r⟩
      cases q : H b with
      | none => rfl
      | some u =>
        obtain rfl : b = a := single b (by rw [q]; simp)
        rw [ha] at e
        cases e
        have d' : Data.seq vs.toArray _ = Data.dict es ep := d
        cases d'
    have kin : K.In (hidT s1.heap H) := by
      intro b o e
      refine hidT_get (KX b o e) ?_
      cases q : H b with
      | none => rfl
      | some u =>
        obtain rfl : b = a := single b (by rw [q]; simp)
        have := lone (by rw [q]; simp)
        rw [this] at e
        cases e
    obtain ⟨mc, lim1, lim2⟩ := hlim
    have e0 : Env0 P w K mg (hidT s1.heap H) callerA [] s1 H :=
      { frames := rfl
        mod := ⟨kin, nsH hns, ⟨mb, nsH hb, hbb⟩, ⟨mc, nsH lim1, lim2⟩⟩
        bs := fun b o e => of_hidT e
        bsz := Nat.le_of_eq (hidT_size _ _)
        funs := trivial
        frf := fun b hb => nomatch (show b ∈ ([] : List Addr) from hb)
        hok := hok
        bare := .of_eq hg }
    refine codeAny_mono ((F _ kin (nsH hns)).run callerA [] s1 H ⟨[.ref a], []⟩ [.ref a] [.ref a] _ _ rfl hr e0 (hbind s1 (.ref a)) (.cons rfl .nil) (hsp H only seq)) ?_
    intro r s' h
    cases r with
    | error e => exact h.elim
    | ok fl =>
      cases fl with
      | next => exact h.elim
      | brk => exact h.elim
      | cont => exact h.elim
      | ret u =>
        obtain ⟨v, H', os, bare, un, hok', r', q⟩ := h
        obtain rfl : v = .bl true := q
        obtain rfl : u = Value.bool true := r'
        refine ⟨rfl, OldK.of_keep ?_, os, bare⟩
        intro b o e
        cases q : H b with
        | none => exact un.keep b o e q (fun z => nomatch (show b ∈ ([] : List Addr) from z)) (fun z => nomatch z)
        | some u =>
          rcases only b with z | ⟨ob, xs, z⟩
          · rw [q] at z
            cases z
          · obtain ⟨e1, _⟩ := hok b _ z
            obtain ⟨e2, _⟩ := hok' b _ (un.frzs b ob _ z)
            rw [e] at e1
            cases e1
            exact e2
  cases hk : K.lookup a with
  | some o =>
    have e := KX a o hk
    rw [ha] at e
    cases e
    exact step (fun _ => none) (fun _ => .inl rfl) (.inr ⟨_, vs.toArray, _, hk, rfl, rfl, rfl, by rw [List.size_toArray, hi.length]; exact hl, by simpa using rv⟩) (fun b u z => nomatch z) (fun b z => absurd rfl z) fun z => absurd rfl z
  | none =>
    let Hs : Hp := fun b => if b = a then some (.frz { cls := .type "list", data := .seq vs.toArray } (.lst (ns.map V.int))) else none
    have at_ : Hs a = some (.frz { cls := .type "list", data := .seq vs.toArray } (.lst (ns.map V.int))) := if_pos rfl
    have off : ∀ b, b ≠ a → Hs b = none := fun b h => if_neg h
    refine step Hs (fun b => ?_) (.inl (.inr ⟨_, at_⟩)) (fun b u z => ?_) (fun b z => Classical.byContradiction fun h => z (off b h)) fun _ => hk
    · by_cases h : b = a
      · exact .inr ⟨_, _, h ▸ at_⟩
      · exact .inl (off b h)
    · by_cases h : b = a
      · subst h
        rw [at_] at z
        cases z
        exact ⟨ha, by rw [List.length_map]; exact hl, vs, _, rv, ha⟩
      · rw [off b h] at z
        cases z
theorem law_sp {K : PySem.W.Frag} {m : List Int → Option Bool} {H : Hp} {a : Addr} {ns : List Int} (hm : m ns = some true) (hS : SqL K H a (ns.map V.int)) : LawSp K m [.ref a] H (fun v _ => v = .bl true) E0 :=
  ⟨ns, true, H, [], ⟨_, [], rfl, fun G g => ⟨a, rfl, g.seq hS⟩, rfl⟩, ⟨Same.refl H, [], .nil, (fun _ z => nomatch z), .nil⟩, hm, fun F' H' v _ _ c => clv_bool c⟩
/-- the goal that k_head leaves -/
theorem walk_ofG {l : PySem.W.OpenLaw} {n k : Nat} {q : Program} {loose : List Str} {XP : (Str → Option Value) → Heap → Prop} {YP : World → Heap → Prop} {d : DefRec} {K : Params → PySem.W.Frag} {m : List Int → Option Bool} {x : Str}
    (hn : l.most = some n) (hn2 : n ≤ sizeLine) (hdf : d.params.defaults = []) (hr : Room k callerA) (hY : ∀ (w : World) (h : Heap), YP w h → (K w.params).In h)
    (F : ∀ (w : World) (mg : Str → Option Value) (fa : Addr) (h : Heap), (K w.params).In h → h.Ns mainGlobals mg → mg d.name = some (.ref fa) →
      ∃ fd : FuncData, (∀ (s : Shared) (u : Value), BindsTo s fd ⟨[u], []⟩ [(x, u)]) ∧ ∀ base : Heap, (K w.params).In base → base.Ns mainGlobals mg → FnG l.prog w (K w.params) mg base CX0 k fa fd [x] (LawSp (K w.params) m))
    (hm : ∀ ns : List Int, ns.length ≤ n → m ns = some true) : PySem.W.WalkO q loose XP YP l.row.toRowW d [] (fun f vs => PySem.call f vs) := by
  refine Att.attach_call hn hdf ?_
  intro w s0 s1 mg mb fa o pm cd doc a vs ns G Y ho hd hcd hmg hobj hints hlen hg
  have KX := hY w _ Y
  obtain ⟨fd, hb, hF⟩ := F w mg fa _ KX G.T.g hmg
  exact law_run KX G.T.g G.T.b G.T.builtins G.T.nolimit hg hobj hints (Nat.le_trans hlen hn2) hr hF hb fun H _ hS => law_sp (hm ns hlen) hS
end Z
/-! Z, part I: small words for printed proofs. -/
namespace Z
open PySem PySem.Spec PyProof.Rows L2

theorem bnd {α β : Type} {m : Option α} {k : α → Option β} {b : β} (h : m.bind k = some b) : ∃ a, m = some a ∧ k a = some b := by
  cases m with
  | none => cases h
  | some a => exact ⟨a, rfl, h⟩
theorem ifT {α : Type} {c : Bool} {a b : Option α} {r : α} (h : (if c = true then a else b) = some r) (hc : c = true) : a = some r := by
  rw [if_pos hc] at h
  exact h
theorem ifF {α : Type} {c : Bool} {a b : Option α} {r : α} (h : (if c = true then a else b) = some r) (hc : c = false) : b = some r := by
  rw [if_neg (by rw [hc]; exact Bool.false_ne_true)] at h
  exact h
theorem som {α : Type} {a b : α} (h : some a = some b) : a = b := Option.some.inj h
/-- the ends of range(..) in bounds -/
def rngO (a b : Int) : Option (List Int) := if -(2 ^ 62) ≤ a ∧ a < 2 ^ 62 ∧ -(2 ^ 62) ≤ b ∧ b < 2 ^ 62 then some (range' a b) else none
/-- a list may grow by so many -/
def appO {α : Type} (xs : List α) (x : α) : Option (List α) := if xs.length < sizeLine then some (xs ++ [x]) else none
def popO {α : Type} (xs : List α) : Option (α × List α) := match xs.getLast? with
  | some x => some (x, xs.dropLast)
  | none => none
def setO {α : Type} (xs : List α) (i : Int) (x : α) : Option (List α) := (ixN xs.length i).bind fun m => some (xs.set m x)
abbrev eL {α : Type} (e : α → PyData) : List α → PyData := fun xs => .list (xs.map e)
abbrev eT {α : Type} (e : α → PyData) : List α → PyData := fun xs => .tuple (xs.map e)
abbrev eP {α β : Type} (e : α → PyData) (f : β → PyData) : α × β → PyData := fun x => .tuple [e x.1, f x.2]
structure Tri (α β γ : Type) where
  a : α
  b : β
  c : γ
  deriving DecidableEq
abbrev eP3 {α β γ : Type} (e : α → PyData) (f : β → PyData) (g : γ → PyData) : Tri α β γ → PyData := fun x => .tuple [e x.a, f x.b, g x.c]
abbrev eN : Unit → PyData := fun _ => .none
abbrev eO {α : Type} (e : α → PyData) : Option α → PyData := fun
  | none => .none
  | some a => e a

section
variable {X : Cx} {es es' : List Slot} {os os1 os2 : Os} {F0 : Hp} {rest : List Stmt} {D : Ends} {N V G W : List Str} {k i vi gi : Nat} {x : Str} {p pos : Pos} {e e2 a b : Expr} {φ : VP} {n : Ent} {α : Type}
theorem At.weak {σ : L2.St} {H : Hp} (h : At F0 es os σ H) (w : Wk es es') : At F0 es' os σ H := let ⟨F, s, o, l⟩ := h; ⟨F, s, o, l.weak w⟩
theorem At.perm {σ : L2.St} {H : Hp} (h : At F0 es os σ H) (w : os.Perm os1) : At F0 es os1 σ H := let ⟨F, s, o, l⟩ := h; ⟨F, s, o.perm w, l⟩
theorem At.drop {σ : L2.St} {H : Hp} {q : Addr × Ent} (h : At F0 es (q :: os) σ H) : At F0 es os σ H := let ⟨F, s, o, l⟩ := h; ⟨F, s, o.drop, l⟩
theorem EX.weak (h : EX X es' os e φ os1) (w : Wk es es') : EX X es os e φ os1 := fun F σ H Q ow sl q => h F σ H Q ow (sl.weak w) q
theorem EN.weak (h : EN X es' os e n os1) (w : Wk es es') : EN X es os e n os1 := fun F σ H Q ow sl q => h F σ H Q ow (sl.weak w) q
theorem EN.perm (h : EN X es os e n os1) (k : os1.Perm os2) : EN X es os e n os2 := fun F σ H Q ow sl q => h F σ H Q ow sl fun F' H' v e o => q F' H' v e (o.perm (k.cons _))
theorem EN.pre (h : EN X es os e n os1) (k : os2.Perm os) : EN X es os2 e n os1 := fun F σ H Q ow sl q => h F σ H Q (ow.perm k) sl q
/-- the owned object at the k-th place ahead -/
theorem perm_fro {l : Os} {k : Nat} {q : Addr × Ent} (h : l[k]? = some q) : (q :: l.eraseIdx k).Perm l := (perm_at h).symm
/-- an own list at the slot i is data from now on -/
theorem sx_frz {j : Nat} {q : Addr} {ds : List PyData} (hj : os[j]? = some (q, ol ds)) (hi : es[i]? = some (sl (own q))) (h : SX X (es.set i (sl (dat (.list ds)))) (os.eraseIdx j) F0 rest D) : SX X es os F0 rest D := fun F σ H s ow sl => by
  obtain ⟨u, hu, ⟨vs, rfl, hv⟩, e1, o1⟩ := (ow.perm (perm_at hj)).freezeU uni_ol
  have hv := dqall_mono e1 _ _ hv
  obtain ⟨v, ev, cv⟩ := sl.val hi
  obtain rfl : v = .ref q := cv.now
  have sl2 := (sl.mono e1).put (i := i) (v := .ref q) (φ := dat (.list ds)) (cl_dat (.lst upd_same hv))
  have e2 : σ.set i (some (.ref q)) = σ := by
    refine List.ext_getElem? fun m => ?_
    by_cases hm : i = m
    · subst hm
      rw [List.getElem?_set_self (List.getElem?_eq_some_iff.mp ev).1, ev]
    · rw [List.getElem?_set_ne hm]
  rw [e2] at sl2
  exact h _ σ H (s.trans e1) o1 sl2
theorem ix_rng1 {tg : Expr} {b : Int} {xs : List Int} (B : Bd X N W G k) (hj : G[gi]? = some "range") (hm : X.mg "range" = none) (hr : rngO 0 b = some xs) (ha : EX X es os e (dat (.int b)) os1) (hs : starEach [e] X.env = [(false, eval e X.env)] := by rfl) :
    IX X tg es os (.Call (.Name "range" p) [e] [] pos) xs (fun x => dat (.int x)) anyOs os1 := by
  unfold rngO at hr
  split at hr
  · rename_i h
    cases hr
    exact ix_range1 B hj hm h.2.2 ha hs
  · cases hr
theorem ix_rng2 {tg : Expr} {a b : Int} {xs : List Int} (B : Bd X N W G k) (hj : G[gi]? = some "range") (hm : X.mg "range" = none) (hr : rngO a b = some xs) (ha : EX X es os e (dat (.int a)) os1) (hb : EX X es os1 e2 (dat (.int b)) os2)
    (hs : starEach [e, e2] X.env = [(false, eval e X.env), (false, eval e2 X.env)] := by rfl) (hs2 : starEach [e2] X.env = [(false, eval e2 X.env)] := by rfl) :
    IX X tg es os (.Call (.Name "range" p) [e, e2] [] pos) xs (fun x => dat (.int x)) anyOs os2 := by
  unfold rngO at hr
  split at hr
  · rename_i h
    cases hr
    exact ix_range2 B hj hm h ha hb hs hs2
  · cases hr
/-- xs.append(e) of an own list -/
theorem ex_app {β : Type} {apos cpos : Pos} {q : Addr} {enc : β → PyData} {xs xs0 ys : List β} {y : β} {j : Nat} (ha : appO xs y = some ys) (ho : EX X es os a (own q) os) (h0 : os[j]? = some (q, ol (xs0.map enc))) (he : EX X es os e (dat (enc y)) os1) (hj : os1[j]? = some (q, ol (xs.map enc)))
    (hbase : attributeBase a "append" X.env (eval a X.env) = eval a X.env := by rfl) (hline : (apos.endLine == cpos.line) = true := by rfl) (hs : starEach [e] X.env = (false, eval e X.env) :: starEach [] X.env := by rfl)
    (hfew : ((backTo cpos (starEach [e] X.env)).all (fun x => !x.1) && (backToKw cpos (keywordEach [] X.env)).all (fun x => x.1.isSome) && decide ([e].length + ([] : List Keyword).length + (if ([] : List Keyword).isEmpty then 0 else 1) < 30)) = true := by rfl)
    (hplain : (backTo cpos (starEach [] X.env)).any (·.1) = false := by rfl) : EX X es os (.Call (.Attribute a "append" apos) [e] [] cpos) (dat .none) (os1.set j (q, ol (ys.map enc))) := by
  unfold appO at ha
  split at ha
  · rename_i h
    cases ha
    rw [List.map_append]
    exact ex_append ho he h0 hj (by rw [List.length_map]; exact h) hbase hline hs hfew hplain
  · cases ha
theorem ex_popO {β : Type} {apos cpos : Pos} {q : Addr} {enc : β → PyData} {xs : List β} {r : β × List β} {j : Nat} (hr : popO xs = some r) (ho : EX X es os a (own q) os) (hj : os[j]? = some (q, ol (xs.map enc)))
    (hbase : attributeBase a "pop" X.env (eval a X.env) = eval a X.env := by rfl) (hline : (apos.endLine == cpos.line) = true := by rfl) : EX X es os (.Call (.Attribute a "pop" apos) [] [] cpos) (dat (enc r.1)) (os.set j (q, ol (r.2.map enc))) := by
  unfold popO at hr
  split at hr
  · rename_i z hz
    cases hr
    have e : (xs.map enc).getLast? = some (enc z) := by rw [List.getLast?_map, hz]; rfl
    have h := ex_pop ho hj e hbase hline
    rw [← List.map_dropLast] at h
    exact h
  · cases hr
theorem sx_setO {β : Type} {tpos : Pos} {q : Addr} {enc : β → PyData} {xs ys : List β} {y : β} {j : Nat} {z : Int} (hy : setO xs z y = some ys) (he : EX X es os e (dat (enc y)) os1) (ho : EX X es os1 a (own q) os1) (hb : EX X es os1 b (dat (.int z)) os2) (hj : os2[j]? = some (q, ol (xs.map enc))) (h : SX X es (os2.set j (q, ol (ys.map enc))) F0 rest D)
    (hs : swapsWithSole [.Subscript a b tpos] e pos.line X.env = pure false := by rfl) (hw : swappedStores [.Subscript a b tpos] e X.env = pure none := by rfl) (h1 : (assignEach [.Subscript a b tpos] X.env).map (·.2) = [assign (.Subscript a b tpos) X.env] := by rfl)
    (hsub : ∀ v, assign (.Subscript a b tpos) X.env v = (do
      let ov ← holding [v] (eval a X.env)
      let iv ← holding [v, ov] (eval b X.env)
      standAt tpos
      holding [v, ov, iv] (setItem ov iv v)
      release [v, ov, iv] []) := by intro _; rfl) : SX X es os F0 (.Assign [.Subscript a b tpos] e pos :: rest) D := by
  obtain ⟨m, hm, h2⟩ := bnd hy
  cases h2
  rw [List.map_set] at h
  exact sx_setL he ho hb hj (by rw [List.length_map]; exact hm) h hs hw h1 hsub
theorem ex_idxL {β : Type} {enc : β → PyData} {xs : List β} {y : β} {z : Int} (hk : idx xs z = some y) (hr : RdL X φ os2 (xs.map enc)) (ha : EX X es os a φ os1) (hb : EX X es os1 b (dat (.int z)) os2) (hp : PlainIx b := by exact fun _ _ => rfl) : EX X es os (.Subscript a b pos) (dat (enc y)) os2 := ex_ixL hr (atI_map enc hk) ha hb hp
theorem ex_idxT {β : Type} {enc : β → PyData} {xs : List β} {y : β} {z : Int} (hk : idx xs z = some y) (hr : RdT φ (xs.map enc)) (ha : EX X es os a φ os1) (hb : EX X es os1 b (dat (.int z)) os2) (hp : PlainIx b := by exact fun _ _ => rfl) : EX X es os (.Subscript a b pos) (dat (enc y)) os2 := ex_ixT hr (atI_map enc hk) ha hb hp
/-- a literal list or tuple of one kind is a map -/
theorem EN.list {ds ds' : List PyData} (h : EN X es os e (ol ds) os1) (k : ds = ds') : EN X es os e (ol ds') os1 := k ▸ h
theorem EX.to {d d' : PyData} (h : EX X es os e (dat d) os1) (k : d = d') : EX X es os e (dat d') os1 := k ▸ h
theorem TX.to {t t' : Bool} (h : TX X es os e t os1) (k : t = t') : TX X es os e t' os1 := k ▸ h
end
/-- two lists of data are equal exactly if they are alike -/
def EqvOk {α : Type} [DecidableEq α] (e : α → PyData) : Prop := ∀ a b, PyData.eqv (e a) (e b) = decide (a = b)
theorem eqv_int : EqvOk PyData.int := fun a b => by
  simp only [PyData.eqv]
  exact Bool.beq_eq_decide_eq a b
theorem eqv_bool : EqvOk PyData.bool := fun a b => by
  simp only [PyData.eqv]
  exact Bool.beq_eq_decide_eq a b
theorem eqv_str : EqvOk PyData.str := fun a b => by
  simp only [PyData.eqv]
  by_cases h : a = b
  · subst h
    simp
  · simp [h]
theorem eqv_unit : EqvOk eN := fun a b => by
  simp only [PyData.eqv]
  simp
theorem eqvAll_map {α : Type} [DecidableEq α] {e : α → PyData} (h : EqvOk e) : ∀ xs ys : List α, PyData.eqvAll (xs.map e) (ys.map e) = decide (xs = ys)
  | [], [] => by simp [PyData.eqvAll]
  | [], y :: ys => by simp [PyData.eqvAll]
  | x :: xs, [] => by simp [PyData.eqvAll]
  | x :: xs, y :: ys => by
    simp only [List.map_cons, PyData.eqvAll, h x y, eqvAll_map h xs ys, List.cons.injEq, Bool.decide_and]
theorem eqv_list {α : Type} [DecidableEq α] {e : α → PyData} (h : EqvOk e) : EqvOk (eL e) := fun a b => by
  simp only [PyData.eqv]
  exact eqvAll_map h a b
theorem eqv_tup {α : Type} [DecidableEq α] {e : α → PyData} (h : EqvOk e) : EqvOk (eT e) := fun a b => by
  simp only [PyData.eqv]
  exact eqvAll_map h a b
theorem eqv_pair {α β : Type} [DecidableEq α] [DecidableEq β] {e : α → PyData} {f : β → PyData} (h : EqvOk e) (g : EqvOk f) : EqvOk (eP e f) := fun a b => by
  simp only [PyData.eqv, PyData.eqvAll, Bool.and_true]
  rw [h, g, ← Bool.decide_and]
  exact decide_eq_decide.mpr ⟨fun ⟨p, q⟩ => Prod.ext p q, fun p => by rw [p]; exact ⟨rfl, rfl⟩⟩
theorem eqv_tri {α β γ : Type} [DecidableEq α] [DecidableEq β] [DecidableEq γ] {e : α → PyData} {f : β → PyData} {g : γ → PyData} (h : EqvOk e) (h2 : EqvOk f) (h3 : EqvOk g) : EqvOk (eP3 e f g) := fun a b => by
  simp only [PyData.eqv, PyData.eqvAll, Bool.and_true]
  rw [h, h2, h3, ← Bool.decide_and, ← Bool.decide_and]
  refine decide_eq_decide.mpr ⟨fun ⟨p, q, r⟩ => ?_, fun p => by rw [p]; exact ⟨rfl, rfl, rfl⟩⟩
  cases a
  cases b
  simp only at p q r
  rw [p, q, r]
/-- data of bounded depth without dicts -/
structure ShOk {α : Type} (e : α → PyData) (n : Nat) : Prop where
  lay : ∀ a, (e a).canLay0 = true
  dep : ∀ a, (e a).depth ≤ n
theorem ShOk.shaped {α : Type} {e : α → PyData} {n : Nat} (h : ShOk e n) (hn : n ≤ 64) (a : α) : SeqAt.shaped (e a) = true := by
  unfold SeqAt.shaped
  rw [h.lay a, Bool.true_and]
  exact decide_eq_true (Nat.le_trans (h.dep a) hn)
theorem sh_int : ShOk PyData.int 0 := ⟨fun _ => by simp only [PyData.canLay0], fun _ => by simp only [PyData.depth]; exact Nat.le_refl 0⟩
theorem sh_bool : ShOk PyData.bool 0 := ⟨fun _ => by simp only [PyData.canLay0], fun _ => by simp only [PyData.depth]; exact Nat.le_refl 0⟩
theorem sh_unit : ShOk eN 0 := ⟨fun _ => by simp only [PyData.canLay0], fun _ => by simp only [PyData.depth]; exact Nat.le_refl 0⟩
theorem layAll_map {α : Type} {e : α → PyData} {n : Nat} (h : ShOk e n) : ∀ xs : List α, PyData.canLayAll0 (xs.map e) = true ∧ PyData.depthAll (xs.map e) ≤ n
  | [] => by
    simp only [List.map_nil, PyData.canLayAll0, PyData.depthAll]
    exact ⟨trivial, Nat.zero_le _⟩
  | x :: xs => by
    obtain ⟨a, b⟩ := layAll_map h xs
    simp only [List.map_cons, PyData.canLayAll0, PyData.depthAll, h.lay x, a]
    exact ⟨rfl, Nat.max_le.mpr ⟨h.dep x, b⟩⟩
theorem sh_list {α : Type} {e : α → PyData} {n : Nat} (h : ShOk e n) : ShOk (eL e) (n + 1) :=
  ⟨fun xs => by simp only [PyData.canLay0]; exact (layAll_map h xs).1, fun xs => by simp only [PyData.depth]; exact Nat.succ_le_succ (layAll_map h xs).2⟩
theorem sh_tup {α : Type} {e : α → PyData} {n : Nat} (h : ShOk e n) : ShOk (eT e) (n + 1) :=
  ⟨fun xs => by simp only [PyData.canLay0]; exact (layAll_map h xs).1, fun xs => by simp only [PyData.depth]; exact Nat.succ_le_succ (layAll_map h xs).2⟩
theorem sh_pair {α β : Type} {e : α → PyData} {f : β → PyData} {n m : Nat} (h : ShOk e n) (g : ShOk f m) : ShOk (eP e f) (max n m + 1) :=
  ⟨fun x => by simp only [PyData.canLay0, PyData.canLayAll0, h.lay, g.lay]; rfl, fun x => by
    simp only [PyData.depth, PyData.depthAll]
    have h1 := h.dep x.1
    have h2 := g.dep x.2
    omega⟩
theorem sh_tri {α β γ : Type} {e : α → PyData} {f : β → PyData} {g : γ → PyData} {n m k : Nat} (h : ShOk e n) (h2 : ShOk f m) (h3 : ShOk g k) : ShOk (eP3 e f g) (max n (max m k) + 1) :=
  ⟨fun x => by simp only [PyData.canLay0, PyData.canLayAll0, h.lay, h2.lay, h3.lay]; rfl, fun x => by
    simp only [PyData.depth, PyData.depthAll]
    have q1 := h.dep x.a
    have q2 := h2.dep x.b
    have q3 := h3.dep x.c
    omega⟩
section
variable {X : Cx} {es : List Slot} {os os1 os2 : Os} {N V G W : List Str} {k : Nat} {pos : Pos} {a b : Expr} {α : Type} [DecidableEq α] {e : α → PyData} {n : Nat} {x y : α}
theorem ex_eqD (B : Bd X N W G k) (h : EqvOk e) (s : ShOk e n) (hn : n ≤ 64) (ha : EX X es os a (dat (e x)) os1) (hb : EX X es os1 b (dat (e y)) os2) : EX X es os (.Compare a [.Eq] [b] pos) (dat (.bool (decide (x = y)))) os2 :=
  ex_cmp (op_eqD B.room.units) (r2_eq (s.shaped hn x) (s.shaped hn y) (h x y)) (nomark _) ha hb
theorem ex_neD (B : Bd X N W G k) (h : EqvOk e) (s : ShOk e n) (hn : n ≤ 64) (ha : EX X es os a (dat (e x)) os1) (hb : EX X es os1 b (dat (e y)) os2) : EX X es os (.Compare a [.NotEq] [b] pos) (dat (.bool (!decide (x = y)))) os2 :=
  ex_cmp (op_neD B.room.units) (r2_ne (s.shaped hn x) (s.shaped hn y) (by rw [h x y])) (nomark _) ha hb
theorem tx_eqD (B : Bd X N W G k) (h : EqvOk e) (s : ShOk e n) (hn : n ≤ 64) (ha : EX X es os a (dat (e x)) os1) (hb : EX X es os1 b (dat (e y)) os2) : TX X es os (.Compare a [.Eq] [b] pos) (decide (x = y)) os2 :=
  tx_cmp (op_eqD B.room.units) (r2_eq (s.shaped hn x) (s.shaped hn y) (h x y)) (nomark _) ha hb
theorem tx_neD (B : Bd X N W G k) (h : EqvOk e) (s : ShOk e n) (hn : n ≤ 64) (ha : EX X es os a (dat (e x)) os1) (hb : EX X es os1 b (dat (e y)) os2) : TX X es os (.Compare a [.NotEq] [b] pos) (!decide (x = y)) os2 :=
  tx_cmp (op_neD B.room.units) (r2_ne (s.shaped hn x) (s.shaped hn y) (by rw [h x y])) (nomark _) ha hb
end
end Z
/-! Z, part J: parallel assignments, isinstance, factorial, mirrors of comprehensions, +, slices. -/
namespace Z
open PySem PySem.Spec PyProof.Rows L2

section
variable {X : Cx} {es es' : List Slot} {os os1 os2 : Os} {F0 : Hp} {rest : List Stmt} {D : Ends} {N V G W : List Str} {k i j l vi gi : Nat} {x y z : Str} {p pos : Pos} {e e2 a b c : Expr} {φ : VP} {n : Ent} {α : Type}

/-! ### values side by side, new lists among them -/
def AQ (X : Cx) (es : List Slot) (as : List Expr) (os : Os) (Rel : List VP → Os → Prop) : Prop := ∀ F σ H Q, Ow F os H → Sl F es σ → (∀ F' H' vs φs os', Same F F' → Rel φs os' → Ow F' os' H' → ClA φs F' vs → Q vs H') → WA X as σ H Q
theorem aq_nil : AQ X es [] os (fun φs os' => φs = [] ∧ os' = os) := fun F σ H Q ow sl q => wa_of pa_nil (q F H [] [] os (Same.refl F) ⟨rfl, rfl⟩ ow rfl)
theorem aq_x {as : List Expr} {Rel : List VP → Os → Prop} (ha : EX X es os a φ os1) (hr : AQ X es as os1 Rel) (hs : starEach (a :: as) X.env = (false, eval a X.env) :: starEach as X.env := by rfl) : AQ X es (a :: as) os (fun φs os' => ∃ r, φs = φ :: r ∧ Rel r os') := fun F σ H Q ow sl q =>
  wa_of (pa_cons pe_u pa_u hs) (ha F σ H _ ow sl fun F1 H1 v e1 o1 c1 => hr F1 σ H1 _ o1 (sl.mono e1) fun F2 H2 vs φs os' e2 rel o2 c2 => q F2 H2 _ _ os' (e1.trans e2) ⟨φs, rfl, rel⟩ o2 ⟨v, vs, rfl, c1.mono e2, c2⟩)
theorem aq_n {as : List Expr} {Rel : Addr → List VP → Os → Prop} (ha : EN X es os a n os1) (hr : ∀ p, AQ X es as ((p, n) :: os1) (Rel p)) (hs : starEach (a :: as) X.env = (false, eval a X.env) :: starEach as X.env := by rfl) : AQ X es (a :: as) os (fun φs os' => ∃ p r, φs = own p :: r ∧ Rel p r os') := fun F σ H Q ow sl q =>
  wa_of (pa_cons pe_u pa_u hs) (ha F σ H _ ow sl fun F1 H1 p e1 o1 => hr p F1 σ H1 _ o1 (sl.mono e1) fun F2 H2 vs φs os' e2 rel o2 c2 => q F2 H2 _ _ os' (e1.trans e2) ⟨p, φs, rfl, rel⟩ o2 ⟨_, vs, rfl, cl_own, c2⟩)
/-- the names are stored from the right -/
def swpB (sc : Scope) (ts : List Expr) (v : Expr) (xs : List Str) : Prop := ∀ env : Env, env.scope = sc → swappedStores ts v env = pure (some xs)
def nswB (sc : Scope) (ts : List Expr) (v : Expr) : Prop := ∀ env : Env, env.scope = sc → swappedStores ts v env = pure none
def lclB (sc : Scope) (x : Str) : Bool := match sc.names.lookup x with
  | some .local => true
  | _ => false
theorem lcl_of {sc : Scope} {x : Str} (h : lclB sc x = true) : sc.names.lookup x = some .local := by
  unfold lclB at h
  split at h
  · assumption
  · cases h
theorem sx_par2 {px py pt p2 : Pos} {kt k2 : Nat} {Rel : List VP → Os → Prop} (sc : Scope) (hsc : X.env.scope = sc) (B : Bd X N W G k) (hi : N[i]? = some x) (hj : N[j]? = some y) (hij : i ≠ j) (hx : lclB sc x = true) (hy : lclB sc y = true) (hw : swpB sc [.Tuple [.Name x px, .Name y py] kt pt] (.Tuple [a, b] k2 p2) [x, y])
    (ha : AQ X es [a, b] os Rel) (h : ∀ φ ψ os', Rel [φ, ψ] os' → SX X ((es.set i (sl φ)).set j (sl ψ)) os' F0 rest D) (hR : ∀ φs os', Rel φs os' → ∃ φ ψ, φs = [φ, ψ])
    (hs : swapsWithSole [.Tuple [.Name x px, .Name y py] kt pt] (.Tuple [a, b] k2 p2) pos.line X.env = pure false := by rfl) : SX X es os F0 (.Assign [.Tuple [.Name x px, .Name y py] kt pt] (.Tuple [a, b] k2 p2) pos :: rest) D := fun F σ H s ow sl =>
  wps_cons (ws_of (ps_par B.calm (B.hN ▸ B.nd) (B.hN ▸ hi) (B.hN ▸ hj) hij (by rw [hsc]; exact lcl_of hx) (by rw [hsc]; exact lcl_of hy) pa_u (hw _ hsc) hs) (ha F σ H _ ow sl fun F1 H1 vs φs os' e1 rel o1 c1 => by
    obtain ⟨φ, ψ, rfl⟩ := hR φs os' rel
    obtain ⟨v, u, rfl, h1, h2⟩ := cla2 c1
    exact ⟨v, u, rfl, h φ ψ os' rel F1 _ H1 (s.trans e1) o1 (((sl.mono e1).put h1).put h2)⟩))
theorem cla3 {φ ψ χ : VP} {F : Hp} {vs : List L2.V} (h : ClA [φ, ψ, χ] F vs) : ∃ v u w, vs = [v, u, w] ∧ Cl φ F v ∧ Cl ψ F u ∧ Cl χ F w := by
  obtain ⟨v, r, e, h1, h2⟩ := h
  obtain ⟨u, w, e2, h3, h4⟩ := cla2 h2
  subst e2
  exact ⟨v, u, w, e, h1, h3, h4⟩
theorem sx_par3 {px py pz pt p2 : Pos} {kt k2 : Nat} {Rel : List VP → Os → Prop} (sc : Scope) (hsc : X.env.scope = sc) (B : Bd X N W G k) (hi : N[i]? = some x) (hj : N[j]? = some y) (hl : N[l]? = some z) (hij : i ≠ j) (hil : i ≠ l) (hjl : j ≠ l) (hx : lclB sc x = true) (hy : lclB sc y = true) (hz : lclB sc z = true)
    (hw : swpB sc [.Tuple [.Name x px, .Name y py, .Name z pz] kt pt] (.Tuple [a, b, c] k2 p2) [x, y, z])
    (ha : AQ X es [a, b, c] os Rel) (h : ∀ φ ψ χ os', Rel [φ, ψ, χ] os' → SX X (((es.set i (sl φ)).set j (sl ψ)).set l (sl χ)) os' F0 rest D) (hR : ∀ φs os', Rel φs os' → ∃ φ ψ χ, φs = [φ, ψ, χ])
    (hs : swapsWithSole [.Tuple [.Name x px, .Name y py, .Name z pz] kt pt] (.Tuple [a, b, c] k2 p2) pos.line X.env = pure false := by rfl) : SX X es os F0 (.Assign [.Tuple [.Name x px, .Name y py, .Name z pz] kt pt] (.Tuple [a, b, c] k2 p2) pos :: rest) D := fun F σ H s ow sl =>
  wps_cons (ws_of (ps_par3 B.calm (B.hN ▸ B.nd) (B.hN ▸ hi) (B.hN ▸ hj) (B.hN ▸ hl) hij hil hjl (by rw [hsc]; exact lcl_of hx) (by rw [hsc]; exact lcl_of hy) (by rw [hsc]; exact lcl_of hz) pa_u (hw _ hsc) hs) (ha F σ H _ ow sl fun F1 H1 vs φs os' e1 rel o1 c1 => by
    obtain ⟨φ, ψ, χ, rfl⟩ := hR φs os' rel
    obtain ⟨v, u, w, rfl, h1, h2, h3⟩ := cla3 c1
    exact ⟨v, u, w, rfl, h φ ψ χ os' rel F1 _ H1 (s.trans e1) o1 ((((sl.mono e1).put h1).put h2).put h3)⟩))
/-- a, b = (e1, e2): the tuple is made, then taken apart -/
theorem sx_mk2 {t1 t2 pt p2 : Pos} {kt k2 : Nat} {Rel : List VP → Os → Prop} (sc : Scope) (hsc : X.env.scope = sc) (B : Bd X N W G k) (T : Bt X V) (hi : N[i]? = some x) (hj : N[j]? = some y) (hx : V[vi]? = some x) (hy : V[gi]? = some y) (hw : nswB sc [.Tuple [.Name x t1, .Name y t2] kt pt] (.Tuple [a, b] k2 p2))
    (ha : AQ X es [a, b] os Rel) (h : ∀ φ ψ os', Rel [φ, ψ] os' → SX X ((es.set i (sl φ)).set j (sl ψ)) os' F0 rest D) (hR : ∀ φs os', Rel φs os' → ∃ φ ψ, φs = [φ, ψ])
    (hs : swapsWithSole [.Tuple [.Name x t1, .Name y t2] kt pt] (.Tuple [a, b] k2 p2) pos.line X.env = pure false := by rfl) (h1 : (assignEach [.Tuple [.Name x t1, .Name y t2] kt pt] X.env).map (·.2) = [assign (.Tuple [.Name x t1, .Name y t2] kt pt) X.env] := by rfl) :
    SX X es os F0 (.Assign [.Tuple [.Name x t1, .Name y t2] kt pt] (.Tuple [a, b] k2 p2) pos :: rest) D := fun F σ H s ow sl =>
  wps_cons (ws_of (ps_asg (pe_tup pa_u) (pg_tup (n := 2) B.calm (pgs_cons (pg_name (B.hN ▸ B.nd) (B.hN ▸ hi) (T.loc x (List.mem_of_getElem? hx)) (.inl (T.fn x))) (pgs_cons (pg_name (B.hN ▸ B.nd) (B.hN ▸ hj) (T.loc y (List.mem_of_getElem? hy)) (.inl (T.fn y))) pgs_nil)) rfl rfl) hs (hw _ hsc) h1) (ha F σ H _ ow sl fun F1 H1 vs φs os' e1 rel o1 c1 => by
    obtain ⟨φ, ψ, rfl⟩ := hR φs os' rel
    obtain ⟨v, u, rfl, h1, h2⟩ := cla2 c1
    refine ⟨by show 2 ≤ sizeLine; decide, fun p hp => ?_⟩
    refine ⟨p, _, rfl, .of upd_same, rfl, _, _, rfl, _, _, rfl, rfl, ?_⟩
    exact h φ ψ os' rel F1 _ _ (s.trans e1) (o1.grow (same_upd hp)) (((sl.mono e1).put h1).put h2)))
theorem sx_mk3 {m : Nat} {t1 t2 t3 pt p2 : Pos} {kt k2 : Nat} {Rel : List VP → Os → Prop} (sc : Scope) (hsc : X.env.scope = sc) (B : Bd X N W G k) (T : Bt X V) (hi : N[i]? = some x) (hj : N[j]? = some y) (hl : N[l]? = some z) (hx : V[vi]? = some x) (hy : V[gi]? = some y) (hz : V[m]? = some z) (hw : nswB sc [.Tuple [.Name x t1, .Name y t2, .Name z t3] kt pt] (.Tuple [a, b, c] k2 p2))
    (ha : AQ X es [a, b, c] os Rel) (h : ∀ φ ψ χ os', Rel [φ, ψ, χ] os' → SX X (((es.set i (sl φ)).set j (sl ψ)).set l (sl χ)) os' F0 rest D) (hR : ∀ φs os', Rel φs os' → ∃ φ ψ χ, φs = [φ, ψ, χ])
    (hs : swapsWithSole [.Tuple [.Name x t1, .Name y t2, .Name z t3] kt pt] (.Tuple [a, b, c] k2 p2) pos.line X.env = pure false := by rfl) (h1 : (assignEach [.Tuple [.Name x t1, .Name y t2, .Name z t3] kt pt] X.env).map (·.2) = [assign (.Tuple [.Name x t1, .Name y t2, .Name z t3] kt pt) X.env] := by rfl) :
    SX X es os F0 (.Assign [.Tuple [.Name x t1, .Name y t2, .Name z t3] kt pt] (.Tuple [a, b, c] k2 p2) pos :: rest) D := fun F σ H s ow sl =>
  wps_cons (ws_of (ps_asg (pe_tup pa_u) (pg_tup (n := 3) B.calm (pgs_cons (pg_name (B.hN ▸ B.nd) (B.hN ▸ hi) (T.loc x (List.mem_of_getElem? hx)) (.inl (T.fn x))) (pgs_cons (pg_name (B.hN ▸ B.nd) (B.hN ▸ hj) (T.loc y (List.mem_of_getElem? hy)) (.inl (T.fn y))) (pgs_cons (pg_name (B.hN ▸ B.nd) (B.hN ▸ hl) (T.loc z (List.mem_of_getElem? hz)) (.inl (T.fn z))) pgs_nil))) rfl rfl) hs (hw _ hsc) h1) (ha F σ H _ ow sl fun F1 H1 vs φs os' e1 rel o1 c1 => by
    obtain ⟨φ, ψ, χ, rfl⟩ := hR φs os' rel
    obtain ⟨v, u, w, rfl, h1, h2, h3⟩ := cla3 c1
    refine ⟨by show 3 ≤ sizeLine; decide, fun p hp => ?_⟩
    refine ⟨p, _, rfl, .of upd_same, rfl, _, _, rfl, _, _, rfl, _, _, rfl, rfl, ?_⟩
    exact h φ ψ χ os' rel F1 _ _ (s.trans e1) (o1.grow (same_upd hp)) ((((sl.mono e1).put h1).put h2).put h3)))

/-! ### isinstance of a datum -/
def isTy : PyData → String → Bool
  | .none, s => s == "NoneType"
  | .bool _, s => s == "bool" || s == "int"
  | .int _, s => s == "int"
  | .str _, s => s == "str"
  | .list _, s => s == "list"
  | .tuple _, s => s == "tuple"
  | .dict _, s => s == "dict"
theorem ex_tyname {T : String} (B : Bd X N W G k) (hj : G[gi]? = some x) (hm : X.mg x = none) (hv : bootBuiltins x = some (.type T)) : EX X es os (.Name x pos) (fun _ v => v = .ty T) os := fun F σ H Q ow sl q =>
  let ⟨u, v⟩ := B.gl x (List.mem_of_getElem? hj)
  we_of (pe_bltn (v := .ty T) u hm hv rfl (dun_n v) (dun_d v)) (q F H _ (Same.refl F) ow fun _ _ => rfl)

def tyName : PyData → String
  | .none => "NoneType"
  | .bool _ => "bool"
  | .int _ => "int"
  | .str _ => "str"
  | .list _ => "list"
  | .tuple _ => "tuple"
  | .dict _ => "dict"
theorem rc_isi {d : PyData} {T : String} {r : Bool} (h : kitB (tyName d) T = some r) (hT : ∀ ps, d ≠ .dict ((.none, .none) :: ps) := by intro _ z; first | cases z | assumption) : RCX (rIsi X.K) [dat d, fun _ v => v = .ty T] os (dat (.bool r)) os := fun F H vs Q ow c q => by
  obtain ⟨v, u, rfl, h1, h2⟩ := cla2 c
  obtain rfl : u = .ty T := h2.now
  have fin := q F H _ (Same.refl F) ow (cl_dat (.bl r))
  have hd := h1.now
  have key : ∀ t : String, tyName d = t → TyX X.K H v (.type t) → rIsi X.K [v, .ty T] H Q := fun t e k => ⟨v, _, _, _, r, rfl, .ty T, k, kit_ty (e ▸ h), fin⟩
  cases hd with
  | non => exact key _ rfl (.base .non)
  | bl b => exact key _ rfl (.base (.bl b))
  | int i => exact key _ rfl (.base (.int i))
  | str x => exact key _ rfl (.base (.str x))
  | lst k1 k2 => exact key _ rfl (.base (.lst (ow.ex _ _ k1)))
  | tup k1 k2 => exact key _ rfl (.base (.tup (ow.ex _ _ k1)))
  | dctK k1 k2 k3 => exact key _ rfl (.fDict (ow.ex _ _ k1))
  | dctT k1 k2 k3 => exact (hT _ rfl).elim

/-! ### factorial -/
def facO (a : Int) : Option Int := if 0 ≤ a ∧ a ≤ 20000 then some ((Builtin.Math.factorialNat a.toNat : Nat) : Int) else none
def rFac : List L2.V → Hp → VK → Prop := fun vs H Q => ∃ a : Int, vs = [.int a] ∧ 0 ≤ a ∧ a ≤ 20000 ∧ Q (.int ((Builtin.Math.factorialNat a.toNat : Nat) : Int)) H
theorem cr_fac : CallR X (.builtin "math.factorial") rFac := by
  intro pins s σ H vs us Q I r h
  obtain ⟨a, rfl, h0, h1, q⟩ := h
  obtain ⟨u, rfl, t, rfl⟩ := vals1 r
  exact PySem.W.mc_factorial h0 h1 fun _ => ⟨.int _, H, I.tok _, ⟨_, rfl⟩, q⟩
theorem rc_fac {a m : Int} (h : facO a = some m) : RCX rFac [dat (.int a)] os (dat (.int m)) os := fun F H vs Q ow c q => by
  unfold facO at h
  split at h
  · rename_i hh
    cases h
    obtain ⟨v, rfl, h⟩ := cla1 c
    exact ⟨a, by rw [clv_int h], hh.1, hh.2, q F H _ (Same.refl F) ow (cl_dat (.int _))⟩
  · cases h
/-- a module's name for a built-in function -/
theorem ex_mfn {as : List Expr} {id : String} {r : List L2.V → Hp → VK → Prop} {φs : List VP} {d : VP} (B : Bd X N V G k) (hj : G[gi]? = some x) (hm : X.mg x = some (.builtin id)) (hc : CallR X (.builtin id) r) (hr : RCX r φs os1 d os2)
    (ha : AX X es os (e :: as) φs os1) (he : starEach (e :: as) X.env = (false, eval e X.env) :: starEach as X.env := by rfl) (hpl : (backTo pos (starEach as X.env)).any (·.1) = false := by rfl) : EX X es os (.Call (.Name x p) (e :: as) [] pos) d os2 := fun F σ H Q ow sl q =>
  let ⟨a, b⟩ := B.gl x (List.mem_of_getElem? hj)
  we_of (pe_callBfun hc a hm pa_u (dun_d b) he hpl) (ha F σ H _ ow sl fun F1 H1 vs e1 o1 c1 => hr F1 H1 vs Q o1 c1 fun F2 H2 v e2 => q F2 H2 v (e1.trans e2))

/-! ### +, slices -/
def catO {α : Type} (xs ys : List α) : Option (List α) := if xs.length + ys.length ≤ sizeLine then some (xs ++ ys) else none
theorem dqall_rev {F : Hp} : ∀ {ds : List PyData} {vs : List L2.V}, DqAll F vs ds → DqAll F vs.reverse ds.reverse
  | [], _, h => by
    cases h
    exact .nil
  | d :: ds, _, h => by
    cases h with
    | cons h1 h2 =>
      rw [List.reverse_cons, List.reverse_cons]
      exact dqall_app (dqall_rev h2) (.cons h1 .nil)
theorem dat_list {F H : Hp} {v : L2.V} {ds : List PyData} (ow : Ow F os H) (c : Cl (dat (.list ds)) F v) : ∃ p vs, v = .ref p ∧ H p = some (.lst vs) ∧ DqAll F vs ds := by
  have h := c.now
  cases h with
  | lst h1 h2 => exact ⟨_, _, rfl, ow.ex _ _ h1, h2⟩
theorem en_cat {α : Type} {enc : α → PyData} {xs ys zs : List α} (h : catO xs ys = some zs) (ha : EX X es os a (dat (.list (xs.map enc))) os1) (hb : EX X es os1 b (dat (.list (ys.map enc))) os2) : EN X es os (.BinOp a .Add b pos) (ol (zs.map enc)) os2 := fun F σ H Q ow sl q => by
  unfold catO at h
  split at h
  · rename_i hl
    cases h
    refine we_of (pe_op op_cat pe_u pe_u) (ha F σ H _ ow sl fun F1 H1 v e1 o1 c1 => hb F1 σ H1 _ o1 (sl.mono e1) fun F2 H2 u e2 o2 c2 => ?_)
    obtain ⟨p, vs, rfl, h1, h2⟩ := dat_list o2 (c1.mono e2)
    obtain ⟨r, us, rfl, h3, h4⟩ := dat_list o2 c2
    refine ⟨p, r, vs, us, rfl, rfl, h1, h3, by rw [dqall_len h2, dqall_len h4, List.length_map, List.length_map]; exact hl, fun m hm => ?_⟩
    refine q F2 _ m (e1.trans e2) (o2.new hm fun G g => ⟨_, rfl, ?_⟩)
    rw [List.map_append]
    exact dqall_mono g _ _ (dqall_app h2 h4)
  · cases h
theorem ex_catT {α : Type} {enc : α → PyData} {xs ys zs : List α} (h : catO xs ys = some zs) (ha : EX X es os a (dat (.tuple (xs.map enc))) os1) (hb : EX X es os1 b (dat (.tuple (ys.map enc))) os2) : EX X es os (.BinOp a .Add b pos) (dat (.tuple (zs.map enc))) os2 := fun F σ H Q ow sl q => by
  unfold catO at h
  split at h
  · rename_i hl
    cases h
    refine we_of (pe_op op_catA pe_u pe_u) (ha F σ H _ ow sl fun F1 H1 v e1 o1 c1 => hb F1 σ H1 _ o1 (sl.mono e1) fun F2 H2 u e2 o2 c2 => ?_)
    obtain ⟨p, vs, rfl, h1, h2⟩ := rdt_dat F2 v (c1.mono e2)
    obtain ⟨r, us, rfl, h3, h4⟩ := rdt_dat F2 u c2
    have e := e1.trans e2
    have hd := dqall_app h2 h4
    rw [← List.map_append] at hd
    refine ⟨p, r, vs, us, rfl, rfl, .of (o2.ex _ _ h1), .of (o2.ex _ _ h3), by rw [dqall_len h2, dqall_len h4, List.length_map, List.length_map]; exact hl, fun h0 => ?_, fun h0 h5 => ?_, fun h0 h5 m hm => ?_⟩
    · refine q F2 H2 _ e o2 (cl_dat (.tup h3 ?_))
      rw [h0, List.nil_append] at hd
      exact hd
    · refine q F2 H2 _ e o2 (cl_dat (.tup h1 ?_))
      rw [h5, List.append_nil] at hd
      exact hd
    · have fp := o2.ex.free hm
      exact q _ _ _ (e.trans (same_upd fp)) (o2.frozen hm) (cl_dat (.tup upd_same (dqall_mono (same_upd fp) _ _ hd)))
  · cases h
/-- xs[lo:hi] -/
def cut {α : Type} (xs : List α) (lo hi : Option Int) : List α := (xs.drop (HT.sIx xs.length 0 lo)).take (HT.sIx xs.length xs.length hi - HT.sIx xs.length 0 lo)
theorem dqall_cut {F : Hp} {ds : List PyData} {vs : List L2.V} (h : DqAll F vs ds) (lo hi : Option Int) : DqAll F (cutV vs lo hi) (cut ds lo hi) := by
  unfold cutV cut
  rw [dqall_len h]
  exact dqall_take _ (dqall_drop _ h)
theorem cut_map {α β : Type} (f : α → β) (xs : List α) (lo hi : Option Int) : cut (xs.map f) lo hi = (cut xs lo hi).map f := by
  unfold cut
  rw [List.length_map, List.map_take, List.map_drop]
def WO (X : Cx) : Option Expr → TO
  | none => tNoPart
  | some e => tPart (WE X e)
theorem po_u : ∀ e : Option Expr, PO X e (WO X e)
  | none => po_none
  | some e => po_some pe_u
/-- an end of a slice -/
def PX (X : Cx) (es : List Slot) (os : Os) (e : Option Expr) (o : Option Int) (os' : Os) : Prop := ∀ F σ H Q, Ow F os H → Sl F es σ → (∀ F' H', Same F F' → Ow F' os' H' → Q o H') → WO X e σ H Q
theorem px_none : PX X es os none none os := fun F σ H Q ow sl q => q F H (Same.refl F) ow
theorem px_some {i : Int} (h : EX X es os e (dat (.int i)) os1) : PX X es os (some e) (some i) os1 := fun F σ H Q ow sl q => h F σ H _ ow sl fun F1 H1 v e1 o1 c1 => ⟨i, clv_int c1, q F1 H1 e1 o1⟩
theorem en_cut {α : Type} {enc : α → PyData} {xs : List α} {lo hi : Option Expr} {l u : Option Int} {os3 : Os} {p2 : Pos} (hr : RdL X φ os3 (xs.map enc)) (ha : EX X es os a φ os1) (hl : PX X es os1 lo l os2) (hu : PX X es os2 hi u os3) : EN X es os (.Subscript a (.Slice lo hi none p2) pos) (ol ((cut xs l u).map enc)) os3 := fun F σ H Q ow sl q =>
  we_of (pe_slice sl_list pe_u (po_u lo) (po_u hi)) (ha F σ H _ ow sl fun F1 H1 v e1 o1 c1 => hl F1 σ H1 _ o1 (sl.mono e1) fun F2 H2 e2 o2 => hu F2 σ H2 _ o2 (sl.mono (e1.trans e2)) fun F3 H3 e3 o3 => by
    obtain ⟨p, vs, rfl, h1, h2⟩ := hr F3 H3 v o3 ((c1.mono e2).mono e3)
    refine ⟨p, vs, rfl, h1, fun m hm => q F3 _ m ((e1.trans e2).trans e3) (o3.new hm fun G g => ⟨_, rfl, ?_⟩)⟩
    rw [← cut_map]
    exact dqall_mono g _ _ (dqall_cut h2 l u))
theorem ex_cutT {α : Type} {enc : α → PyData} {xs : List α} {lo hi : Option Expr} {l u : Option Int} {os3 : Os} {p2 : Pos} (hr : RdT φ (xs.map enc)) (ha : EX X es os a φ os1) (hl : PX X es os1 lo l os2) (hu : PX X es os2 hi u os3) : EX X es os (.Subscript a (.Slice lo hi none p2) pos) (dat (.tuple ((cut xs l u).map enc))) os3 := fun F σ H Q ow sl q =>
  we_of (pe_slice sl_tupA pe_u (po_u lo) (po_u hi)) (ha F σ H _ ow sl fun F1 H1 v e1 o1 c1 => hl F1 σ H1 _ o1 (sl.mono e1) fun F2 H2 e2 o2 => hu F2 σ H2 _ o2 (sl.mono (e1.trans e2)) fun F3 H3 e3 o3 => by
    obtain ⟨p, vs, rfl, h1, h2⟩ := hr F3 v ((c1.mono e2).mono e3)
    have e := (e1.trans e2).trans e3
    have hd := dqall_cut h2 l u
    rw [cut_map] at hd
    refine ⟨p, vs, rfl, .of (o3.ex _ _ h1), fun hw => ?_, fun hw m hm => ?_⟩
    · refine q F3 H3 _ e o3 (cl_dat (.tup h1 ?_))
      have e4 : cutV vs l u = vs := by
        unfold cutV
        rw [hw.1, hw.2, List.drop_zero, Nat.sub_zero, List.take_length]
      rw [e4] at hd
      exact hd
    · have fp := o3.ex.free hm
      exact q _ _ _ (e.trans (same_upd fp)) (o3.frozen hm) (cl_dat (.tup upd_same (dqall_mono (same_upd fp) _ _ hd))))
/-- xs[::-1] of a list -/
theorem en_rev {α : Type} {enc : α → PyData} {xs : List α} {kk : Nat} {p1 p2 p3 : Pos} (hr : RdL X φ os1 (xs.map enc)) (ha : EX X es os a φ os1) : EN X es os (.Subscript a (.Slice none none (some (.UnaryOp .USub (.Constant (.int 1) kk p1) p2)) p3) pos) (ol (xs.reverse.map enc)) os1 := fun F σ H Q ow sl q =>
  we_of (pe_revL pe_u) (ha F σ H _ ow sl fun F1 H1 v e1 o1 c1 => by
    obtain ⟨p, vs, rfl, h1, h2⟩ := hr F1 H1 v o1 c1
    refine ⟨p, vs, rfl, h1, fun m hm => q F1 _ m e1 (o1.new hm fun G g => ⟨_, rfl, ?_⟩)⟩
    rw [List.map_reverse]
    exact dqall_mono g _ _ (dqall_rev h2))
/-! ### mirrors of comprehensions -/
def lcT {α β : Type} (f : α → β) (xs : List α) : Option (List β) := if xs.length < sizeLine then some (xs.map f) else none
def lcF {α β : Type} (c : α → Bool) (f : α → β) (xs : List α) : Option (List β) := if xs.length < sizeLine then some ((xs.filter c).map f) else none
def mapO {α β : Type} (f : α → Option β) : List α → Option (List β)
  | [] => some []
  | x :: xs => (f x).bind fun y => (mapO f xs).bind fun ys => some (y :: ys)
def lcO {α β : Type} (f : α → Option β) (xs : List α) : Option (List β) := if xs.length < sizeLine then mapO f xs else none
def lcE {α β S : Type} (f : S → α → Option (Option β × S)) (xs : List α) (s : S) : Option (List β × S) := if xs.length < sizeLine then lcS f xs s else none
theorem lcS_map {α β : Type} (f : α → β) : ∀ xs : List α, lcS (fun (_ : Unit) x => some (some (f x), ())) xs () = some (xs.map f, ())
  | [] => rfl
  | x :: xs => by
    unfold lcS
    show ((lcS _ xs ()).bind fun u => some ([f x] ++ u.1, u.2)) = _
    rw [lcS_map f xs]
    rfl
theorem lcS_filter {α β : Type} (c : α → Bool) (f : α → β) : ∀ xs : List α, lcS (fun (_ : Unit) x => some (if c x = true then some (f x) else none, ())) xs () = some ((xs.filter c).map f, ())
  | [] => rfl
  | x :: xs => by
    unfold lcS
    show ((lcS _ xs ()).bind fun u => some ((if c x = true then some (f x) else none).toList ++ u.1, u.2)) = _
    rw [lcS_filter c f xs]
    cases h : c x with
    | true =>
      rw [if_pos rfl, List.filter_cons, if_pos h]
      rfl
    | false =>
      rw [if_neg Bool.false_ne_true, List.filter_cons, if_neg (by rw [h]; exact Bool.false_ne_true)]
      rfl
theorem lcS_mapO {α β : Type} (f : α → Option β) : ∀ (xs : List α) (ys : List β), mapO f xs = some ys → lcS (fun (_ : Unit) x => (f x).map fun y => (some y, ())) xs () = some (ys, ())
  | [], ys, h => by
    cases h
    rfl
  | x :: xs, ys, h => by
    unfold mapO at h
    obtain ⟨y, hy, h⟩ := bnd h
    obtain ⟨zs, hz, h⟩ := bnd h
    cases h
    unfold lcS
    rw [hy]
    show ((lcS _ xs ()).bind fun u => some ([y] ++ u.1, u.2)) = _
    rw [lcS_mapO f xs zs hz]
    rfl
theorem lcT_ok {α β : Type} {f : α → β} {xs : List α} {ys : List β} (h : lcT f xs = some ys) : xs.length < sizeLine ∧ lcS (fun (_ : Unit) x => some (some (f x), ())) xs () = some (ys, ()) := by
  unfold lcT at h
  split at h
  · rename_i hl
    cases h
    exact ⟨hl, lcS_map f xs⟩
  · cases h
theorem lcF_ok {α β : Type} {c : α → Bool} {f : α → β} {xs : List α} {ys : List β} (h : lcF c f xs = some ys) : xs.length < sizeLine ∧ lcS (fun (_ : Unit) x => some (if c x = true then some (f x) else none, ())) xs () = some (ys, ()) := by
  unfold lcF at h
  split at h
  · rename_i hl
    cases h
    exact ⟨hl, lcS_filter c f xs⟩
  · cases h
theorem lcO_ok {α β : Type} {f : α → Option β} {xs : List α} {ys : List β} (h : lcO f xs = some ys) : xs.length < sizeLine ∧ lcS (fun (_ : Unit) x => (f x).map fun y => (some y, ())) xs () = some (ys, ()) := by
  unfold lcO at h
  split at h
  · rename_i hl
    exact ⟨hl, lcS_mapO f xs ys h⟩
  · cases h
theorem lcE_ok {α β S : Type} {f : S → α → Option (Option β × S)} {xs : List α} {s : S} {r : List β × S} (h : lcE f xs s = some r) : xs.length < sizeLine ∧ lcS f xs s = some (r.1, r.2) := by
  unfold lcE at h
  split at h
  · rename_i hl
    exact ⟨hl, h⟩
  · cases h
end
end Z
/-! Z, part K: what the printer names. -/
namespace Z
open PySem PySem.Spec PyProof.Rows L2

abbrev absI (i : Int) : Int := if i < 0 then -i else i
abbrev maxI (i j : Int) : Int := if j > i then j else i
abbrev minI (i j : Int) : Int := if j < i then j else i
theorem fdivO_lit {i j : Int} (h : 0 < j) (h2 : j.natAbs.log2 < 9000) : fdivO i j = some (i / j) := if_pos ⟨h, h2⟩
theorem modO_lit {i j : Int} (h : 0 < j) : modO i j = some (i % j) := if_pos h
theorem and_fix {k l : Bool} (h : k = false → l = false) : (k && l) = l := by
  cases k with
  | true => rfl
  | false => rw [h rfl]; rfl
theorem or_fix {k l : Bool} (h : k = true → l = true) : (k || l) = l := by
  cases k with
  | false => rfl
  | true => rw [h rfl]; rfl
section
variable {X X' : Cx} {es es' : List Slot} {os os1 os2 : Os} {F0 : Hp} {rest : List Stmt} {st : Stmt} {D : Ends} {N V G W : List Str} {k i j l vi gi gj : Nat} {x y z : Str} {p pos : Pos} {e e2 a b c : Expr} {φ ψ : VP} {n : Ent} {α β : Type} {scope : Scope}
theorem sx_join (es' : List Slot) (os' : Os) (h : SX X es' os' F0 rest D) (kk : SX X es' os' F0 rest D → SX X es os F0 (st :: rest) D) : SX X es os F0 (st :: rest) D := kk h
theorem sx_retO {q : Addr} (he : EX X es os e (own q) os1) (h : ∀ F H, Same F0 F → Ow F os1 H → D.rt (.ref q) H) : SX X es os F0 (.Return (some e) pos :: rest) D := sx_ret he fun F H v e o c => by
  obtain rfl : v = .ref q := c.now
  exact h F H e o
theorem sx_end (h : ∀ F σ H, Same F0 F → Ow F os H → D.nx σ H) : SX X es os F0 [] D := sx_nil fun σ H a => let ⟨F, s, o, _⟩ := a; h F σ H s o
theorem sx_doc {t : Str} {q : Nat} {p1 p2 : Pos} (h : SX X es os F0 rest D) : SX X es os F0 (.Expr (.Constant (.str t) q p1) p2 :: rest) D := fun F σ H s ow sl => wps_cons (ws_of ps_doc (h F σ H s ow sl))
theorem fam_mg {f : Str} {v : Option Value} (h : Fam X scope X') (e : X.mg f = v) : X'.mg f = v := by
  obtain ⟨_, _, _, _, _, rfl⟩ := h
  exact e
theorem fam_cal {f : Str} {s : Stmt} {ps : List Str} {sp : PySem.W.Frag → Sp} {m : Nat} (h : Fam X scope X') (c : Cal X.prog X.w X.K X.mg X.base m f s ps (sp X.K)) : Cal X'.prog X'.w X'.K X'.mg X'.base m f s ps (sp X'.K) := by
  obtain ⟨_, _, _, _, _, rfl⟩ := h
  exact c
theorem fam_scope (h : Fam X scope X') : X'.env.scope = relS scope X.env.scope := by
  obtain ⟨_, _, _, _, _, rfl⟩ := h
  rfl
/-- a stored comprehension -/
theorem sw_ok {elt : Expr} {gs : List Comprehension} {l : Nat} {py : Pos} {env : Env} (hk : (match env.scope.kind with | .function => true | _ => false) = true) (hy : env.scope.names.lookup y = some .local) (hl : (py.line == pos.line) = true)
    (ha : (scope.names.any fun q => q.1 == y && (q.2 == .local || q.2 == .cell)) = false) : swapsWith (.ListComp elt gs scope pos) (some (.Name y py)) l env = pure true := by
  refine sw_true ?_ hy hl ha
  split at hk
  · assumption
  · cases hk

/-! ### == of what may be read as data -/
def RdX (X : Cx) (φ : VP) (os : Os) (d : PyData) : Prop := d.hasDict = false → ∀ F H v, Ow F os H → Cl φ F v → Dp X.K H v d
theorem rdx_dat {d : PyData} : RdX X (dat d) os d := fun z F H v ow c => dq_dp _ _ _ z (dq_mono ow.ex _ _ c.now)
theorem rdx_own {q : Addr} {ds : List PyData} (m : Nat) (h : os[m]? = some (q, ol ds)) : RdX X (own q) os (.list ds) := fun z F H v ow c => by
  obtain ⟨_, vs, ho, hv⟩ := (ow.perm (perm_at h)).atL
  obtain rfl : v = .ref q := c.now
  exact .lst (.of ho) (dqall_dp _ _ _ (by simpa [PyData.hasDict] using z) (dqall_mono ow.ex _ _ hv))
theorem r2_eqR {d d' : PyData} {t : Bool} (r1 : RdX X φ os d) (r2 : RdX X ψ os d') (h1 : SeqAt.shaped d = true) (h2 : SeqAt.shaped d' = true) (hk : PyData.eqv d d' = t) : R2X X (rEqD X.K) φ ψ os (dat (.bool t)) := fun F H x y Q ow cx cy q =>
  ⟨d, d', r1 (shaped_lay h1) F H x ow cx, r2 (shaped_lay h2) F H y ow cy, h1, h2, by rw [hk]; exact q F H _ (Same.refl F) ow (cl_dat (.bl _))⟩
theorem r2_neR {d d' : PyData} {t : Bool} (r1 : RdX X φ os d) (r2 : RdX X ψ os d') (h1 : SeqAt.shaped d = true) (h2 : SeqAt.shaped d' = true) (hk : (!PyData.eqv d d') = t) : R2X X (rNeD X.K) φ ψ os (dat (.bool t)) := fun F H x y Q ow cx cy q =>
  ⟨d, d', r1 (shaped_lay h1) F H x ow cx, r2 (shaped_lay h2) F H y ow cy, h1, h2, by rw [hk]; exact q F H _ (Same.refl F) ow (cl_dat (.bl _))⟩
section
variable [DecidableEq α] {e : α → PyData} {m : Nat} {x y : α}
theorem ex_eqR (B : Bd X N W G k) (h : EqvOk e) (s : ShOk e m) (hn : m ≤ 64) (r1 : RdX X φ os2 (e x)) (r2 : RdX X ψ os2 (e y)) (ha : EX X es os a φ os1) (hb : EX X es os1 b ψ os2) : EX X es os (.Compare a [.Eq] [b] pos) (dat (.bool (decide (x = y)))) os2 :=
  ex_cmp (op_eqD B.room.units) (r2_eqR r1 r2 (s.shaped hn x) (s.shaped hn y) (h x y)) (nomark _) ha hb
theorem ex_neR (B : Bd X N W G k) (h : EqvOk e) (s : ShOk e m) (hn : m ≤ 64) (r1 : RdX X φ os2 (e x)) (r2 : RdX X ψ os2 (e y)) (ha : EX X es os a φ os1) (hb : EX X es os1 b ψ os2) : EX X es os (.Compare a [.NotEq] [b] pos) (dat (.bool (!decide (x = y)))) os2 :=
  ex_cmp (op_neD B.room.units) (r2_neR r1 r2 (s.shaped hn x) (s.shaped hn y) (by rw [h x y])) (nomark _) ha hb
theorem tx_eqR (B : Bd X N W G k) (h : EqvOk e) (s : ShOk e m) (hn : m ≤ 64) (r1 : RdX X φ os2 (e x)) (r2 : RdX X ψ os2 (e y)) (ha : EX X es os a φ os1) (hb : EX X es os1 b ψ os2) : TX X es os (.Compare a [.Eq] [b] pos) (decide (x = y)) os2 :=
  tx_cmp (op_eqD B.room.units) (r2_eqR r1 r2 (s.shaped hn x) (s.shaped hn y) (h x y)) (nomark _) ha hb
theorem tx_neR (B : Bd X N W G k) (h : EqvOk e) (s : ShOk e m) (hn : m ≤ 64) (r1 : RdX X φ os2 (e x)) (r2 : RdX X ψ os2 (e y)) (ha : EX X es os a φ os1) (hb : EX X es os1 b ψ os2) : TX X es os (.Compare a [.NotEq] [b] pos) (!decide (x = y)) os2 :=
  tx_cmp (op_neD B.room.units) (r2_neR r1 r2 (s.shaped hn x) (s.shaped hn y) (by rw [h x y])) (nomark _) ha hb
end
theorem r2_isB {s t : Bool} : R2X X rIsB (dat (.bool s)) (dat (.bool t)) os (dat (.bool (decide (s = t)))) := fun F H x y Q ow cx cy q =>
  ⟨s, t, clv_bool cx, clv_bool cy, q F H _ (Same.refl F) ow (cl_dat (.bl _))⟩
theorem r2_notB {s t : Bool} : R2X X rNotB (dat (.bool s)) (dat (.bool t)) os (dat (.bool (!decide (s = t)))) := fun F H x y Q ow cx cy q =>
  ⟨s, t, clv_bool cx, clv_bool cy, q F H _ (Same.refl F) ow (cl_dat (.bl _))⟩
/-! ### in, of ints -/
theorem inV_ints (i : Int) : ∀ xs : List Int, inV (.int i) (xs.map L2.V.int) = xs.contains i
  | [] => rfl
  | x :: xs => by
    have ih := inV_ints i xs
    unfold inV at ih ⊢
    rw [List.map_cons, List.any_cons, ih, List.contains_cons]
    have e : eqV (.int x) (.int i) = (x == i) := by simp [eqV]
    rw [e, Bool.beq_comm]
theorem flat_ints : ∀ xs : List Int, (xs.map L2.V.int).all flatV = true
  | [] => rfl
  | x :: xs => by
    rw [List.map_cons, List.all_cons, flat_ints xs]
    rfl
theorem r2_inT {i : Int} {xs : List Int} (hr : RdT ψ (xs.map PyData.int)) : R2X X (rIn X.K false) (dat (.int i)) ψ os (dat (.bool (xs.contains i))) := fun F H x y Q ow cx cy q => by
  obtain ⟨p, vs, rfl, h1, h2⟩ := hr F y cy
  have ev := dqall_of_ints xs h2
  subst ev
  rw [clv_int cx]
  exact ⟨p, _, rfl, .inr (.of (ow.ex _ _ h1)), rfl, flat_ints xs, by rw [inV_ints]; exact q F H _ (Same.refl F) ow (cl_dat (.bl _))⟩
theorem r2_ninT {i : Int} {xs : List Int} (hr : RdT ψ (xs.map PyData.int)) : R2X X (rIn X.K true) (dat (.int i)) ψ os (dat (.bool (!xs.contains i))) := fun F H x y Q ow cx cy q => by
  obtain ⟨p, vs, rfl, h1, h2⟩ := hr F y cy
  have ev := dqall_of_ints xs h2
  subst ev
  rw [clv_int cx]
  exact ⟨p, _, rfl, .inr (.of (ow.ex _ _ h1)), rfl, flat_ints xs, by rw [inV_ints]; exact q F H _ (Same.refl F) ow (cl_dat (.bl _))⟩
theorem r2_inL {i : Int} {xs : List Int} (hr : RdL X ψ os (xs.map PyData.int)) : R2X X (rIn X.K false) (dat (.int i)) ψ os (dat (.bool (xs.contains i))) := fun F H x y Q ow cx cy q => by
  obtain ⟨p, vs, rfl, h1, h2⟩ := hr F H y ow cy
  have ev := dqall_of_ints xs h2
  subst ev
  rw [clv_int cx]
  exact ⟨p, _, rfl, .inl h1, rfl, flat_ints xs, by rw [inV_ints]; exact q F H _ (Same.refl F) ow (cl_dat (.bl _))⟩
theorem r2_ninL {i : Int} {xs : List Int} (hr : RdL X ψ os (xs.map PyData.int)) : R2X X (rIn X.K true) (dat (.int i)) ψ os (dat (.bool (!xs.contains i))) := fun F H x y Q ow cx cy q => by
  obtain ⟨p, vs, rfl, h1, h2⟩ := hr F H y ow cy
  have ev := dqall_of_ints xs h2
  subst ev
  rw [clv_int cx]
  exact ⟨p, _, rfl, .inl h1, rfl, flat_ints xs, by rw [inV_ints]; exact q F H _ (Same.refl F) ow (cl_dat (.bl _))⟩
/-! ### list * int -/
def repO {α : Type} (xs : List α) (m : Int) : Option (List α) := if -(2 ^ 63) ≤ m ∧ m < 2 ^ 63 ∧ xs.length * m.toNat ≤ sizeLine then some (List.replicate m.toNat xs).flatten else none
theorem dqall_rep {F : Hp} {ds : List PyData} {vs : List L2.V} (h : DqAll F vs ds) : ∀ m : Nat, DqAll F (List.replicate m vs).flatten (List.replicate m ds).flatten
  | 0 => .nil
  | m + 1 => by
    rw [List.replicate_succ, List.replicate_succ, List.flatten_cons, List.flatten_cons]
    exact dqall_app h (dqall_rep h m)
theorem map_rep {α β : Type} (f : α → β) (xs : List α) : ∀ m : Nat, (List.replicate m (xs.map f)).flatten = ((List.replicate m xs).flatten).map f
  | 0 => rfl
  | m + 1 => by rw [List.replicate_succ, List.replicate_succ, List.flatten_cons, List.flatten_cons, map_rep f xs m, List.map_append]
theorem en_rep {enc : α → PyData} {xs ys : List α} {m : Int} (h : repO xs m = some ys) (ha : EX X es os a (dat (.list (xs.map enc))) os1) (hb : EX X es os1 b (dat (.int m)) os2) : EN X es os (.BinOp a .Mult b pos) (ol (ys.map enc)) os2 := fun F σ H Q ow sl q => by
  unfold repO at h
  split at h
  · rename_i hl
    cases h
    refine we_of (pe_op op_rep pe_u pe_u) (ha F σ H _ ow sl fun F1 H1 v e1 o1 c1 => hb F1 σ H1 _ o1 (sl.mono e1) fun F2 H2 u e2 o2 c2 => ?_)
    obtain ⟨p, vs, rfl, h1, h2⟩ := dat_list o2 (c1.mono e2)
    refine ⟨p, m, vs, rfl, clv_int c2, h1, hl.1, hl.2.1, by rw [dqall_len h2, List.length_map]; exact hl.2.2, fun r hr => ?_⟩
    refine q F2 _ r (e1.trans e2) (o2.new hr fun G g => ⟨_, rfl, ?_⟩)
    rw [← map_rep]
    exact dqall_mono g _ _ (dqall_rep h2 _)
  · cases h
/-! ### list(range(..)), tuple(range(..)) -/
def rgO (a b : Int) : Option (List Int) := if -(2 ^ 62) ≤ a ∧ a < 2 ^ 62 ∧ -(2 ^ 62) ≤ b ∧ b < 2 ^ 62 ∧ (b - a).toNat ≤ 2 ^ 24 then some (range' a b) else none
theorem rgV_map (a b : Int) : rgV a b = (range' a b).map L2.V.int := by
  unfold rgV range'
  rw [List.map_map]
  rfl
theorem en_rgL1 {b : Int} {xs : List Int} (B : Bd X N W G k) (hj : G[gi]? = some "list") (hj2 : G[gj]? = some "range") (hm : X.mg "list" = none) (hm2 : X.mg "range" = none) (hr : rgO 0 b = some xs) (ha : EX X es os e (dat (.int b)) os1) {p2 pos2 : Pos}
    (na : starEach [(.Call (.Name "range" p2) [e] [] pos2)] X.env = (false, eval (.Call (.Name "range" p2) [e] [] pos2) X.env) :: starEach [] X.env := by rfl) (nb : starEach [e] X.env = (false, eval e X.env) :: starEach [] X.env := by rfl) :
    EN X es os (.Call (.Name "list" p) [.Call (.Name "range" p2) [e] [] pos2] [] pos) (ol (xs.map PyData.int)) os1 := fun F σ H Q ow sl q => by
  unfold rgO at hr
  split at hr
  · rename_i hl
    cases hr
    refine we_of (pe_listRg B.calm (B.gl _ (List.mem_of_getElem? hj)).1 hm (prg_1 (B.gl _ (List.mem_of_getElem? hj2)).1 hm2 pe_u nb) na) (ha F σ H _ ow sl fun F1 H1 v e1 o1 c1 => ⟨b, clv_int c1, hl, fun r hr => ?_⟩)
    rw [rgV_map]
    exact q F1 _ r e1 (o1.new hr fun G g => ⟨_, rfl, dqall_ints _⟩)
  · cases hr
theorem en_rgL2 {lo b : Int} {xs : List Int} (B : Bd X N W G k) (hj : G[gi]? = some "list") (hj2 : G[gj]? = some "range") (hm : X.mg "list" = none) (hm2 : X.mg "range" = none) (hr : rgO lo b = some xs) (ha : EX X es os e (dat (.int lo)) os1) (hb : EX X es os1 e2 (dat (.int b)) os2) {p2 pos2 : Pos}
    (na : starEach [(.Call (.Name "range" p2) [e, e2] [] pos2)] X.env = (false, eval (.Call (.Name "range" p2) [e, e2] [] pos2) X.env) :: starEach [] X.env := by rfl) (nb : starEach [e, e2] X.env = (false, eval e X.env) :: starEach [e2] X.env := by rfl) (nc : starEach [e2] X.env = (false, eval e2 X.env) :: starEach [] X.env := by rfl)
    (hpp : (backTo pos2 (starEach [e2] X.env)).any (·.1) = false := by rfl) : EN X es os (.Call (.Name "list" p) [.Call (.Name "range" p2) [e, e2] [] pos2] [] pos) (ol (xs.map PyData.int)) os2 := fun F σ H Q ow sl q => by
  unfold rgO at hr
  split at hr
  · rename_i hl
    cases hr
    refine we_of (pe_listRg B.calm (B.gl _ (List.mem_of_getElem? hj)).1 hm (prg_2 (B.gl _ (List.mem_of_getElem? hj2)).1 hm2 pe_u pe_u nb nc hpp) na) (ha F σ H _ ow sl fun F1 H1 v e1 o1 c1 => hb F1 σ H1 _ o1 (sl.mono e1) fun F2 H2 u e2 o2 c2 => ⟨lo, b, clv_int c1, clv_int c2, hl, fun r hr => ?_⟩)
    rw [rgV_map]
    exact q F2 _ r (e1.trans e2) (o2.new hr fun G g => ⟨_, rfl, dqall_ints _⟩)
  · cases hr
/-! ### comprehensions, ready to use -/
section
variable {S : Type} {elt iter : Expr} {ifs : List Expr} {xs : List α} {vp : α → VP} {enc : β → PyData} {s0 : S} {os0 : Os} {ys : List β} {sf : S} {tpos : Pos} {cc : Os → Prop}
theorem lc_mk1 {c : Os → Prop} (f : S → α → Option (Option β × S)) (OS : S → Os → Os) (s0 : S) (ys : List β) (sf : S) (B : Bd X N W G k) (hj : N[j]? = some x) (hun : (es[j]? = some un)) (hblk : blkC X.N X.env.scope scope [(x, j)] = true) (hown : ownB scope X.env.scope x = true) (hif : ifs.length ≤ 1)
    (hl : xs.length < sizeLine ∧ lcS f xs s0 = some (ys, sf)) (hi : IX X (.Name x tpos) es os iter xs vp c (OS s0 os0)) (hc : ∀ s tl, c (OS s tl)) (hperm : ∀ s q tl, (OS s (q :: tl)).Perm (q :: OS s tl))
    (hb : ∀ s x t tl, x ∈ xs → f s x = some t → ∃ b os1, ∀ X', Fam X scope X' → PTX X' (es.set j (sl (vp x))) (OS s tl) ifs b os1 ∧ (b = true → ∃ y, t.1 = some y ∧ EX X' (es.set j (sl (vp x))) os1 elt (dat (enc y)) (OS t.2 tl)) ∧ (b = false → t.1 = none ∧ os1 = OS t.2 tl)) :
    LcOk X es os (.Name x tpos) iter elt ifs scope [(x, j)] xs vp c (gName j) (fun x es => es.set j (sl (vp x))) enc f OS s0 os0 ys sf where
  calm := B.calm
  nd := B.hN ▸ B.nd
  ok := blkOk_by hblk
  pg := fun X' hX => pg_own hX B hj hown
  hv := fun m hm => by
    have e : m = j := by simpa using hm
    rw [e]
    exact hun
  hid := lc_id1
  hg := fun x F σ H v Q os2 sl hw ow c q => lc_gname x F σ H v Q os2 sl hw ow c q
  hif := hif
  hl := hl.2
  hz := hl.1
  hi := hi
  hc := hc
  hperm := hperm
  hb := hb
end
end
end Z
/-! Z, part L: None, more. -/
namespace Z
open PySem PySem.Spec PyProof.Rows L2
theorem elimL {α β γ : Type} {f : α → Option γ} {g : β → Option γ} {x : α} {c : Option γ} (h : Sum.elim f g (.inl x) = c) : f x = c := h
theorem elimR {α β γ : Type} {f : α → Option γ} {g : β → Option γ} {x : β} {c : Option γ} (h : Sum.elim f g (.inr x) = c) : g x = c := h
theorem len_ok {ds : List PyData} {n : Nat} (h : ds.length = n) (h2 : n ≤ sizeLine := by decide +kernel) : ds.length ≤ sizeLine := h ▸ h2
section
variable {X : Cx} {os : Os}
def noneB : PyData → Bool
  | .none => true
  | _ => false
theorem dq_none {F : Hp} : ∀ {v : L2.V} {d : PyData}, Dq F v d → decide (v = .non) = noneB d
  | _, _, .non => rfl
  | _, _, .bl _ => by simp [noneB]
  | _, _, .int _ => by simp [noneB]
  | _, _, .str _ => by simp [noneB]
  | _, _, .lst _ _ => by simp [noneB]
  | _, _, .tup _ _ => by simp [noneB]
  | _, _, .dctK _ _ _ => by simp [noneB]
  | _, _, .dctT _ _ _ => by simp [noneB]
theorem r2_isN {d : PyData} {t : Bool} (h : noneB d = t) : R2X X (fun x y H Q => y = .non ∧ Q (.bl (decide (x = .non))) H) (dat d) (dat .none) os (dat (.bool t)) := fun F H x y Q ow cx cy q =>
  ⟨by have := cy.now; cases this; rfl, by rw [dq_none cx.now, h]; exact q F H _ (Same.refl F) ow (cl_dat (.bl _))⟩
theorem r2_notN {d : PyData} {t : Bool} (h : (!noneB d) = t) : R2X X (fun x y H Q => y = .non ∧ Q (.bl (!decide (x = .non))) H) (dat d) (dat .none) os (dat (.bool t)) := fun F H x y Q ow cx cy q =>
  ⟨by have := cy.now; cases this; rfl, by rw [dq_none cx.now, h]; exact q F H _ (Same.refl F) ow (cl_dat (.bl _))⟩
end
theorem Ow.suf {F H : Hp} {rest : Os} : ∀ {l : Os}, Ow F (l ++ rest) H → Ow F rest H
  | [], h => h
  | _ :: l, h => Ow.suf (l := l) h.drop
section
variable {X : Cx} {es : List Slot} {os os1 rest : Os} {N V G : List Str} {k j : Nat} {x : Str} {p pos : Pos} {e : Expr} {st : Stmt} {pn : List Str} {α β : Type} {ps : α → List VP} {pre : α → Os} {m : α → Option β} {res : α → β → VP} {post : α → β → Os} {n : Ent} {gi : Nat} {φ : VP}
/-- a call whose one argument is a list made for it -/
theorem ex_calln {a : Addr → α} {b : β} (B : Bd X N V G k) (hj : G[gi]? = some x) (c : Cal X.prog X.w X.K X.mg X.base j x st pn (spZ ps pre m res post)) (hl : j ≤ k) (hm : ∀ q, m (a q) = some b) (ha : EN X es os e n rest)
    (hps : ∀ q, ps (a q) = [own q]) (hpre : ∀ q, pre (a q) = [(q, n)]) (hres : ∀ q, res (a q) b = φ)
    (he : starEach [e] X.env = (false, eval e X.env) :: starEach [] X.env := by rfl) (hpl : (backTo pos (starEach [] X.env)).any (·.1) = false := by rfl) : EX X es os (.Call (.Name x p) [e] [] pos) φ rest := fun F σ H Q ow sl q =>
  let ⟨u, v⟩ := B.gl x (List.mem_of_getElem? hj)
  we_of (pe_g (c.mono hl) B.gd B.room u (pa_cons (hs := he) pe_u pa_nil) (dun_d v) he hpl) (ha F σ H _ ow sl fun F1 H1 r e1 o1 => ⟨a r, b, F1, rest, by rw [hps]; exact ⟨_, [], rfl, cl_own, rfl⟩, by rw [hpre]; exact o1, hm r, fun F2 H2 v e2 o2 c2 => q F2 H2 v (e1.trans e2) o2.suf (hres r ▸ c2)⟩)
end
end Z
/-! Z, part M: tuples turned about and told again and again; comprehensions of parts that may fail. -/
namespace Z
open PySem PySem.Spec PyProof.Rows L2 HT
section
variable {prog : Program} {w : World} {A : Around} {E : Value → Shared → Prop} {s : Shared}
theorem places_rev (n : Nat) : Builtin.Slice.slicePlaces ((n : Int) - 1) (-1) (-1) = n := by
  unfold Builtin.Slice.slicePlaces
  have z1 : ¬ ((-1 : Int) > 0) := by omega
  have z2 : (-(-1) : Int) = 1 := by omega
  simp only [z1, if_false, z2, Int.ediv_one]
  split <;> omega
theorem applied_rev {q : Addr} {vs : Value} {n : Nat} {Q : Int × Int × Nat → Shared → Prop} (hs : s.heap.IsSliceOf q .none .none vs) (ps : IsPart vs (some (-1)))
    (h : Q ((n : Int) - 1, -1, n) s) : wpAny (model prog w) A (Builtin.Slice.sliceApplied (.ref q) (pure (n : Int))) Q E s := by
  obtain ⟨o, h1, h2, h3⟩ := id hs
  unfold Builtin.Slice.sliceApplied Builtin.Slice.sliceFields
  refine wpAny_bind (wpAny_bind (wpAny_field h1 h3 (x := Value.none) rfl (wpAny_bind (wpAny_field h1 h3 (x := Value.none) rfl (wpAny_bind (wpAny_field h1 h3 (x := vs) rfl (wpAny_pure ?_)))))))
  refine wpAny_bind (slicePart_ ps ?_)
  show wpAny _ _ (if ((-1 : Int) == 0) = true then _ else _) _ _ s
  rw [if_neg (show ¬ ((-1 : Int) == 0) = true by decide)]
  refine wpAny_bind (slicePart_none (wpAny_bind (slicePart_none (wpAny_bind (wpAny_pure ?_)))))
  show wpAny _ _ (pure ((n : Int) - 1, (-1 : Int), Builtin.Slice.slicePlaces ((n : Int) - 1) (-1) (-1))) _ _ s
  rw [places_rev]
  exact wpAny_pure h
theorem fm_all (l : List Value) : ∀ m : Nat, m ≤ l.length → ((List.range m).filterMap fun k : Nat => l[m - 1 - k]?) = (l.take m).reverse
  | 0, _ => rfl
  | m + 1, hm => by
    have ih := fm_all l m (by omega)
    rw [List.range_succ_eq_map, List.filterMap_cons, List.filterMap_map]
    have e0 : l[m + 1 - 1 - 0]? = some l[m] := by
      rw [show m + 1 - 1 - 0 = m by omega]
      exact List.getElem?_eq_getElem (by omega)
    rw [e0]
    have e1 : ((fun k : Nat => l[m + 1 - 1 - k]?) ∘ Nat.succ) = fun k : Nat => l[m - 1 - k]? := by
      funext k
      show l[m + 1 - 1 - (k + 1)]? = _
      rw [show m + 1 - 1 - (k + 1) = m - 1 - k by omega]
    rw [e1, ih]
    rw [List.take_succ_eq_append_getElem (by omega), List.reverse_append]
    rfl
theorem fm_congr {α β : Type} {f g : α → Option β} : ∀ {l : List α}, (∀ x ∈ l, f x = g x) → l.filterMap f = l.filterMap g
  | [], _ => rfl
  | x :: l, h => by rw [List.filterMap_cons, List.filterMap_cons, h x List.mem_cons_self, fm_congr fun y hy => h y (List.mem_cons_of_mem _ hy)]
theorem pick_rev (xs : Array Value) : ((List.range xs.size).filterMap fun (k : Nat) => xs[(((xs.size : Int) - 1) + (k : Int) * (-1)).toNat]?).toArray = xs.toList.reverse.toArray := by
  have key : ((List.range xs.size).filterMap fun (k : Nat) => xs[(((xs.size : Int) - 1) + (k : Int) * (-1)).toNat]?) = ((List.range xs.size).filterMap fun k : Nat => xs.toList[xs.size - 1 - k]?) := by
    refine fm_congr fun k hk => ?_
    have := List.mem_range.mp hk
    rw [show (((xs.size : Int) - 1) + (k : Int) * (-1)).toNat = xs.size - 1 - k by omega, Array.getElem?_toList]
  rw [key, fm_all xs.toList xs.size (by simp), List.take_of_length_le (by simp)]
theorem item_rev {t q : Addr} {its : Array Value} {vs : Value} {Q : Value → Shared → Prop} (ht : IsTup s.heap t its) (hs : s.heap.IsSliceOf q .none .none vs) (ps : IsPart vs (some (-1)))
    (h : Q (.ref s.heap.objs.size) { s with heap := s.heap.push { cls := .type "tuple", data := .seq its.toList.reverse.toArray } }) (hz : its.size ≤ sizeLine) : wpAny (model prog w) A (getItem (.ref t) (.ref q)) Q E s := by
  have fits : sizeOk (.seq its.toList.reverse.toArray) := by
    show its.toList.reverse.toArray.size ≤ sizeLine
    rw [List.size_toArray, List.length_reverse, Array.length_toList]
    exact hz
  obtain ⟨o, h1, h2, h3⟩ := id hs
  have tq : s.TypeIs (.ref q) "slice" := ⟨o, h1, h2⟩
  unfold getItem
  try with_reducible refine wpAny_holding ?_
  first | refine wpAny_bind (wpAny_pure ?_) | skip
  refine wpAny_bind (wpAny_sequenceKey (IsTup.typeIs ht) (by decide) ?_)
  refine wpAny_bind (wpAny_callSpecial?_slot (name := Str.ofString "__getitem__") (IsTup.typeIs ht) PyProof.Rows.slot_tuple_getitem (wpAny_call_entry PyProof.Rows.slot_tuple_getitem (IsTup.typeIs ht) entry_tuple_getitem ?_ (args_tuple_getitem _ _)))
  show wpAny _ _ (Builtin.Tuple.tupleItemsOf (.ref t) >>= _) _ _ s
  refine wpAny_bind (tupleItemsOf_ ht (wpAny_bind (wpAny_typeOf tq ?_)))
  rw [if_pos (by decide)]
  refine wpAny_bind (applied_rev hs ps ?_)
  have hno : ¬ ((((its.size : Int) - 1) == 0 && (-1 : Int) == 1 && its.size == its.size) = true) := by
    intro z
    rw [Bool.and_eq_true, Bool.and_eq_true] at z
    exact absurd (eq_of_beq z.1.2) (by decide)
  show wpAny _ _ (if (((its.size : Int) - 1) == 0 && (-1 : Int) == 1 && its.size == its.size) = true then _ else _) _ _ s
  rw [if_neg hno, pick_rev]
  exact wpAny_bind (m := Builtin.Tuple.tupleExact _) (wpAny_newObj_type (wpAny_pure ⟨_, rfl, wpAny_pure h⟩) fits)
end
def tRevT (K : PySem.W.Frag) (te : TE) : TE := fun σ H Q => te σ H fun x H1 => ∃ a xs, x = .ref a ∧ SqT K H1 a xs ∧ ∀ p, H1 p = none → Q (.ref p) (upd H1 p (.tup xs.reverse))
section
variable {X : Cx}
theorem pe_revT {e : Expr} {te : TE} {k : Nat} {p1 p2 p3 pos : Pos} (he : PE X e te) : PE X (.Subscript e (.Slice none none (some (.UnaryOp .USub (.Constant (.int 1) k p1) p2)) p3) pos) (tRevT X.K te) := by
  refine ⟨fun pins s σ H Q I h => Subscript_ (thn (he.run pins s σ H _ I h) fun v s1 ⟨x, H1, I1, r1, q1⟩ => ?_)⟩
  obtain ⟨a, xs, rfl, hx, q⟩ := q1
  cases r1
  have hst : PO X (some (.UnaryOp .USub (.Constant (.int 1) k p1) p2)) (tPart (tUn (rU fun i => .int (-i)) (tC (.int 1)))) := po_some (pe_un un_neg pe_int)
  refine wpAny_Slice (thn (po_none.run pins s1 σ H1 (fun o Hx => o = none ∧ Hx = H1) I1 ⟨rfl, rfl⟩) fun vl s2 ⟨l, H2, I2, pl, u1, u2⟩ => ?_)
  subst u1 u2
  refine thn (po_none.run pins s2 σ H2 (fun o Hx => o = none ∧ Hx = H2) I2 ⟨rfl, rfl⟩) fun vu s3 ⟨u, H3, I3, pu, u1, u2⟩ => ?_
  subst u1 u2
  refine thn (hst.run pins s3 σ H3 (fun o Hx => o = some (-1) ∧ Hx = H3) I3 ⟨1, rfl, -1, rfl, rfl, rfl⟩) fun vs s4 ⟨o, H4, I4, ps, u1, u2⟩ => ?_
  subst u1 u2
  cases pl
  cases pu
  have J : Inv X pins σ H4 { s4 with heap := s4.heap.push { cls := .type "slice", data := .fields #[.none, .none, vs] } } := I4.kept (t' := s4.toks) fun b ob z => Heap.get?_push_of_some _ z
  obtain ⟨its, r, ht, hz⟩ := J.tuple hx
  have hlen := r.length
  show wpAny (model X.prog X.w) X.A (subscriptTail e (.Slice none none (some (.UnaryOp .USub (.Constant (.int 1) k p1) p2)) p3) (.ref a) (.ref s4.heap.objs.size)) (EP X pins σ Q) X.xe { s4 with heap := s4.heap.push { cls := .type "slice", data := .fields #[.none, .none, vs] } }
  refine tail_any (ops := [.ref a, .ref s4.heap.objs.size]) (IsTup.typeIs ht) PyProof.Rows.slot_tuple_getitem.lookup ?_ (by with_unfolding_all rfl)
  refine item_rev ht (Heap.IsSliceOf.new _ Value.none Value.none vs) ps ?_ (by rw [List.size_toArray]; omega)
  refine ⟨.ref _, _, J.laid (t' := s4.toks) (o := .tup xs.reverse) (fun b ob z => Heap.get?_push_of_some _ z) (Nat.le_refl _) ?_, rfl, q _ (J.hok.fresh (Nat.le_refl _))⟩
  exact ⟨by rw [List.length_reverse]; exact hz, _, r.reverse, IsTup.new _ _⟩
end
section
variable {X : Cx} {es : List Slot} {os os1 os2 : Os} {pos : Pos} {a b : Expr} {φ : VP}
theorem ex_revT {α : Type} {enc : α → PyData} {xs : List α} {kk : Nat} {p1 p2 p3 : Pos} (hr : RdT φ (xs.map enc)) (ha : EX X es os a φ os1) : EX X es os (.Subscript a (.Slice none none (some (.UnaryOp .USub (.Constant (.int 1) kk p1) p2)) p3) pos) (dat (.tuple (xs.reverse.map enc))) os1 := fun F σ H Q ow sl q =>
  we_of (pe_revT pe_u) (ha F σ H _ ow sl fun F1 H1 v e1 o1 c1 => by
    obtain ⟨p, vs, rfl, h1, h2⟩ := hr F1 v c1
    refine ⟨p, vs, rfl, .of (o1.ex _ _ h1), fun m hm => ?_⟩
    have fp := o1.ex.free hm
    have hd := dqall_rev h2
    rw [← List.map_reverse] at hd
    exact q _ _ _ (e1.trans (same_upd fp)) (o1.frozen hm) (cl_dat (.tup upd_same (dqall_mono (same_upd fp) _ _ hd))))
end
/-! ### comprehensions of parts that may fail -/
def mapG {α β : Type} (f : α → Option (Option β)) : List α → Option (List β)
  | [] => some []
  | x :: xs => (f x).bind fun y => (mapG f xs).bind fun ys => some (y.toList ++ ys)
def lcG {α β : Type} (f : α → Option (Option β)) (xs : List α) : Option (List β) := if xs.length < sizeLine then mapG f xs else none
theorem lcS_mapG {α β : Type} (f : α → Option (Option β)) : ∀ (xs : List α) (ys : List β), mapG f xs = some ys → lcS (fun (_ : Unit) x => (f x).map fun y => (y, ())) xs () = some (ys, ())
  | [], ys, h => by
    cases h
    rfl
  | x :: xs, ys, h => by
    unfold mapG at h
    obtain ⟨y, h1, h2⟩ := bnd h
    obtain ⟨zs, h3, h4⟩ := bnd h2
    obtain rfl := som h4
    unfold lcS
    rw [h1]
    show ((lcS _ xs ()).bind fun u => some (y.toList ++ u.1, u.2)) = _
    rw [lcS_mapG f xs zs h3]
    rfl
theorem lcG_ok {α β : Type} {f : α → Option (Option β)} {xs : List α} {ys : List β} (h : lcG f xs = some ys) : xs.length < sizeLine ∧ lcS (fun (_ : Unit) x => (f x).map fun y => (y, ())) xs () = some (ys, ()) := by
  unfold lcG at h
  split at h
  · rename_i hl
    exact ⟨hl, lcS_mapG f xs ys h⟩
  · cases h
end Z
set_option maxHeartbeats 4000000
/-! Z, part N: tuple * int at every count. -/
namespace Z
open PySem PySem.Spec PyProof.Rows L2
theorem mul_same (l : Addr) (items : Array Value) (n : Nat) (dd : Option Addr) (sl : Array (Option Value)) (x : Int) (u : Tok) (c0 : (decide (x < -(2 ^ 63)) || decide (x ≥ 2 ^ 63)) = false) (c1 : (items.isEmpty || x == 1) = true) :
    Meets (Builtin.«tuple.__mul__» ⟨[.ref l, .int x u], []⟩) (fun _ R s => s.heap.get? l = some { cls := .type "tuple", dict := dd, data := .seq items n, slots := sl } ∧ R (.ok (.ret (.ref l))) s) :=
  .of_wp fun prog w A R s h => by
    obtain ⟨hp, g, d, tk, os⟩ := s
    obtain ⟨hl, h⟩ := h
    have f1 := AutoSeq1.idx_int
    wp_walk using wpAny_loadPart' hl
    repeat (first
      | (refine wpAny_ite_false (decide_eq_false (by rw [c0]; exact Bool.false_ne_true)) ?_; wp_walk using wpAny_loadPart' hl)
      | (refine wpAny_ite_true (decide_eq_true (by rw [c1])) ?_; wp_walk using wpAny_loadPart' hl))
    exact ⟨_, rfl, h⟩
theorem mul_none (l : Addr) (items : Array Value) (n : Nat) (dd : Option Addr) (sl : Array (Option Value)) (x : Int) (u : Tok) (c0 : (decide (x < -(2 ^ 63)) || decide (x ≥ 2 ^ 63)) = false) (c1 : (items.isEmpty || x == 1) = false) (c2 : (decide (x ≤ 0) || items.isEmpty) = true) :
    Meets (Builtin.«tuple.__mul__» ⟨[.ref l, .int x u], []⟩) (fun _ R s => s.heap.get? l = some { cls := .type "tuple", dict := dd, data := .seq items n, slots := sl } ∧
      R (.ok (.ret (Value.ref s.heap.objs.size))) { s with heap := s.heap.push { cls := Value.type "tuple", data := Data.seq #[] }, toks := s.toks }) :=
  .of_wp fun prog w A R s h => by
    obtain ⟨hp, g, d, tk, os⟩ := s
    obtain ⟨hl, h⟩ := h
    have f1 := AutoSeq1.idx_int
    wp_walk using wpAny_loadPart' hl
    repeat (first
      | (refine wpAny_ite_false (decide_eq_false (by rw [c0]; exact Bool.false_ne_true)) ?_; wp_walk using wpAny_loadPart' hl)
      | (refine wpAny_ite_false (decide_eq_false (by rw [c1]; exact Bool.false_ne_true)) ?_; wp_walk using wpAny_loadPart' hl)
      | (refine wpAny_ite_true (decide_eq_true (by rw [c2])) ?_; wp_walk using wpAny_loadPart' hl))
    exact ⟨_, rfl, h⟩
/-- a tuple, so many times behind one another -/
def rRepA (K : PySem.W.Frag) : R2 := fun x y H Q => ∃ l k xs, x = .ref l ∧ y = .int k ∧ SqT K H l xs ∧ -(2 ^ 63) ≤ k ∧ k < 2 ^ 63 ∧ ((xs = [] ∨ k = 1) → Q (.ref l) H) ∧ (xs ≠ [] → k ≤ 0 → ∀ p, H p = none → Q (.ref p) (upd H p (.tup []))) ∧
  (xs ≠ [] → 2 ≤ k → k ≤ 1000 ∧ xs.length ≤ 1000 ∧ ∀ p, H p = none → Q (.ref p) (upd H p (.tup (List.replicate k.toNat xs).flatten)))
section
variable {X : Cx}
theorem op_repA : OpR X (binaryOp .Mult) (rRepA X.K) := by
  intro pins s σ H x y v u Q I rx ry h
  obtain ⟨l, k, xs, rfl, rfl, hT, k0, k1, qa, qb, qc⟩ := h
  by_cases hbig : xs ≠ [] ∧ 2 ≤ k
  · obtain ⟨g1, g2, g3⟩ := qc hbig.1 hbig.2
    exact op_repT pins s σ H _ _ v u Q I rx ry ⟨l, k, xs, rfl, rfl, hT, hbig.1, hbig.2, g1, g2, g3⟩
  cases rx
  obtain ⟨t, rfl⟩ := ry
  obtain ⟨its, r, ⟨⟨cls, dd, data, sl⟩, ho, hc, n, hd⟩, hs⟩ := I.tuple hT
  simp only at hc hd
  subst hc hd
  have c0 : (decide (k < -(2 ^ 63)) || decide (k ≥ 2 ^ 63)) = false := by
    rw [Bool.or_eq_false_iff]
    exact ⟨decide_eq_false (by omega), decide_eq_false (by omega)⟩
  have emp : its.toArray.isEmpty = decide (xs = []) := by
    cases r with
    | nil => rfl
    | cons _ _ => rfl
  by_cases h1 : xs = [] ∨ k = 1
  · have c1 : (its.toArray.isEmpty || k == 1) = true := by
      rw [emp, Bool.or_eq_true, decide_eq_true_eq, beq_iff_eq]
      exact h1
    refine wpAny_binaryOp_repeat_ref (T := "tuple") (U := "int") (by decide) ⟨_, ho, rfl⟩ (fun s2 => typeIs_int s2 k t) noFill_tuple_mul F.fills_int_mul F.slot_int_rmul repeat_tuple F.slot_int_index.lookup
      (call_meets F.slot_int_rmul (typeIs_int s k t) F.entry_int_rmul (F.args_int_rmul_2 _ _) (int_rmul_tuple k t l its.toArray n dd sl) ⟨ho, rfl, ⟨_, ho, rfl⟩, call_meets F.slot_tuple_mul ⟨_, ho, rfl⟩ F.entry_tuple_mul (F.args_tuple_mul_2 _ _) (mul_same l its.toArray n dd sl k t c0 c1) ⟨ho, ?_⟩⟩)
    exact ⟨.ref l, H, I, rfl, qa h1⟩
  · have hne : xs ≠ [] := fun z => h1 (.inl z)
    have hk : k ≤ 0 := by
      have z1 : ¬ 2 ≤ k := fun z => hbig ⟨hne, z⟩
      have z2 : ¬ k = 1 := fun z => h1 (.inr z)
      omega
    have c1 : (its.toArray.isEmpty || k == 1) = false := by
      rw [emp, Bool.or_eq_false_iff]
      exact ⟨decide_eq_false hne, beq_eq_false_iff_ne.mpr (by omega)⟩
    have c2 : (decide (k ≤ 0) || its.toArray.isEmpty) = true := by
      rw [decide_eq_true hk, Bool.true_or]
    refine wpAny_binaryOp_repeat_ref (T := "tuple") (U := "int") (by decide) ⟨_, ho, rfl⟩ (fun s2 => typeIs_int s2 k t) noFill_tuple_mul F.fills_int_mul F.slot_int_rmul repeat_tuple F.slot_int_index.lookup
      (call_meets F.slot_int_rmul (typeIs_int s k t) F.entry_int_rmul (F.args_int_rmul_2 _ _) (int_rmul_tuple k t l its.toArray n dd sl) ⟨ho, rfl, ⟨_, ho, rfl⟩, call_meets F.slot_tuple_mul ⟨_, ho, rfl⟩ F.entry_tuple_mul (F.args_tuple_mul_2 _ _) (mul_none l its.toArray n dd sl k t c0 c1 c2) ⟨ho, ?_⟩⟩)
    refine ⟨.ref s.heap.objs.size, _, I.laid (t' := s.toks) (o := .tup []) (fun b ob z => Heap.get?_push_of_some _ z) (Nat.le_refl _) ?_, rfl, qb hne hk _ (I.hok.fresh (Nat.le_refl _))⟩
    exact ⟨Nat.zero_le _, [], .nil, IsTup.new _ _⟩
end
section
variable {X : Cx} {es : List Slot} {os os1 os2 : Os} {pos : Pos} {a b : Expr}
/-- the result of t * m -/
def repT {α : Type} (xs : List α) (m : Int) : Option (List α) := if -(2 ^ 63) ≤ m ∧ m ≤ 1000 ∧ xs.length ≤ 1000 then some (List.replicate m.toNat xs).flatten else none
theorem rep_nil {α : Type} : ∀ m : Nat, (List.replicate m ([] : List α)).flatten = []
  | 0 => rfl
  | m + 1 => by rw [List.replicate_succ, List.flatten_cons, rep_nil m]; rfl
theorem ex_repT {α : Type} {enc : α → PyData} {xs ys : List α} {m : Int} (h : repT xs m = some ys) (ha : EX X es os a (dat (.tuple (xs.map enc))) os1) (hb : EX X es os1 b (dat (.int m)) os2) : EX X es os (.BinOp a .Mult b pos) (dat (.tuple (ys.map enc))) os2 := fun F σ H Q ow sl q => by
  unfold repT at h
  split at h
  · rename_i hl
    cases h
    refine we_of (pe_op op_repA pe_u pe_u) (ha F σ H _ ow sl fun F1 H1 v e1 o1 c1 => hb F1 σ H1 _ o1 (sl.mono e1) fun F2 H2 u e2 o2 c2 => ?_)
    obtain ⟨p, vs, rfl, h1, h2⟩ := rdt_dat F2 v (c1.mono e2)
    have e := e1.trans e2
    have hd := dqall_rep h2 m.toNat
    rw [map_rep] at hd
    have hlen := dqall_len h2
    rw [List.length_map] at hlen
    refine ⟨p, m, vs, rfl, clv_int c2, .of (o2.ex _ _ h1), hl.1, by omega, fun h0 => ?_, fun hne hk r hr => ?_, fun hne hk => ⟨hl.2.1, by omega, fun r hr => ?_⟩⟩
    · refine q F2 H2 _ e o2 (cl_dat (.tup h1 ?_))
      rcases h0 with h0 | h0
      · subst h0
        have hx : xs = [] := List.eq_nil_of_length_eq_zero hlen.symm
        subst hx
        rw [rep_nil]
        exact h2
      · subst h0
        have e9 : (List.replicate (1 : Int).toNat xs).flatten = xs := by
          show (List.replicate 1 xs).flatten = xs
          rw [List.replicate_one, List.flatten_cons, List.flatten_nil, List.append_nil]
        rw [e9]
        exact h2
    · have fp := o2.ex.free hr
      have e9 : m.toNat = 0 := by omega
      rw [e9] at q
      exact q _ _ _ (e.trans (same_upd fp)) (o2.frozen hr) (cl_dat (.tup upd_same .nil))
    · have fp := o2.ex.free hr
      exact q _ _ _ (e.trans (same_upd fp)) (o2.frozen hr) (cl_dat (.tup upd_same (dqall_mono (same_upd fp) _ _ hd)))
  · cases h
end
end Z
/-! Z, part O: more rules. -/
namespace Z
open PySem PySem.Spec PyProof.Rows L2
section
variable {X : Cx} {os : Os}
theorem rc_len2 {d1 d2 : PyData} : RCX (fun xs H Q => ∃ p ys, xs = [L2.V.ref p] ∧ (SqL X.K H p ys ∨ SqT X.K H p ys) ∧ Q (.int ys.length) H) [dat (.tuple [d1, d2])] os (dat (.int 2)) os := rc_lenT (ds := [d1, d2]) rdt_dat
theorem rc_len3 {d1 d2 d3 : PyData} : RCX (fun xs H Q => ∃ p ys, xs = [L2.V.ref p] ∧ (SqL X.K H p ys ∨ SqT X.K H p ys) ∧ Q (.int ys.length) H) [dat (.tuple [d1, d2, d3])] os (dat (.int 3)) os := rc_lenT (ds := [d1, d2, d3]) rdt_dat
end
end Z
/-! Z, part P: enumerate over a tuple, range downwards, extend, index. -/
namespace Z
open PySem PySem.Spec PyProof.Rows L2
/-! ### enumerate(t) -/
theorem new_enum1 {v : Value} {o : Obj} {H : Heap → Prop} (B : Begins v o H) :
    Meets (Builtin.«enumerate.__new__» ⟨[.type "enumerate", v], []⟩) (fun _ R s => H s.heap ∧
      R (.ok (.ret (.ref (s.heap.push o).objs.size))) { s with heap := (s.heap.push o).push { cls := .type "enumerate", data := .fields #[.none, .bool false, .ref s.heap.objs.size, rawInt 0, .none, .none] } }) :=
  .of_wp fun prog w A R s h => by
    obtain ⟨hp, g, d, tk, os⟩ := s
    obtain ⟨h1, h⟩ := h
    have hsub := sub_enumerate
    have q1 : ∀ {A' : Around} {E : Value → Shared → Prop} {Q : Value → Shared → Prop}, Q (.ref hp.objs.size) ⟨hp.push o, g, d, tk, os⟩ → wpAny (model prog w) A' (pyIter v) Q E ⟨hp, g, d, tk, os⟩ := fun q => B.iter prog w _ _ ⟨hp, g, d, tk, os⟩ _ h1 q
    wp_walk using q1
    refine wpAny_stack_any fun st => wpAny_pure ?_
    split
    · rename_i c _ _ _ _ _
      cases (c == Value.type "enumerate") <;> (wp_walk using q1; exact ⟨_, rfl, h⟩)
    · wp_walk using q1
      exact ⟨_, rfl, h⟩
theorem enum_begins1 {prog : Program} {w : World} {A : Around} {E : Value → Shared → Prop} {s : Shared} {v : Value} {o : Obj} {H : Heap → Prop} {Q : Value → Shared → Prop} (B : Begins v o H) (h1 : H s.heap)
    (h : ∀ g, IsEnum g (s.heap.objs.size + 1) s.heap.objs.size 0 .none → g.get? s.heap.objs.size = some o → (∀ b u, s.heap.get? b = some u → g.get? b = some u) → Q (.ref (s.heap.objs.size + 1)) { s with heap := g }) :
    wpAny (model prog w) A (call (.type "enumerate") [v]) Q E s := by
  refine callType_new F.called_enumerate (by decide) (F.typeCall_enumerate_1 _) (F.newCall_enumerate_1 _) (fun obj => F.args_object_init_2 obj _) F.entry_enumerate_new (new_enum1 B) ⟨h1, ?_⟩
  have hz : (s.heap.push o).objs.size = s.heap.objs.size + 1 := Heap.size_push ..
  show _ ∧ _
  rw [hz]
  have he : IsEnum ((s.heap.push o).push { cls := .type "enumerate", data := .fields #[.none, .bool false, .ref s.heap.objs.size, rawInt 0, .none, .none] }) (s.heap.objs.size + 1) s.heap.objs.size 0 .none := by
    have q := Heap.get?_push_size (s.heap.push o) (o := { cls := .type "enumerate", data := .fields #[.none, .bool false, .ref s.heap.objs.size, rawInt 0, .none, .none] }) rfl
    rw [hz] at q
    exact q
  exact ⟨⟨_, he, rfl⟩, h _ he (Heap.get?_push_of_some _ (Heap.get?_push_size _ B.free)) fun b u x => Heap.get?_push_of_some _ (Heap.get?_push_of_some _ x)⟩
/-- the items of the tuple at a, each in a new pair -/
def IteT (K : PySem.W.Frag) (a : Addr) : It :=
  ⟨fun i H => ∃ (xs : List L2.V) (x : L2.V), SqT K H a xs ∧ xs[i]? = some x, fun i H v H' => ∃ T x, v = .ref T ∧ H T = none ∧ H' = upd H T (.tup [.int (i : Nat), x]) ∧ ∀ xs, SqT K H a xs → xs[i]? = some x, fun i H => ∃ xs : List L2.V, SqT K H a xs ∧ xs.length ≤ i⟩
/-- the tuple's items as they stand in the heap -/
def TupAt (h : Heap) (a : Addr) (n : Nat) : Prop := ∃ its : Array Value, h.IsTuple a its ∧ its.size = n
theorem turn_enumT {P : Program} {w : World} {K : PySem.W.Frag} {elts : List Expr} {kk : Nat} {tpos : Pos} (a e it : Addr) :
    Turn P w K (.Tuple elts kk tpos) (IteT K a) [e, it] e (fun i h => (∃ old, IsEnum h e it ((i : Nat) : Int) old) ∧ h.IsTupleIter it a i ∧ e ≠ it ∧ a ≠ e ∧ a ≠ it) where
  mem := by simp
  obj := fun i h st b hb => by
    obtain ⟨⟨old, he⟩, ⟨o, ho, hc, hd⟩, _⟩ := st
    have z : b = e ∨ b = it := by simpa using hb
    rcases z with z | z
    · rw [z]
      exact ⟨_, he, fun v q => nomatch q⟩
    · rw [z]
      exact ⟨o, ho, fun v q => by rw [hd] at q; cases q⟩
  keep := fun i h g st k => by
    obtain ⟨⟨old, he⟩, hi, r⟩ := st
    exact ⟨⟨old, k e (by simp) _ he⟩, hi.at fun o q => k it (by simp) o q, r⟩
  item := by
    intro X hP hw hK hc i pins s σ H E I hf st hg
    subst hP hw hK
    obtain ⟨⟨old, he⟩, hit, hne, hae, hai⟩ := st
    obtain ⟨xs, x, hq, hx⟩ := hg
    obtain ⟨its, rv, p, hz⟩ := I.tuple hq
    obtain ⟨u, hu, ru⟩ := rv.get hx
    have hel : e < s.heap.objs.size := Heap.lt_size he
    have hil : it < s.heap.objs.size := by
      obtain ⟨_, q, _⟩ := hit
      exact Heap.lt_size q
    have D := Draws.tuple (prog := X.prog) (w := X.w) (A := X.A.in1) (I.ok.hd hc) it a hai its.toArray
    have hlt : i < its.toArray.size := by
      have := (List.getElem?_eq_some_iff.mp hu).1
      simpa using this
    refine wpAny_pyNext_enum_itemD D he ⟨hit, p⟩ hlt hne (by simp [hne, Ne.symm hae]) fun x' h' tk hP' ho hst hT hsz hk => ?_
    have ex : x' = u := by
      have q : its.toArray[i]? = some u := by simpa using hu
      exact Option.some.inj (hP'.symm.trans q)
    subst ex
    refine ⟨_, rfl, wpAny_letOwnedTupleGo_enum (s := { s with heap := h', toks := tk + 1 }) ho fun h'' he' sb => ?_⟩
    have hT2 : h''.get? s.heap.objs.size = some { cls := .type "tuple", data := .seq #[.int i tk, x'] } := (sb.2 _ (Nat.ne_of_gt hel)).trans hT
    have new : ObjOk X.prog X.w (upd H s.heap.objs.size (.tup [.int (i : Nat), x])) h'' s.heap.objs.size (.tup [.int (i : Nat), x]) :=
      ⟨by show 2 ≤ sizeLine; decide, [.int i tk, x'], .cons ⟨_, rfl⟩ (.cons ru .nil), ⟨_, hT2, rfl, _, rfl⟩⟩
    have I1 : Inv X pins σ (upd H s.heap.objs.size (.tup [.int (i : Nat), x])) { s with heap := h'', toks := tk + 1 } :=
      I.turnedNew (ch := [e, it]) (fun b ob hb q => (sb.2 b (fun z => hb (by simp [z]))).trans (hk b ob (fun z => hb (by simp [z])) (fun z => hb (by simp [z])) q)) hf (Nat.le_refl _) new
    refine ⟨.ref s.heap.objs.size, _, I1, rfl, ⟨_, x, rfl, I.hok.fresh (Nat.le_refl _), rfl, fun ys hy => by rw [I.tuple_inj hy hq]; exact hx⟩, ⟨⟨x', ?_⟩, hst.1.at fun o q => (sb.2 it (Ne.symm hne)).trans q, hne, hae, hai⟩, fun b hb => ?_⟩
    · have e1 : ((i + 1 : Nat) : Int) = (i : Int) + 1 := by omega
      rw [e1]
      exact he'
    · have hb' : b < s.heap.objs.size := by
        have z : b = e ∨ b = it := by simpa using hb
        rcases z with z | z
        · rw [z]
          exact hel
        · rw [z]
          exact hil
      rw [upd_ne (Nat.ne_of_lt hb')]
      exact (hf b hb).1
  done := by
    intro X hP hw hK hc i pins s σ H E I hf st hg
    subst hP hw hK
    obtain ⟨⟨old, he⟩, hit, hne, hae, hai⟩ := st
    obtain ⟨xs, hq, hx⟩ := hg
    obtain ⟨its, rv, p, hz⟩ := I.tuple hq
    obtain ⟨f0, f1, f2, f3, f4, f5⟩ := hf it (by simp)
    have hl := rv.length
    have hT : s.TypeIs (.ref e) "enumerate" := ⟨_, he, rfl⟩
    unfold pyNext
    refine wpAny_bind (wpAny_attempt (wpAny_callSpecial?_slot (name := Str.ofString "__next__") hT F.slot_enumerate_next (wpAny_call_entry F.slot_enumerate_next hT F.entry_enumerate_next ?_ (F.args_enumerate_next_1 _))))
    show wpAny _ _ (field (.ref e) 2 >>= _) _ _ _
    refine wpAny_bind (wpAny_field he rfl (x := .ref it) rfl ?_)
    refine wpAny_bind (wpAny_nextOf_tuple_end (A := X.A.in1) (I.ok.hd hc) hit (show s.heap.IsTuple a its.toArray from p) (by simp; omega) fun h' x he' hx' => ?_)
    obtain ⟨o, ho, hcx⟩ := hx'
    refine wpAny_bind (wpAny_isInstance (T := "StopIteration") (b := true) ⟨o, ho, hcx⟩ isSubtype_stop ?_)
    exact wpAny_pure ⟨rfl, I.turned (t' := s.toks) (fun b o hb q => he' b o hb q) f0 f1 f3 f4 f5⟩
  self := fun A i s Q E st h => by
    obtain ⟨⟨_, he⟩, _⟩ := st
    exact wpAny_pyIter_enum he h
def iEnumT (K : PySem.W.Frag) (ta : TA) : TI := fun σ H R => ta σ H fun vs H1 => ∃ a xs, vs = [.ref a] ∧ SqT K H1 a xs ∧ R (IteT K a) H1
theorem pi_enumT {X : Cx} {e : Expr} {ta : TA} {p pos tpos : Pos} {elts : List Expr} {kk : Nat} (hg : Gl X "enumerate") (hm : X.mg "enumerate" = none) (ha : PA X [e] ta) (hs : starEach [e] X.env = [(false, eval e X.env)] := by rfl) :
    PI X (.Tuple elts kk tpos) (.Call (.Name "enumerate" p) [e] [] pos) (iEnumT X.K ta) := by
  refine ⟨fun pins s σ H R I h => Call_ (ld_blt I hg hm boot_enumerate (PyProof.Rows.callWith_type1 (thn (ha.run pos pins s σ H _ I h) fun us s1 ⟨vs, H1, I1, r1, q1⟩ => ?_) hs rfl))⟩
  obtain ⟨a, xs, rfl, hq, q⟩ := q1
  cases r1 with
  | cons r rr =>
    cases rr
    cases r
    obtain ⟨its, rv, p2, hz⟩ := I1.tuple hq
    have ht : s1.heap.IsTuple a its.toArray := p2
    have hal : a < s1.heap.objs.size := by
      obtain ⟨_, z, _⟩ := ht
      exact Heap.lt_size z
    refine enum_begins1 (begins_tuple a its.toArray) ht fun h' he hit hk => wpAny_pyIter_enum he ?_
    have I2 : Inv X pins σ H1 { s1 with heap := h' } := I1.kept (t' := s1.toks) hk
    refine ⟨s1.heap.objs.size + 1, [s1.heap.objs.size + 1, s1.heap.objs.size], _, _, H1, rfl, I2, turn_enumT a (s1.heap.objs.size + 1) s1.heap.objs.size, ⟨⟨.none, he⟩, ⟨_, hit, rfl, rfl⟩, Nat.succ_ne_self _, Nat.ne_of_lt (Nat.lt_succ_of_lt hal), Nat.ne_of_lt hal⟩, fun b hb => ?_, q⟩
    have z : b = s1.heap.objs.size + 1 ∨ b = s1.heap.objs.size := by simpa using hb
    have hle : s1.heap.objs.size ≤ b := by
      rcases z with z | z
      · rw [z]
        exact Nat.le_succ _
      · rw [z]
        exact Nat.le_refl _
    exact I1.fpOk hle (I1.hok.fresh hle)
section
variable {X : Cx} {es : List Slot} {os os1 os2 os3 : Os} {N V G W : List Str} {k i vi gi j : Nat} {x : Str} {p pos : Pos} {e e2 e3 a : Expr} {φ : VP} {n : Ent} {α : Type}
theorem ix_enumT {elts : List Expr} {kk : Nat} {tpos : Pos} {xs : List α} {enc : α → PyData} (B : Bd X N W G k) (hj : G[gi]? = some "enumerate") (hm : X.mg "enumerate" = none) (he : EX X es os e φ os1) (hr : RdT φ (xs.map enc)) (hs : starEach [e] X.env = [(false, eval e X.env)] := by rfl) :
    IX X (.Tuple elts kk tpos) es os (.Call (.Name "enumerate" p) [e] [] pos) (enum xs) (fun x => dat (.tuple [.int x.1, enc x.2])) anyOs os1 := fun F σ H R ow sl q =>
  wi_of (pi_enumT (B.gl _ (List.mem_of_getElem? hj)).1 hm pa_u hs) (wa_of (pa_cons pe_u pa_nil hs) (he F σ H _ ow sl fun F1 H1 v e1 o1 c1 => by
    obtain ⟨a, vs, rfl, h1, h2⟩ := hr F1 v c1
    refine ⟨a, vs, rfl, .of (o1.ex _ _ h1), q F1 H1 _ e1 o1 fun F2 H2 os2 i s ow2 k2 => ?_⟩
    have g1 := s _ _ h1
    have g2 := dqall_mono s _ _ h2
    have hl := dqall_len g2
    rw [List.length_map] at hl
    have hT : SqT X.K H2 a vs := .of (ow2.ex _ _ g1)
    refine ⟨fun h => ⟨vs, hT, by rw [enum_len] at h; omega⟩, fun x hx => ?_⟩
    obtain ⟨hz1, hz2⟩ := zipIdx_get hx
    obtain ⟨u, hu, hd⟩ := dqall_map g2 hz2
    refine ⟨⟨vs, u, hT, hu⟩, fun w H3 y => ?_⟩
    obtain ⟨T, w2, rfl, hTn, rfl, hy⟩ := y
    have ew : vs[i]? = some w2 := hy vs hT
    rw [hu] at ew
    cases ew
    have fT := ow2.ex.free hTn
    refine ⟨_, same_upd fT, ow2.frozen hTn, cl_dat (.tup upd_same ?_)⟩
    rw [hz1]
    exact .cons (.int _) (.cons (dq_mono (same_upd fT) _ _ hd) .nil)))
/-! ### range(a, b, -1) -/
def rangeD (a b : Int) : List Int := (List.range (a - b).toNat).map fun (i : Nat) => a + (i : Int) * (-1)
def rngDO (a b : Int) : Option (List Int) := if -(2 ^ 62) ≤ a ∧ a < 2 ^ 62 ∧ -(2 ^ 62) ≤ b ∧ b < 2 ^ 62 then some (rangeD a b) else none
theorem ix_rngD {tg : Expr} {lo hi : Int} {xs : List Int} (B : Bd X N W G k) (hj : G[gi]? = some "range") (hm : X.mg "range" = none) (hx : rngDO lo hi = some xs) (ha : EX X es os e (dat (.int lo)) os1) (hb : EX X es os1 e2 (dat (.int hi)) os2) (hc : EX X es os2 e3 (dat (.int (-1))) os3)
    (hs : starEach [e, e2, e3] X.env = (false, eval e X.env) :: starEach [e2, e3] X.env := by rfl) (hs2 : starEach [e2, e3] X.env = (false, eval e2 X.env) :: starEach [e3] X.env := by rfl) (hs3 : starEach [e3] X.env = (false, eval e3 X.env) :: starEach [] X.env := by rfl) (hpl : (backTo pos (starEach [e2, e3] X.env)).any (·.1) = false := by rfl) :
    IX X tg es os (.Call (.Name "range" p) [e, e2, e3] [] pos) xs (fun x => dat (.int x)) anyOs os3 := fun F σ H R ow sl q => by
  unfold rngDO at hx
  split at hx
  · rename_i h
    cases hx
    refine wi_of (pi_range3 (B.gl _ (List.mem_of_getElem? hj)).1 hm pa_u hs hpl) (wa_of (pa_cons (hs := hs) pe_u (pa_cons (hs := hs2) pe_u (pa_cons (hs := hs3) pe_u pa_nil))) (ha F σ H _ ow sl fun F1 H1 v e1 o1 c1 => hb F1 σ H1 _ o1 (sl.mono e1) fun F2 H2 u e2 o2 c2 => hc F2 σ H2 _ o2 (sl.mono (e1.trans e2)) fun F3 H3 w e3 o3 c3 => ?_))
    refine ⟨lo, hi, -1, (lo - hi).toNat, by rw [clv_int c1, clv_int c2, clv_int c3], .neg h.1 h.2.1 h.2.2.1 h.2.2.2, q F3 H3 _ ((e1.trans e2).trans e3) o3 fun F4 H4 os4 i s ow4 _ => ?_⟩
    refine ⟨fun z => show (lo - hi).toNat ≤ i by unfold rangeD at z; simpa using z, fun x hx => ?_⟩
    unfold rangeD at hx
    rw [List.getElem?_map] at hx
    by_cases hi2 : i < (lo - hi).toNat
    · rw [List.getElem?_range hi2] at hx
      cases hx
      refine ⟨hi2, fun v H5 y => ?_⟩
      obtain ⟨rfl, rfl⟩ := y
      exact ⟨F4, Same.refl F4, ow4, cl_dat (.int _)⟩
    · rw [List.getElem?_eq_none (by rw [List.length_range]; omega)] at hx
      cases hx
  · cases hx
/-! ### extend, index -/
theorem ex_extend {apos cpos : Pos} {q : Addr} {enc : α → PyData} {xs xs0 ys zs : List α} (ha : catO xs ys = some zs) (ho : EX X es os a (own q) os) (h0 : os[j]? = some (q, ol (xs0.map enc))) (he : EN X es os e (ol (ys.map enc)) os1) (hj : os1[j]? = some (q, ol (xs.map enc)))
    (hbase : attributeBase a "extend" X.env (eval a X.env) = eval a X.env := by rfl) (hline : (apos.endLine == cpos.line) = true := by rfl) (hs : starEach [e] X.env = (false, eval e X.env) :: starEach [] X.env := by rfl)
    (hfew : ((backTo cpos (starEach [e] X.env)).all (fun x => !x.1) && (backToKw cpos (keywordEach [] X.env)).all (fun x => x.1.isSome) && decide ([e].length + ([] : List Keyword).length + (if ([] : List Keyword).isEmpty then 0 else 1) < 30)) = true := by rfl)
    (hplain : (backTo cpos (starEach [] X.env)).any (·.1) = false := by rfl) : EX X es os (.Call (.Attribute a "extend" apos) [e] [] cpos) (dat .none) (os1.set j (q, ol (zs.map enc))) := fun F σ H Q ow sl qq => by
  unfold catO at ha
  split at ha
  · rename_i hz
    cases ha
    refine we_of (pe_bm PySem.F.plainAttrs_list PySem.F.slot_list_extend PySem.F.type_list_extend mt_extend pe_u pa_u hbase hfew hline hs hplain) (ho F σ H _ ow sl fun F1 H1 v e1 o1 c1 => ?_)
    obtain rfl : v = .ref q := c1.now
    obtain ⟨_, _, _, ty⟩ := ty_own (K := X.K) o1 h0
    refine ⟨ty, wa_of (pa_cons pe_u pa_nil hs) (he F1 σ H1 _ o1 (sl.mono e1) fun F2 H2 r e2 o2 => ?_)⟩
    obtain ⟨vs, hp, hv, _⟩ := ty_own (K := X.K) o2.drop hj
    obtain ⟨_, us, hu, hus⟩ := o2.atL
    have l1 := dqall_len hv
    have l2 := dqall_len hus
    rw [List.length_map] at l1 l2
    have o3 := ow_set o2.drop hj (dqall_app hv hus)
    rw [← List.map_append] at o3
    exact ⟨q, r, vs, us, rfl, rfl, hp, hu, by omega, qq F2 _ .non (e1.trans e2) o3 (cl_dat .non)⟩
  · cases ha
/-- the first place at which an integer stands -/
def ixOf : List Int → Int → Option Nat
  | [], _ => none
  | x :: xs, y => if x = y then some 0 else (ixOf xs y).map (· + 1)
theorem ixOf_spec : ∀ {xs : List Int} {y : Int} {m : Nat}, ixOf xs y = some m → xs[m]? = some y ∧ ∀ l z, l < m → xs[l]? = some z → z ≠ y
  | [], _, _, h => by cases h
  | x :: xs, y, m, h => by
    unfold ixOf at h
    by_cases hx : x = y
    · rw [if_pos hx] at h
      cases h
      exact ⟨by rw [hx]; rfl, fun l z hl => absurd hl (Nat.not_lt_zero _)⟩
    · rw [if_neg hx] at h
      cases e : ixOf xs y with
      | none =>
        rw [e] at h
        cases h
      | some m' =>
        rw [e] at h
        cases h
        obtain ⟨h1, h2⟩ := ixOf_spec e
        refine ⟨by simpa using h1, fun l z hl hz => ?_⟩
        cases l with
        | zero =>
          simp at hz
          exact hz ▸ hx
        | succ l => exact h2 l z (Nat.lt_of_succ_lt_succ hl) (by simpa using hz)
theorem ex_index {apos cpos : Pos} {xs : List Int} {y : Int} {m : Nat} (hm : ixOf xs y = some m) (hr : ∀ o, o = os1 ∨ o = os2 → RdL X φ o (xs.map PyData.int)) (ho : EX X es os a φ os1) (he : EX X es os1 e (dat (.int y)) os2)
    (hbase : attributeBase a "index" X.env (eval a X.env) = eval a X.env := by rfl) (hline : (apos.endLine == cpos.line) = true := by rfl) (hs : starEach [e] X.env = (false, eval e X.env) :: starEach [] X.env := by rfl)
    (hfew : ((backTo cpos (starEach [e] X.env)).all (fun x => !x.1) && (backToKw cpos (keywordEach [] X.env)).all (fun x => x.1.isSome) && decide ([e].length + ([] : List Keyword).length + (if ([] : List Keyword).isEmpty then 0 else 1) < 30)) = true := by rfl)
    (hplain : (backTo cpos (starEach [] X.env)).any (·.1) = false := by rfl) : EX X es os (.Call (.Attribute a "index" apos) [e] [] cpos) (dat (.int (m : Int))) os2 := fun F σ H Q ow sl qq => by
  refine we_of (pe_bm PySem.F.plainAttrs_list PySem.F.slot_list_index PySem.F.type_list_index mt_index pe_u pa_u hbase hfew hline hs hplain) (ho F σ H _ ow sl fun F1 H1 v e1 o1 c1 => ?_)
  obtain ⟨b, us, rfl, h1, h2⟩ := hr os1 (.inl rfl) F1 H1 v o1 c1
  refine ⟨.inl ⟨rfl, us, h1⟩, wa_of (pa_cons pe_u pa_nil hs) (he F1 σ H1 _ o1 (sl.mono e1) fun F2 H2 u e2 o2 c2 => ?_)⟩
  obtain ⟨b', us', eb, g1, g2⟩ := hr os2 (.inr rfl) F2 H2 _ o2 (c1.mono e2)
  cases eb
  have ev := dqall_of_ints xs g2
  subst ev
  rw [clv_int c2]
  obtain ⟨s1, s2⟩ := ixOf_spec hm
  refine ⟨b, _, .int y, m, .int y, rfl, rfl, g1, rfl, flat_ints xs, by rw [List.getElem?_map, s1]; rfl, by simp [eqV], fun l z hl hz => ?_, qq F2 H2 _ (e1.trans e2) o2 (cl_dat (.int _))⟩
  rw [List.getElem?_map] at hz
  cases ez : xs[l]? with
  | none =>
    rw [ez] at hz
    cases hz
  | some z' =>
    rw [ez] at hz
    cases hz
    have := s2 l z' hl ez
    simp [eqV, this]
end
end Z
/-! Z, part Q: values that may be None. -/
namespace Z
open PySem PySem.Spec PyProof.Rows L2
/-- an encoding that is never None -/
def NoN {α : Type} (e : α → PyData) : Prop := ∀ a, noneB (e a) = false
theorem non_int : NoN PyData.int := fun _ => rfl
theorem non_bool : NoN PyData.bool := fun _ => rfl
theorem non_str : NoN PyData.str := fun _ => rfl
theorem non_list {α : Type} {e : α → PyData} : NoN (eL e) := fun _ => rfl
theorem non_tup {α : Type} {e : α → PyData} : NoN (eT e) := fun _ => rfl
theorem non_pair {α β : Type} {e : α → PyData} {f : β → PyData} : NoN (eP e f) := fun _ => rfl
theorem non_tri {α β γ : Type} {e : α → PyData} {f : β → PyData} {g : γ → PyData} : NoN (eP3 e f g) := fun _ => rfl
theorem none_opt {α : Type} {e : α → PyData} (h : NoN e) : ∀ x : Option α, noneB (eO e x) = x.isNone
  | none => rfl
  | some a => h a
theorem some_opt {α : Type} {e : α → PyData} (h : NoN e) (x : Option α) : (!noneB (eO e x)) = x.isSome := by
  rw [none_opt h]
  cases x <;> rfl
theorem eqv_noneL : ∀ d : PyData, PyData.eqv .none d = noneB d
  | .none => by simp only [PyData.eqv, noneB]
  | .bool _ => by simp only [PyData.eqv, noneB]
  | .int _ => by simp only [PyData.eqv, noneB]
  | .str _ => by simp only [PyData.eqv, noneB]
  | .list _ => by simp only [PyData.eqv, noneB]
  | .tuple _ => by simp only [PyData.eqv, noneB]
  | .dict _ => by simp only [PyData.eqv, noneB]
theorem eqv_noneR : ∀ d : PyData, PyData.eqv d .none = noneB d
  | .none => by simp only [PyData.eqv, noneB]
  | .bool _ => by simp only [PyData.eqv, noneB]
  | .int _ => by simp only [PyData.eqv, noneB]
  | .str _ => by simp only [PyData.eqv, noneB]
  | .list _ => by simp only [PyData.eqv, noneB]
  | .tuple _ => by simp only [PyData.eqv, noneB]
  | .dict _ => by simp only [PyData.eqv, noneB]
theorem eqv_opt {α : Type} [DecidableEq α] {e : α → PyData} (h : EqvOk e) (k : NoN e) : EqvOk (eO e) := fun a b => by
  cases a with
  | none =>
    rw [show eO e none = PyData.none from rfl, eqv_noneL, none_opt k]
    cases b <;> simp
  | some a =>
    cases b with
    | none =>
      rw [show eO e none = PyData.none from rfl, eqv_noneR, none_opt k]
      simp
    | some b =>
      show PyData.eqv (e a) (e b) = _
      rw [h a b]
      simp
theorem sh_opt {α : Type} {e : α → PyData} {n : Nat} (h : ShOk e n) : ShOk (eO e) n := by
  refine ⟨fun a => ?_, fun a => ?_⟩
  · cases a with
    | none =>
      show PyData.canLay0 .none = true
      simp only [PyData.canLay0]
    | some a => exact h.lay a
  · cases a with
    | none =>
      show PyData.depth .none ≤ n
      simp only [PyData.depth]
      exact Nat.zero_le _
    | some a => exact h.dep a
/-- a value that is there, told as one that may be there -/
theorem to_some {α : Type} (e : α → PyData) (a : α) : e a = eO e (some a) := rfl
theorem list_some {α : Type} (e : α → PyData) (xs : List α) : xs.map e = (xs.map some).map (eO e) := by
  rw [List.map_map]
  rfl
end Z
/-! Z, part R: dicts (keys: ints, texts, flat tuples of them), owned or data; what is given away is locked. -/
namespace Z
open PySem PySem.Spec PyProof.Rows L2

/-! ### locking -/
inductive Lk (Q : Hp → Prop) : Hp → Prop
  | now {H : Hp} : Q H → Lk Q H
  | lock {H : Hp} (d : Addr) (u : HO) : H d = some u → Mut (some u) → (∀ od, Lk Q (upd H d (.frz od u))) → Lk Q H
theorem Lk.bind {Q R : Hp → Prop} {H : Hp} (h : Lk Q H) (k : ∀ H, Q H → Lk R H) : Lk R H := by
  induction h with
  | now q => exact k _ q
  | lock d u a b _ ih => exact .lock d u a b ih
theorem Lk.inv {X : Cx} {pins : List (Addr × Obj)} {σ : L2.St} {s : Shared} {Q : Hp → Prop} {H : Hp} (h : Lk Q H) : Inv X pins σ H s → ∃ H', Inv X pins σ H' s ∧ Q H' := by
  induction h with
  | now q => exact fun I => ⟨_, I, q⟩
  | lock d u a b _ ih =>
    intro I
    obtain ⟨od, I1⟩ := I.lock a b
    exact ih od I1
theorem we_lk {X : Cx} {e : Expr} {σ : L2.St} {H : Hp} {Q : VK} (h : WE X e σ H fun v H' => Lk (Q v) H') : WE X e σ H Q := fun pins s I =>
  wpAny_mono (h pins s I) (fun u s1 ⟨v, H1, I1, r, k⟩ => let ⟨H2, I2, q⟩ := k.inv I1; ⟨v, H2, I2, r, q⟩) fun _ _ z => z
theorem wps_lk {X : Cx} {sts : List Stmt} {D : Ends} {σ : L2.St} {H : Hp} (h : Lk (WPs X sts D σ) H) : WPs X sts D σ H := fun pins s I =>
  let ⟨_, I2, q⟩ := h.inv I; q pins s I2
/-- what is owned as e may be given away, as the data d -/
def Frb (e : Ent) (d : PyData) : Prop := ∀ p F os H (Q : Hp → Prop), Ow F ((p, e) :: os) H → (∀ F' H', Same F F' → Ow F' os H' → Dq F' (.ref p) d → Q H') → Lk Q H
theorem frb_ol {ds : List PyData} : Frb (ol ds) (.list ds) := fun p F os H Q ow q => by
  obtain ⟨o, ho, ⟨vs, rfl, hv⟩, s, o2⟩ := ow.freezeU uni_ol
  exact .now (q _ H s o2 (.lst upd_same (dqall_mono s _ _ hv)))

/-! ### typed tables -/
section
variable {κ β : Type} [DecidableEq κ]
def dGet (d : List (κ × β)) (k : κ) : Option β := (d.find? fun kv => decide (kv.1 = k)).map (·.2)
def dPut (d : List (κ × β)) (k : κ) (v : β) : List (κ × β) :=
  if (d.any fun kv => decide (kv.1 = k)) = true then d.map (fun kv => if kv.1 = k then (kv.1, v) else kv) else d ++ [(k, v)]
def dDel (d : List (κ × β)) (k : κ) : List (κ × β) := d.filter fun kv => decide (kv.1 ≠ k)
/-- a store in bounds -/
def dPutO (d : List (κ × β)) (k : κ) (v : β) : Option (List (κ × β)) := if d.length < sizeLine then some (dPut d k v) else none
/-- d.pop(k) -/
def dPopO (d : List (κ × β)) (k : κ) : Option (β × List (κ × β)) := (dGet d k).map fun v => (v, dDel d k)
end
theorem dGet_map {κ β γ : Type} [DecidableEq κ] (f : β → γ) (k : κ) : ∀ d : List (κ × β), dGet (d.map fun p => (p.1, f p.2)) k = (dGet d k).map f
  | [] => rfl
  | (a, b) :: d => by
    have ih := dGet_map f k d
    unfold dGet at ih ⊢
    rw [List.map_cons, List.find?_cons, List.find?_cons]
    by_cases h : a = k
    · simp [h]
    · simp only [h, decide_false]
      exact ih
theorem dPut_map {κ β γ : Type} [DecidableEq κ] (f : β → γ) (k : κ) (v : β) (d : List (κ × β)) : dPut (d.map fun p => (p.1, f p.2)) k (f v) = (dPut d k v).map fun p => (p.1, f p.2) := by
  unfold dPut
  rw [List.any_map]
  have e : ((fun kv : κ × γ => decide (kv.1 = k)) ∘ fun p : κ × β => (p.1, f p.2)) = fun kv => decide (kv.1 = k) := rfl
  rw [e]
  split
  · rw [List.map_map, List.map_map]
    congr 1
    funext p
    show (if p.1 = k then (p.1, f v) else (p.1, f p.2)) = _
    by_cases h : p.1 = k
    · simp [h]
    · simp [h]
  · simp
theorem dDel_map {κ β γ : Type} [DecidableEq κ] (f : β → γ) (k : κ) (d : List (κ × β)) : dDel (d.map fun p => (p.1, f p.2)) k = (dDel d k).map fun p => (p.1, f p.2) := by
  unfold dDel
  rw [List.filter_map]
  rfl
/-- the keys renamed one to one -/
theorem dGet_key {κ κ' β : Type} [DecidableEq κ] [DecidableEq κ'] {f : κ → κ'} (hf : ∀ a b, f a = f b → a = b) (k : κ) : ∀ d : List (κ × β), dGet (d.map fun p => (f p.1, p.2)) (f k) = dGet d k
  | [] => rfl
  | (a, b) :: d => by
    have ih := dGet_key hf k d
    unfold dGet at ih ⊢
    rw [List.map_cons, List.find?_cons, List.find?_cons]
    by_cases h : a = k
    · simp [h]
    · have h2 : ¬ f a = f k := fun z => h (hf _ _ z)
      simp only [h, h2, decide_false]
      exact ih
theorem dPut_key {κ κ' β : Type} [DecidableEq κ] [DecidableEq κ'] {f : κ → κ'} (hf : ∀ a b, f a = f b → a = b) (k : κ) (v : β) (d : List (κ × β)) : dPut (d.map fun p => (f p.1, p.2)) (f k) v = (dPut d k v).map fun p => (f p.1, p.2) := by
  unfold dPut
  rw [List.any_map]
  have e : ((fun kv : κ' × β => decide (kv.1 = f k)) ∘ fun p : κ × β => (f p.1, p.2)) = fun kv => decide (kv.1 = k) := by
    funext p
    show decide (f p.1 = f k) = decide (p.1 = k)
    exact decide_eq_decide.mpr ⟨hf _ _, fun z => by rw [z]⟩
  rw [e]
  split
  · rw [List.map_map, List.map_map]
    congr 1
    funext p
    show (if f p.1 = f k then (f p.1, v) else (f p.1, p.2)) = _
    by_cases h : p.1 = k
    · simp [h]
    · have h2 : ¬ f p.1 = f k := fun z => h (hf _ _ z)
      simp [h, h2]
  · simp
theorem dDel_key {κ κ' β : Type} [DecidableEq κ] [DecidableEq κ'] {f : κ → κ'} (hf : ∀ a b, f a = f b → a = b) (k : κ) (d : List (κ × β)) : dDel (d.map fun p => (f p.1, p.2)) (f k) = (dDel d k).map fun p => (f p.1, p.2) := by
  unfold dDel
  rw [List.filter_map]
  congr 1
  refine List.filter_congr fun p _ => ?_
  show decide (f p.1 ≠ f k) = decide (p.1 ≠ k)
  exact decide_eq_decide.mpr ⟨fun h z => h (by rw [z]), fun h z => h (hf _ _ z)⟩
theorem valV_dGet {κ : Type} [DecidableEq κ] (d : List (κ × L2.V)) (k : κ) : valV d k = dGet d k := rfl
theorem putK_dPut {κ : Type} [DecidableEq κ] (d : List (κ × L2.V)) (k : κ) (v : L2.V) : putK d k v = dPut d k v := rfl
theorem dropK_dDel {κ : Type} [DecidableEq κ] (d : List (κ × L2.V)) (k : κ) : dropK d k = dDel d k := rfl

/-! ### kinds of keys -/
inductive Kd (κ : Type) where
  | fl (f : κ → Key)
  | tu (f : κ → List Key)
section
variable {κ : Type}
def Kd.ek : Kd κ → κ → PyData
  | .fl f, k => kPD (f k)
  | .tu f, k => .tuple ((f k).map kPD)
def Kd.Inj : Kd κ → Prop
  | .fl f => ∀ a b, f a = f b → a = b
  | .tu f => ∀ a b, f a = f b → a = b
def Kd.ho : Kd κ → List (κ × L2.V) → HO
  | .fl f, kvs => .dK (kvs.map fun p => (f p.1, p.2))
  | .tu f, kvs => .dT (kvs.map fun p => (f p.1, p.2))
def Kd.pd (kd : Kd κ) (ps : List (κ × PyData)) : PyData := match kd with
  | .fl f => .dict (ps.map fun p => (kPD (f p.1), p.2))
  | .tu f => .dict ((.none, .none) :: ps.map fun p => (PyData.tuple ((f p.1).map kPD), p.2))
theorem Kd.ntup (kd : Kd κ) (kvs : List (κ × L2.V)) : ∀ xs, kd.ho kvs ≠ .tup xs := by cases kd <;> intro _ z <;> cases z
theorem Kd.mut (kd : Kd κ) (kvs : List (κ × L2.V)) : Mut (some (kd.ho kvs)) := by cases kd <;> trivial
end
abbrev kI : Kd Int := .fl Sum.inl
abbrev kS : Kd Str := .fl Sum.inr
abbrev kTI : Kd (List Int) := .tu fun l => l.map Sum.inl
abbrev kII : Kd (Int × Int) := .tu fun p => [Sum.inl p.1, Sum.inl p.2]
theorem inj_kI : kI.Inj := fun a b h => Sum.inl.inj h
theorem inj_kS : kS.Inj := fun a b h => Sum.inr.inj h
theorem inj_kTI : kTI.Inj := fun a b h => by
  have : ∀ l m : List Int, l.map (Sum.inl : Int → Key) = m.map Sum.inl → l = m := fun l => by
    induction l with
    | nil => intro m h; cases m with
      | nil => rfl
      | cons => cases h
    | cons x l ih => intro m h; cases m with
      | nil => cases h
      | cons y m =>
        rw [List.map_cons, List.map_cons] at h
        injection h with h1 h2
        rw [Sum.inl.inj h1, ih m h2]
  exact this a b h
theorem inj_kII : kII.Inj := fun a b h => by
  injection h with h1 h2
  injection h2 with h2 _
  exact Prod.ext (Sum.inl.inj h1) (Sum.inl.inj h2)
theorem kPD_inj : ∀ {a b : Key}, kPD a = kPD b → a = b
  | .inl _, .inl _, h => by injection h with h; rw [h]
  | .inr _, .inr _, h => by injection h with h; rw [h]
  | .inl _, .inr _, h => nomatch h
  | .inr _, .inl _, h => nomatch h
theorem kPDs_inj : ∀ {a b : List Key}, a.map kPD = b.map kPD → a = b
  | [], [], _ => rfl
  | [], _ :: _, h => nomatch h
  | _ :: _, [], h => nomatch h
  | x :: a, y :: b, h => by
    rw [List.map_cons, List.map_cons] at h
    injection h with h1 h2
    rw [kPD_inj h1, kPDs_inj h2]

/-! ### what a table holds -/
section
variable {κ : Type}
inductive DV (F : Hp) : List (κ × L2.V) → List (κ × PyData) → Prop
  | nil : DV F [] []
  | cons {k : κ} {v : L2.V} {d : PyData} {kvs : List (κ × L2.V)} {ds : List (κ × PyData)} : Dq F v d → DV F kvs ds → DV F ((k, v) :: kvs) ((k, d) :: ds)
theorem dv_mono {F F' : Hp} (e : Same F F') : ∀ {kvs : List (κ × L2.V)} {ds : List (κ × PyData)}, DV F kvs ds → DV F' kvs ds
  | _, _, .nil => .nil
  | _, _, .cons h1 h2 => .cons (dq_mono e _ _ h1) (dv_mono e h2)
theorem dv_len {F : Hp} : ∀ {kvs : List (κ × L2.V)} {ds : List (κ × PyData)}, DV F kvs ds → kvs.length = ds.length
  | _, _, .nil => rfl
  | _, _, .cons h1 h2 => by rw [List.length_cons, List.length_cons, dv_len h2]
theorem dv_app {F : Hp} : ∀ {kvs us : List (κ × L2.V)} {ds es : List (κ × PyData)}, DV F kvs ds → DV F us es → DV F (kvs ++ us) (ds ++ es)
  | _, _, _, _, .nil, h => h
  | _, _, _, _, .cons h1 h2, h => .cons h1 (dv_app h2 h)
theorem dv_at {F : Hp} : ∀ {kvs : List (κ × L2.V)} {ds : List (κ × PyData)} {i : Nat} {k : κ} {d : PyData}, DV F kvs ds → ds[i]? = some (k, d) → ∃ v, kvs[i]? = some (k, v) ∧ Dq F v d
  | _, _, i, k, d, .nil, h => by simp at h
  | _, _, 0, k, d, .cons h1 h2, h => by
    simp at h
    obtain ⟨rfl, rfl⟩ := h
    exact ⟨_, rfl, h1⟩
  | _, _, i + 1, k, d, .cons h1 h2, h => dv_at (i := i) h2 (by simpa using h)
theorem dv_keys {F : Hp} : ∀ {kvs : List (κ × L2.V)} {ds : List (κ × PyData)}, DV F kvs ds → kvs.map (·.1) = ds.map (·.1)
  | _, _, .nil => rfl
  | _, _, .cons h1 h2 => by rw [List.map_cons, List.map_cons, dv_keys h2]
theorem dv_vals {F : Hp} : ∀ {kvs : List (κ × L2.V)} {ds : List (κ × PyData)}, DV F kvs ds → DqAll F (kvs.map (·.2)) (ds.map (·.2))
  | _, _, .nil => .nil
  | _, _, .cons h1 h2 => .cons h1 (dv_vals h2)
variable [DecidableEq κ]
theorem dv_get {F : Hp} (k : κ) : ∀ {kvs : List (κ × L2.V)} {ds : List (κ × PyData)}, DV F kvs ds → (∀ d, dGet ds k = some d → ∃ v, dGet kvs k = some v ∧ Dq F v d) ∧ (dGet ds k = none → dGet kvs k = none)
  | _, _, .nil => ⟨fun d h => (nomatch h), fun _ => rfl⟩
  | _, _, .cons (k := j) h1 h2 => by
    have ih := dv_get k h2
    unfold dGet at ih ⊢
    rw [List.find?_cons, List.find?_cons]
    by_cases e : j = k
    · simp only [e, decide_true]
      exact ⟨fun d h => by cases h; exact ⟨_, rfl, h1⟩, fun h => nomatch h⟩
    · simp only [e, decide_false]
      exact ih
theorem dv_any {F : Hp} (k : κ) : ∀ {kvs : List (κ × L2.V)} {ds : List (κ × PyData)}, DV F kvs ds → (kvs.any fun kv => decide (kv.1 = k)) = ds.any fun kv => decide (kv.1 = k)
  | _, _, .nil => rfl
  | _, _, .cons (k := j) h1 h2 => by
    rw [List.any_cons, List.any_cons, dv_any k h2]
theorem dv_rep {F : Hp} (k : κ) {v : L2.V} {d : PyData} (hd : Dq F v d) : ∀ {kvs : List (κ × L2.V)} {ds : List (κ × PyData)}, DV F kvs ds → DV F (kvs.map fun kv => if kv.1 = k then (kv.1, v) else kv) (ds.map fun kv => if kv.1 = k then (kv.1, d) else kv)
  | _, _, .nil => .nil
  | _, _, .cons (k := j) h1 h2 => by
    rw [List.map_cons, List.map_cons]
    by_cases e : j = k
    · simp only [e, if_true]
      exact .cons hd (dv_rep k hd h2)
    · simp only [e, if_false]
      exact .cons h1 (dv_rep k hd h2)
theorem dv_put {F : Hp} (k : κ) {v : L2.V} {d : PyData} (hd : Dq F v d) {kvs : List (κ × L2.V)} {ds : List (κ × PyData)} (h : DV F kvs ds) : DV F (dPut kvs k v) (dPut ds k d) := by
  unfold dPut
  rw [dv_any k h]
  split
  · exact dv_rep k hd h
  · exact dv_app h (.cons hd .nil)
theorem dv_del {F : Hp} (k : κ) : ∀ {kvs : List (κ × L2.V)} {ds : List (κ × PyData)}, DV F kvs ds → DV F (dDel kvs k) (dDel ds k)
  | _, _, .nil => .nil
  | _, _, .cons (k := j) h1 h2 => by
    have ih := dv_del k h2
    unfold dDel at ih ⊢
    rw [List.filter_cons, List.filter_cons]
    by_cases e : j = k
    · simp only [e, ne_eq, not_true_eq_false, decide_false, Bool.false_eq_true, if_false]
      exact ih
    · simp only [ne_eq, e, not_false_eq_true, decide_true, if_true]
      exact .cons h1 ih
end

/-! ### an owned dict; a dict as data -/
section
variable {κ : Type}
def od (kd : Kd κ) (d : List (κ × PyData)) : Ent := fun p F h => ∃ kvs, h = one p (kd.ho kvs) ∧ DV F kvs d
theorem uni_od {kd : Kd κ} {d : List (κ × PyData)} : Uni (od kd d) (fun F o => ∃ kvs, o = kd.ho kvs ∧ DV F kvs d) := fun p F h ⟨kvs, e, x⟩ => ⟨_, e, kvs, rfl, x⟩
theorem od_one {kd : Kd κ} {d : List (κ × PyData)} {p : Addr} {F : Hp} {kvs : List (κ × L2.V)} (h : DV F kvs d) : ∀ F', Same F F' → od kd d p F' (one p (kd.ho kvs)) := fun _ g => ⟨kvs, rfl, dv_mono g h⟩
theorem dq_pd {F : Hp} {kd : Kd κ} {a : Addr} {ob : Obj} {kvs : List (κ × L2.V)} {d : List (κ × PyData)} (h : F a = some (.frz ob (kd.ho kvs))) (k : DV F kvs d) : Dq F (.ref a) (kd.pd d) := by
  have kk := dv_keys k
  have kv := dv_vals k
  cases kd with
  | fl f =>
    refine .dctK h ?_ ?_
    · rw [List.map_map, List.map_map]
      have : (kvs.map (·.1)).map (fun x => kPD (f x)) = (d.map (·.1)).map (fun x => kPD (f x)) := by rw [kk]
      rw [List.map_map, List.map_map] at this
      exact this
    · rw [List.map_map, List.map_map]
      exact kv
  | tu f =>
    refine .dctT h ?_ ?_
    · rw [List.map_map, List.map_map]
      have : (kvs.map (·.1)).map (fun x => PyData.tuple ((f x).map kPD)) = (d.map (·.1)).map (fun x => PyData.tuple ((f x).map kPD)) := by rw [kk]
      rw [List.map_map, List.map_map] at this
      exact this
    · rw [List.map_map, List.map_map]
      exact kv
theorem dv_of {F : Hp} {κ' : Type} {f : κ → κ'} {g : κ' → PyData} (hg : ∀ a b, g a = g b → a = b) : ∀ {kvs : List (κ' × L2.V)} {d : List (κ × PyData)}, kvs.map (fun p => g p.1) = d.map (fun p => g (f p.1)) → DqAll F (kvs.map (·.2)) (d.map (·.2)) → ∃ kvs' : List (κ × L2.V), kvs = kvs'.map (fun p => (f p.1, p.2)) ∧ DV F kvs' d
  | [], [], _, _ => ⟨[], rfl, .nil⟩
  | [], _ :: _, h, _ => nomatch h
  | _ :: _, [], h, _ => nomatch h
  | (a, v) :: kvs, (k, x) :: d, h, hv => by
    rw [List.map_cons, List.map_cons] at h hv
    injection h with h1 h2
    cases hv with
    | cons v1 v2 =>
      obtain ⟨r, rfl, hr⟩ := dv_of hg h2 v2
      exact ⟨(k, v) :: r, by rw [List.map_cons, ← hg _ _ h1], .cons v1 hr⟩
theorem pd_dq {F : Hp} {kd : Kd κ} {v : L2.V} {d : List (κ × PyData)} (h : Dq F v (kd.pd d)) : ∃ a ob kvs, v = .ref a ∧ F a = some (.frz ob (kd.ho kvs)) ∧ DV F kvs d := by
  cases kd with
  | fl f =>
    generalize e : (Kd.fl f).pd d = x at h
    cases h with
    | dctK h1 h2 h3 =>
      injection e with e
      subst e
      rw [List.map_map] at h2 h3
      obtain ⟨r, rfl, hr⟩ := dv_of (f := f) (g := kPD) (fun _ _ => kPD_inj) h2 h3
      exact ⟨_, _, r, rfl, h1, hr⟩
    | dctT h1 h2 h3 =>
      injection e with e
      cases d with
      | nil => cases e
      | cons p d =>
        rw [List.map_cons] at e
        injection e with e _
        injection e with e _
        cases hk : f p.1 <;> rw [hk] at e <;> cases e
    | _ => cases e
  | tu f =>
    generalize e : (Kd.tu f).pd d = x at h
    cases h with
    | dctT h1 h2 h3 =>
      injection e with e
      injection e with _ e
      subst e
      rw [List.map_map] at h2 h3
      obtain ⟨r, rfl, hr⟩ := dv_of (f := f) (g := fun l : List Key => PyData.tuple (l.map kPD)) (fun a b z => kPDs_inj (by injection z)) h2 h3
      exact ⟨_, _, r, rfl, h1, hr⟩
    | @dctK a ob kvs ps h1 h2 h3 =>
      injection e with e
      subst e
      cases kvs with
      | nil => cases h2
      | cons p kvs =>
        rw [List.map_cons, List.map_cons] at h2
        injection h2 with e _
        cases hk : p.1 <;> rw [hk] at e <;> cases e
    | _ => cases e
theorem frb_od {kd : Kd κ} {d : List (κ × PyData)} : Frb (od kd d) (kd.pd d) := fun p F os H Q ow q => by
  obtain ⟨fp, o, ho, _, kvs, rfl, hv⟩ := ow.atU uni_od
  refine .lock p _ ho (kd.mut kvs) fun ob => .now ?_
  have o1 : Ow F ((p, fun q G h => h = one q (.frz ob (kd.ho kvs)) ∧ DV G kvs d) :: os) (upd H p (.frz ob (kd.ho kvs))) := ow.putU uni_od fun G g => ⟨rfl, dv_mono g hv⟩
  obtain ⟨o', ho', ⟨rfl, hv'⟩, s, o2⟩ := o1.freezeU (r := fun G o => o = .frz ob (kd.ho kvs) ∧ DV G kvs d) fun q G h ⟨e, x⟩ => ⟨_, e, rfl, x⟩
  exact q _ _ s o2 (dq_pd upd_same (dv_mono s hv'))
end
end Z
/-! Z, part S: dicts read and written. -/
namespace Z
open PySem PySem.Spec PyProof.Rows L2

abbrev eM {κ β : Type} (e : β → PyData) (w : List (κ × β)) : List (κ × PyData) := w.map fun p => (p.1, e p.2)
abbrev eD {κ β : Type} (kd : Kd κ) (e : β → PyData) : List (κ × β) → PyData := fun w => kd.pd (eM e w)
section
variable {κ β : Type} {kd : Kd κ} {enc : β → PyData}
def KeyV (kd : Kd κ) (k : κ) (F : Hp) (y : L2.V) : Prop := match kd with
  | .fl f => y = kV (f k)
  | .tu f => ∃ b, y = .ref b ∧ F b = some (.tup ((f k).map kV))
theorem dq_key {F : Hp} : ∀ {k : Key} {v : L2.V}, Dq F v (kPD k) → v = kV k
  | .inl _, _, h => by cases h; rfl
  | .inr _, _, h => by cases h; rfl
theorem dqall_keys {F : Hp} : ∀ {ks : List Key} {vs : List L2.V}, DqAll F vs (ks.map kPD) → vs = ks.map kV
  | [], _, h => by cases h; rfl
  | k :: ks, _, h => by
    cases h with
    | cons h1 h2 => rw [dq_key h1, dqall_keys h2, List.map_cons]
theorem key_val {k : κ} {F : Hp} {y : L2.V} (h : Cl (dat (kd.ek k)) F y) : KeyV kd k F y := by
  have q := h.now
  cases kd with
  | fl f => exact dq_key q
  | tu f =>
    have q : Dq F y (.tuple ((f k).map kPD)) := q
    cases q with
    | tup a b => exact ⟨_, rfl, by rw [← dqall_keys b]; exact a⟩
variable [DecidableEq κ]
theorem dget_of (hi : kd.Inj) {F H : Hp} (s : Same F H) {a : Addr} {kvs : List (κ × L2.V)} {k : κ} {y : L2.V} (e : Rd H a (kd.ho kvs)) (hk : KeyV kd k F y) : DGet H a y (dGet kvs k) := by
  cases kd with
  | fl f => exact .inl ⟨_, f k, e, hk, (dGet_key hi k kvs).symm⟩
  | tu f =>
    obtain ⟨b, rfl, hb⟩ := hk
    exact .inr ⟨_, f k, b, e, rfl, s _ _ hb, (dGet_key hi k kvs).symm⟩
theorem dput_of (hi : kd.Inj) {F H : Hp} (s : Same F H) {a : Addr} {kvs : List (κ × L2.V)} {k : κ} {y v : L2.V} (e : H a = some (kd.ho kvs)) (hk : KeyV kd k F y) (hl : kvs.length < sizeLine) : DPut H a y v (upd H a (kd.ho (dPut kvs k v))) := by
  cases kd with
  | fl f => exact .inl ⟨_, f k, e, hk, by rw [List.length_map]; exact hl, by rw [putK_dPut, dPut_key hi]; rfl⟩
  | tu f =>
    obtain ⟨b, rfl, hb⟩ := hk
    exact .inr ⟨_, f k, b, e, rfl, s _ _ hb, by rw [List.length_map]; exact hl, by rw [putK_dPut, dPut_key hi]; rfl⟩
theorem isD_of {H : Hp} {a : Addr} {kvs : List (κ × L2.V)} (e : Rd H a (kd.ho kvs)) : IsD H a := by
  cases kd with
  | fl f => exact .inl ⟨_, e⟩
  | tu f => exact .inr ⟨_, e⟩
end

theorem Bd.u1 {X : Cx} {N V G : List Str} {n : Nat} (B : Bd X N V G n) : X.A.units + 1 < cLine := by
  have := B.room.units
  omega

/-! ### what may be read as a table; what may be written -/
section
variable {κ β : Type}
def RdD (kd : Kd κ) (φ : VP) (os : Os) (d : List (κ × PyData)) : Prop := ∀ F H v, Ow F os H → Cl φ F v → ∃ a kvs, v = .ref a ∧ Rd H a (kd.ho kvs) ∧ DV F kvs d
theorem rdd_dat {kd : Kd κ} {os : Os} {d : List (κ × PyData)} : RdD kd (dat (kd.pd d)) os d := fun F H v ow c => by
  obtain ⟨a, ob, kvs, rfl, h1, h2⟩ := pd_dq c.now
  exact ⟨a, kvs, rfl, .inr ⟨ob, ow.ex _ _ h1⟩, h2⟩
theorem rdd_own {kd : Kd κ} {os : Os} {d : List (κ × PyData)} {p : Addr} (k : Nat) (h : os[k]? = some (p, od kd d)) : RdD kd (own p) os d := fun F H v ow c => by
  obtain ⟨_, o, ho, _, kvs, rfl, hv⟩ := (ow.perm (perm_at h)).atU uni_od
  exact ⟨p, kvs, c.now, .inl ho, hv⟩
/-- at q stands an entry of one thing, of the content d; another content may take its place -/
def WrT {γ : Type} (os : Os) (q : Addr) (f : γ → Ent) (d : γ) (os' : γ → Os) : Prop := ∀ F H (r : Hp → HO → Prop), Uni (f d) r → Ow F os H → F q = none ∧ ∃ o, H q = some o ∧ f d q F (one q o) ∧ r F o ∧
  ∀ o' d', (∀ xs, o' ≠ .tup xs) → (∀ F', Same F F' → f d' q F' (one q o')) → Ow F (os' d') (upd H q o')
theorem wr_flat {γ : Type} {os : Os} {q : Addr} {f : γ → Ent} {d : γ} (j : Nat) (h : os[j]? = some (q, f d)) : WrT os q f d (fun d' => os.set j (q, f d')) := fun F H r u ow => by
  have o1 := ow.perm (perm_at h)
  obtain ⟨a, o, b, c, d⟩ := o1.atU u
  exact ⟨a, o, b, c, d, fun o' e' nt he => (o1.putU u he nt).perm (perm_set h)⟩
abbrev odT (kd : Kd κ) (e : β → PyData) : List (κ × β) → Ent := fun w => od kd (eM e w)
abbrev olT (e : β → PyData) : List β → Ent := fun w => ol (w.map e)
theorem rdd_wr {kd : Kd κ} {enc : β → PyData} {os : Os} {d : List (κ × β)} {q : Addr} {os' : List (κ × β) → Os} (h : WrT os q (odT kd enc) d os') : RdD kd (own q) os (eM enc d) := fun F H v ow c => by
  obtain ⟨_, o, ho, _, ⟨kvs, rfl, hv⟩, _⟩ := h F H _ uni_od ow
  exact ⟨q, kvs, c.now, .inl ho, hv⟩
theorem rdl_wr {X : Cx} {enc : β → PyData} {os : Os} {d : List β} {q : Addr} {os' : List β → Os} (h : WrT os q (olT enc) d os') : RdL X (own q) os (d.map enc) := fun F H v ow c => by
  obtain ⟨_, o, ho, _, ⟨vs, rfl, hv⟩, _⟩ := h F H _ uni_ol ow
  exact ⟨q, vs, c.now, .of ho, hv⟩
end

section
variable {X : Cx} {es es' : List Slot} {os os1 os2 os3 : Os} {F0 : Hp} {rest : List Stmt} {D : Ends} {N V G W : List Str} {n i vi gi : Nat} {p pos apos cpos : Pos} {e a b c : Expr} {φ : VP} {κ β : Type} [DecidableEq κ] {kd : Kd κ} {enc : β → PyData} {w : List (κ × β)} {k : κ} {x : β}
theorem EN.exF {m : Ent} {d : PyData} (h : EN X es os e m os1) (f : Frb m d) : EX X es os e (dat d) os1 := fun F σ H Q ow sl q =>
  we_lk (h F σ H _ ow sl fun F' H' p e o => f p F' os1 H' _ o fun F2 H2 s o2 dq => q F2 H2 _ (e.trans s) o2 (cl_dat dq))
theorem sx_frzF {j : Nat} {q : Addr} {m : Ent} {d : PyData} (f : Frb m d) (hj : os[j]? = some (q, m)) (hi : es[i]? = some (sl (own q))) (h : SX X (es.set i (sl (dat d))) (os.eraseIdx j) F0 rest D) : SX X es os F0 rest D := fun F σ H s ow sl =>
  wps_lk (f q F _ H _ (ow.perm (perm_at hj)) fun F2 H2 s2 o2 dq => by
    obtain ⟨v, ev, cv⟩ := sl.val hi
    obtain rfl : v = .ref q := cv.now
    have sl2 := (sl.mono s2).put (i := i) (v := .ref q) (φ := dat d) (cl_dat dq)
    have e2 : σ.set i (some (.ref q)) = σ := by
      refine List.ext_getElem? fun m => ?_
      by_cases hm : i = m
      · subst hm
        rw [List.getElem?_set_self (List.getElem?_eq_some_iff.mp ev).1, ev]
      · rw [List.getElem?_set_ne hm]
    rw [e2] at sl2
    exact h F2 σ H2 (s.trans s2) o2 sl2)

/-! ### reading -/
theorem ex_dget (hi : kd.Inj) (hk : dGet w k = some x) (B : Bd X N W G n) (hr : RdD kd φ os2 (eM enc w)) (ha : EX X es os a φ os1) (hb : EX X es os1 b (dat (kd.ek k)) os2) (hs : NoSl b := by intro _ _; rfl) : EX X es os (.Subscript a b pos) (dat (enc x)) os2 := fun F σ H Q ow sl q =>
  we_of (pe_dget B.u1 pe_u pe_u hs) (ha F σ H _ ow sl fun F1 H1 v e1 o1 c1 => hb F1 σ H1 _ o1 (sl.mono e1) fun F2 H2 y e2 o2 c2 => by
    obtain ⟨p, kvs, rfl, rd, dv⟩ := hr F2 H2 v o2 (c1.mono e2)
    obtain ⟨u, hu, hd⟩ := (dv_get k dv).1 (enc x) (by rw [dGet_map, hk]; rfl)
    exact ⟨p, u, rfl, hu ▸ dget_of hi o2.ex rd (key_val c2), q F2 H2 u (e1.trans e2) o2 (cl_dat hd)⟩)
theorem dget_some (hi : kd.Inj) {F H : Hp} {p : Addr} {kvs : List (κ × L2.V)} (dv : DV F kvs (eM enc w)) : (dGet kvs k).isSome = (dGet w k).isSome := by
  cases h : dGet w k with
  | none =>
    rw [(dv_get k dv).2 (by rw [dGet_map, h]; rfl)]
    rfl
  | some x =>
    obtain ⟨u, hu, _⟩ := (dv_get k dv).1 (enc x) (by rw [dGet_map, h]; rfl)
    rw [hu]
    rfl
theorem ex_din (hi : kd.Inj) (B : Bd X N W G n) (hr : RdD kd φ os2 (eM enc w)) (ha : EX X es os a (dat (kd.ek k)) os1) (hb : EX X es os1 b φ os2) (hm : behindInMarks .In b = false := by rfl) : EX X es os (.Compare a [.In] [b] pos) (dat (.bool (dGet w k).isSome)) os2 := fun F σ H Q ow sl q =>
  we_of (pe_cmp (pc_din B.u1 pe_u pe_u) hm) (ha F σ H _ ow sl fun F1 H1 y e1 o1 c1 => hb F1 σ H1 _ o1 (sl.mono e1) fun F2 H2 v e2 o2 c2 => by
    obtain ⟨p, kvs, rfl, rd, dv⟩ := hr F2 H2 v o2 c2
    exact ⟨p, _, rfl, dget_of hi o2.ex rd (key_val (c1.mono e2)), by rw [dget_some (H := H2) (p := p) hi dv]; exact q F2 H2 _ (e1.trans e2) o2 (cl_dat (.bl _))⟩)
theorem ex_dnotin (hi : kd.Inj) (B : Bd X N W G n) (hr : RdD kd φ os2 (eM enc w)) (ha : EX X es os a (dat (kd.ek k)) os1) (hb : EX X es os1 b φ os2) (hm : behindInMarks .NotIn b = false := by rfl) : EX X es os (.Compare a [.NotIn] [b] pos) (dat (.bool (!(dGet w k).isSome))) os2 := fun F σ H Q ow sl q =>
  we_of (pe_cmp (pc_dnotin B.u1 pe_u pe_u) hm) (ha F σ H _ ow sl fun F1 H1 y e1 o1 c1 => hb F1 σ H1 _ o1 (sl.mono e1) fun F2 H2 v e2 o2 c2 => by
    obtain ⟨p, kvs, rfl, rd, dv⟩ := hr F2 H2 v o2 c2
    exact ⟨p, _, rfl, dget_of hi o2.ex rd (key_val (c1.mono e2)), by rw [dget_some (H := H2) (p := p) hi dv]; exact q F2 H2 _ (e1.trans e2) o2 (cl_dat (.bl _))⟩)
theorem dq_opt {F : Hp} {kvs : List (κ × L2.V)} (dv : DV F kvs (eM enc w)) : Dq F ((dGet kvs k).getD .non) (eO enc (dGet w k)) := by
  cases h : dGet w k with
  | none =>
    rw [(dv_get k dv).2 (by rw [dGet_map, h]; rfl)]
    exact .non
  | some x =>
    obtain ⟨u, hu, hd⟩ := (dv_get k dv).1 (enc x) (by rw [dGet_map, h]; rfl)
    rw [hu]
    exact hd
/-- d.get(k) -/
theorem ex_dget1 (hi : kd.Inj) (B : Bd X N W G n) (hr : RdD kd φ os1 (eM enc w)) (hr2 : RdD kd φ os2 (eM enc w)) (ha : EX X es os a φ os1) (hb : EX X es os1 b (dat (kd.ek k)) os2) (hbase : attributeBase a "get" X.env (eval a X.env) = eval a X.env := by rfl) (hline : (apos.endLine == cpos.line) = true := by rfl)
    (htr : backTo cpos (starEach [b] X.env) = [(false, eval b X.env)] := by rfl) : EX X es os (.Call (.Attribute a "get" apos) [b] [] cpos) (dat (eO enc (dGet w k))) os2 := fun F σ H Q ow sl q =>
  we_of (pe_dget1 B.u1 pe_u pe_u ⟨hbase, by rw [htr]; rfl, hline, htr⟩) (ha F σ H _ ow sl fun F1 H1 v e1 o1 c1 => by
    obtain ⟨p, kvs, rfl, rd, dv⟩ := hr F1 H1 v o1 c1
    refine ⟨p, rfl, isD_of rd, hb F1 σ H1 _ o1 (sl.mono e1) fun F2 H2 y e2 o2 c2 => ?_⟩
    obtain ⟨p', kvs', ep, rd', dv'⟩ := hr2 F2 H2 _ o2 (c1.mono e2)
    cases ep
    exact ⟨_, dget_of hi o2.ex rd' (key_val c2), q F2 H2 _ (e1.trans e2) o2 (cl_dat (dq_opt dv'))⟩)
/-- d.get(k, x) -/
theorem ex_dget2 (hi : kd.Inj) (B : Bd X N W G n) (hr : RdD kd φ os1 (eM enc w)) (hr2 : RdD kd φ os3 (eM enc w)) (ha : EX X es os a φ os1) (hb : EX X es os1 b (dat (kd.ek k)) os2) (hc : EX X es os2 c (dat (enc x)) os3) (hbase : attributeBase a "get" X.env (eval a X.env) = eval a X.env := by rfl) (hline : (apos.endLine == cpos.line) = true := by rfl)
    (htr : backTo cpos (starEach [b, c] X.env) = [(false, eval b X.env), (false, eval c X.env)] := by rfl) : EX X es os (.Call (.Attribute a "get" apos) [b, c] [] cpos) (dat (enc ((dGet w k).getD x))) os3 := fun F σ H Q ow sl q =>
  we_of (pe_dget2 B.u1 pe_u pe_u pe_u ⟨hbase, by rw [htr]; rfl, hline, htr⟩) (ha F σ H _ ow sl fun F1 H1 v e1 o1 c1 => by
    obtain ⟨p, kvs, rfl, rd, dv⟩ := hr F1 H1 v o1 c1
    refine ⟨p, rfl, isD_of rd, hb F1 σ H1 _ o1 (sl.mono e1) fun F2 H2 y e2 o2 c2 => hc F2 σ H2 _ o2 (sl.mono (e1.trans e2)) fun F3 H3 z e3 o3 c3 => ?_⟩
    obtain ⟨p', kvs', ep, rd', dv'⟩ := hr2 F3 H3 _ o3 ((c1.mono e2).mono e3)
    cases ep
    refine ⟨_, dget_of hi o3.ex rd' (key_val (c2.mono e3)), q F3 H3 _ ((e1.trans e2).trans e3) o3 ?_⟩
    cases h : dGet w k with
    | none =>
      rw [(dv_get k dv').2 (by rw [dGet_map, h]; rfl)]
      exact c3
    | some x =>
      obtain ⟨u, hu, hd⟩ := (dv_get k dv').1 (enc x) (by rw [dGet_map, h]; rfl)
      rw [hu]
      exact cl_dat hd)
/-- {} -/
theorem en_dnew : EN X es os (.Dict [] [] pos) (od kd []) os := fun F σ H Q ow sl q => by
  cases kd with
  | fl f => exact we_of pe_dnewK fun p hp => q F _ p (Same.refl F) (ow.new hp (od_one (kd := .fl f) .nil))
  | tu f => exact we_of pe_dnewT fun p hp => q F _ p (Same.refl F) (ow.new hp (od_one (kd := .tu f) .nil))
/-- len(d), keys ints or texts -/
def rLenD : List L2.V → Hp → VK → Prop := fun xs H Q => ∃ (p : Addr) (kvs : List (Key × L2.V)), xs = [.ref p] ∧ Rd H p (.dK kvs) ∧ Q (.int kvs.length) H
theorem call_len_d : CallR X (.builtin "len") rLenD := by
  intro pins s σ H vs us Q I r h
  obtain ⟨p, kvs, rfl, rd, q⟩ := h
  obtain ⟨u, rfl, ru⟩ := vals1 r
  obtain rfl : u = Value.ref p := ru
  exact d_len I rd fun t s' I' => ⟨.int _, H, I', ⟨_, rfl⟩, q⟩
theorem rc_lenD {f : κ → Key} (hr : RdD (.fl f) φ os (eM enc w)) : RCX rLenD [φ] os (dat (.int (w.length : Int))) os := fun F H vs Q ow c q => by
  obtain ⟨v, rfl, h⟩ := cla1 c
  obtain ⟨p, kvs, rfl, rd, dv⟩ := hr F H v ow h
  refine ⟨p, _, rfl, rd, ?_⟩
  have : (kvs.map fun z => (f z.1, z.2)).length = w.length := by rw [List.length_map, dv_len dv, List.length_map]
  rw [this]
  exact q F H _ (Same.refl F) ow (cl_dat (.int _))
/-- dict(d), keys ints or texts -/
def rCopyD : List L2.V → Hp → VK → Prop := fun xs H Q => ∃ (p : Addr) (kvs : List (Key × L2.V)), xs = [.ref p] ∧ Rd H p (.dK kvs) ∧ ∀ m, H m = none → Q (.ref m) (upd H m (.dK kvs))
theorem call_copy_d : CallR X (.type "dict") rCopyD := by
  intro pins s σ H vs us Q I r h
  obtain ⟨p, kvs, rfl, rd, q⟩ := h
  obtain ⟨u, rfl, ru⟩ := vals1 r
  obtain rfl : u = Value.ref p := ru
  exact d_copyOf I rd fun m s' hm I' => ⟨.ref m, _, I', rfl, q m hm⟩
theorem rc_copyD {f : κ → Key} {d : List (κ × PyData)} (hr : RdD (.fl f) φ os d) : RCN rCopyD [φ] os (od (.fl f) d) os := fun F H vs Q ow c q => by
  obtain ⟨v, rfl, h⟩ := cla1 c
  obtain ⟨p, kvs, rfl, rd, dv⟩ := hr F H v ow h
  exact ⟨p, _, rfl, rd, fun m hm => q F _ m (Same.refl F) (ow.new hm (od_one (kd := .fl f) dv))⟩

/-! ### writing -/
theorem dput_enc {F : Hp} {kvs : List (κ × L2.V)} {v : L2.V} (dv : DV F kvs (eM enc w)) (hd : Dq F v (enc x)) : DV F (dPut kvs k v) (eM enc (dPut w k x)) := by
  have := dv_put k hd dv
  rw [dPut_map] at this
  exact this
/-- a[b] = e -/
theorem sx_dput {w' : List (κ × β)} {tpos : Pos} {q : Addr} {os' : List (κ × β) → Os} (hi : kd.Inj) (hp : dPutO w k x = some w') (B : Bd X N W G n) (he : EX X es os e (dat (enc x)) os1) (ho : EX X es os1 a (own q) os2) (hb : EX X es os2 b (dat (kd.ek k)) os3) (hw : WrT os3 q (odT kd enc) w os')
    (h : SX X es (os' w') F0 rest D) (hs : swapsWith e (some (.Subscript a b tpos)) pos.line X.env = pure false := by rfl) : SX X es os F0 (.Assign [.Subscript a b tpos] e pos :: rest) D := fun F σ H s ow sl => by
  unfold dPutO at hp
  split at hp
  · rename_i hl
    cases hp
    refine wps_cons (ws_of (ps_dput B.u1 pe_u pe_u pe_u hs) (he F σ H _ ow sl fun F1 H1 v e1 o1 c1 => ho F1 σ H1 _ o1 (sl.mono e1) fun F2 H2 u e2 o2 c2 => hb F2 σ H2 _ o2 (sl.mono (e1.trans e2)) fun F3 H3 y e3 o3 c3 => ?_))
    obtain rfl : u = .ref q := c2.now
    obtain ⟨_, o, hq, _, ⟨kvs, rfl, dv⟩, z⟩ := hw F3 H3 _ uni_od o3
    have e := (e1.trans e2).trans e3
    refine ⟨q, _, rfl, dput_of hi o3.ex hq (key_val c3) (by rw [dv_len dv, List.length_map]; exact hl), ?_⟩
    exact h F3 σ _ (s.trans e) (z _ _ (Kd.ntup _ _) (od_one (dput_enc dv ((c1.mono e2).mono e3).now))) (sl.mono e)
  · cases hp
/-- a.pop(b), keys ints or texts -/
theorem ex_dpop {f : κ → Key} {r : β × List (κ × β)} {q : Addr} {os' : List (κ × β) → Os} (hi : (Kd.fl f).Inj) (hp : dPopO w k = some r) (ho : EX X es os a (own q) os1) (h0 : RdD (.fl f) (own q) os1 d0) (hb : EX X es os1 b (dat ((Kd.fl f).ek k)) os2) (hw : WrT os2 q (odT (.fl f) enc) w os')
    (hbase : attributeBase a "pop" X.env (eval a X.env) = eval a X.env := by rfl) (hline : (apos.endLine == cpos.line) = true := by rfl) (htr : backTo cpos (starEach [b] X.env) = [(false, eval b X.env)] := by rfl) :
    EX X es os (.Call (.Attribute a "pop" apos) [b] [] cpos) (dat (enc r.1)) (os' r.2) := fun F σ H Q ow sl qq => by
  unfold dPopO at hp
  cases hg : dGet w k with
  | none =>
    rw [hg] at hp
    cases hp
  | some x =>
    rw [hg] at hp
    cases hp
    refine we_of (pe_dpop1 pe_u pe_u ⟨hbase, by rw [htr]; rfl, hline, htr⟩) (ho F σ H _ ow sl fun F1 H1 v e1 o1 c1 => ?_)
    obtain ⟨p, kvs0, rfl, rd, _⟩ := h0 F1 H1 v o1 c1
    obtain rfl : p = q := by
      have := c1.now
      cases this
      rfl
    refine ⟨p, rfl, isD_of (kd := .fl f) rd, hb F1 σ H1 _ o1 (sl.mono e1) fun F2 H2 y e2 o2 c2 => ?_⟩
    obtain ⟨_, o, hq, _, ⟨kvs, rfl, dv⟩, z⟩ := hw F2 H2 _ uni_od o2
    obtain ⟨u, hu, hd⟩ := (dv_get k dv).1 (enc x) (by rw [dGet_map, hg]; rfl)
    refine ⟨_, f k, u, hq, key_val (kd := .fl f) c2, ?_, ?_⟩
    · rw [valV_dGet, dGet_key hi]
      exact hu
    · have e5 : dropK (kvs.map fun p => (f p.1, p.2)) (f k) = (dDel kvs k).map fun p => (f p.1, p.2) := dDel_key hi k kvs
      rw [e5]
      have d5 := dv_del k dv
      rw [dDel_map] at d5
      exact qq F2 _ u (e1.trans e2) (z _ _ (Kd.ntup (.fl f) _) (od_one (kd := .fl f) d5)) (cl_dat hd)
/-- a.setdefault(b, c), keys ints or texts -/
def dSetO (w : List (κ × β)) (k : κ) (x : β) : Option (β × List (κ × β)) := if w.length < sizeLine then some (match dGet w k with
  | some y => (y, w)
  | none => (x, dPut w k x)) else none
theorem ex_dsetd {f : κ → Key} {r : β × List (κ × β)} {q : Addr} {os' : List (κ × β) → Os} (hi : (Kd.fl f).Inj) (hp : dSetO w k x = some r) (ho : EX X es os a (own q) os1) (h0 : RdD (.fl f) (own q) os1 d0) (hb : EX X es os1 b (dat ((Kd.fl f).ek k)) os2) (hc : EX X es os2 c (dat (enc x)) os3) (hw : WrT os3 q (odT (.fl f) enc) w os')
    (hsame : ∀ F H, Ow F os3 H → Ow F (os' w) H)
    (hbase : attributeBase a "setdefault" X.env (eval a X.env) = eval a X.env := by rfl) (hline : (apos.endLine == cpos.line) = true := by rfl) (htr : backTo cpos (starEach [b, c] X.env) = [(false, eval b X.env), (false, eval c X.env)] := by rfl) :
    EX X es os (.Call (.Attribute a "setdefault" apos) [b, c] [] cpos) (dat (enc r.1)) (os' r.2) := fun F σ H Q ow sl qq => by
  unfold dSetO at hp
  split at hp
  · rename_i hl
    cases hp
    refine we_of (pe_dsetd pe_u pe_u pe_u ⟨hbase, by rw [htr]; rfl, hline, htr⟩) (ho F σ H _ ow sl fun F1 H1 v e1 o1 c1 => ?_)
    obtain ⟨p, kvs0, rfl, rd, _⟩ := h0 F1 H1 v o1 c1
    obtain rfl : p = q := by
      have := c1.now
      cases this
      rfl
    refine ⟨p, rfl, isD_of (kd := .fl f) rd, hb F1 σ H1 _ o1 (sl.mono e1) fun F2 H2 y e2 o2 c2 => hc F2 σ H2 _ o2 (sl.mono (e1.trans e2)) fun F3 H3 u e3 o3 c3 => ?_⟩
    obtain ⟨_, o, hq, _, ⟨kvs, rfl, dv⟩, z⟩ := hw F3 H3 _ uni_od o3
    have e := (e1.trans e2).trans e3
    refine ⟨_, f k, hq, key_val (kd := .fl f) c2, by rw [List.length_map, dv_len dv, List.length_map]; exact hl, fun v hv => ?_, fun hn => ?_⟩
    · rw [valV_dGet, dGet_key hi] at hv
      cases hg : dGet w k with
      | none =>
        rw [(dv_get k dv).2 (by rw [dGet_map, hg]; rfl)] at hv
        cases hv
      | some y =>
        obtain ⟨u', hu, hd⟩ := (dv_get k dv).1 (enc y) (by rw [dGet_map, hg]; rfl)
        rw [hu] at hv
        cases hv
        simp only [hg] at qq
        exact qq F3 H3 _ e (hsame F3 H3 o3) (cl_dat hd)
    · rw [valV_dGet, dGet_key hi] at hn
      cases hg : dGet w k with
      | some y =>
        obtain ⟨u', hu, hd⟩ := (dv_get k dv).1 (enc y) (by rw [dGet_map, hg]; rfl)
        rw [hu] at hn
        cases hn
      | none =>
        have e5 : putK (kvs.map fun p => (f p.1, p.2)) (f k) u = (dPut kvs k u).map fun p => (f p.1, p.2) := dPut_key hi k u kvs
        rw [e5]
        simp only [hg] at qq
        exact qq F3 _ u e (z _ _ (Kd.ntup (.fl f) _) (od_one (kd := .fl f) (dput_enc dv c3.now))) c3
  · cases hp
end
end Z
/-! Z, part T: dicts walked; lists of one's own dicts or lists. -/
namespace Z
open PySem PySem.Spec PyProof.Rows L2

/-! ### lists of owned things -/
def uniH : List Hp → Hp
  | [] => fun _ => none
  | h :: hs => ov h (uniH hs)
theorem uniH_some : ∀ {l : List Hp} {a : Addr} {o : HO}, uniH l a = some o → ∃ h ∈ l, h a = some o
  | [], _, _, e => nomatch e
  | h :: l, a, o, e => by
    unfold uniH at e
    cases q : h a with
    | some u =>
      rw [ov_some q] at e
      exact ⟨h, List.mem_cons_self, q.trans e⟩
    | none =>
      rw [ov_none q] at e
      obtain ⟨k, hk, e2⟩ := uniH_some e
      exact ⟨k, List.mem_cons_of_mem _ hk, e2⟩
theorem uniH_same : ∀ {l : List Hp} {h : Hp}, l.Pairwise Ap → h ∈ l → Same h (uniH l)
  | [], _, _, m => nomatch m
  | k :: l, h, p, m => by
    obtain ⟨p1, p2⟩ := List.pairwise_cons.mp p
    intro a o e
    unfold uniH
    rcases List.mem_cons.mp m with rfl | m
    · exact ov_some e
    · have : k a = none := (p1 h m).symm a (by rw [e]; simp)
      rw [ov_none this]
      exact uniH_same p2 m a o e
theorem uniH_none {l : List Hp} {a : Addr} (h : ∀ k ∈ l, k a = none) : uniH l a = none := by
  cases e : uniH l a with
  | none => rfl
  | some o =>
    obtain ⟨k, hk, q⟩ := uniH_some e
    rw [h k hk] at q
    cases q
def onl (qs : List Addr) (es : List Ent) : Ent := fun p F h => ∃ hs, h = uniH (one p (.lst (qs.map .ref)) :: hs) ∧ Pcs F (qs.zip es) hs ∧ (one p (.lst (qs.map .ref)) :: hs).Pairwise Ap ∧ (∀ k ∈ hs, NT k) ∧ qs.length = es.length
def onx (es : List Ent) : Ent := fun p F h => ∃ qs, onl qs es p F h
def orf (qs : List Addr) : Ent := fun p _ h => h = one p (.lst (qs.map .ref))
theorem uni_orf {qs : List Addr} : Uni (orf qs) (fun _ o => o = .lst (qs.map .ref)) := fun p F h e => ⟨_, e, rfl⟩
theorem onl_mono {qs : List Addr} {es : List Ent} {p : Addr} {F F' h : Hp} (e : Same F F') (x : onl qs es p F h) : onl qs es p F' h := by
  obtain ⟨hs, a, b, c, d, l⟩ := x
  exact ⟨hs, a, b.mono e, c, d, l⟩
theorem pcs_app {F : Hp} : ∀ {os os' : Os} {hs hs' : List Hp}, Pcs F os hs → Pcs F os' hs' → Pcs F (os ++ os') (hs ++ hs')
  | _, _, _, _, .nil, h => h
  | _, _, _, _, .cons h1 h2, h => .cons h1 (pcs_app h2 h)
theorem pcs_split {F : Hp} : ∀ {os os' : Os} {l : List Hp}, Pcs F (os ++ os') l → ∃ hs hs', l = hs ++ hs' ∧ Pcs F os hs ∧ Pcs F os' hs'
  | [], os', l, h => ⟨[], l, rfl, .nil, h⟩
  | q :: os, os', _, .cons h1 h2 => by
    obtain ⟨hs, hs', rfl, a, b⟩ := pcs_split h2
    exact ⟨_ :: hs, hs', rfl, .cons h1 a, b⟩
section
variable {F H : Hp} {os : Os} {p : Addr} {qs : List Addr} {es : List Ent}
theorem Ow.opn (h : Ow F ((p, onl qs es) :: os) H) : Ow F ((p, orf qs) :: (qs.zip es ++ os)) H ∧ qs.length = es.length := by
  obtain ⟨l, a, b, c⟩ := h.ps
  cases a with
  | @cons _ _ k r h1 h2 =>
    obtain ⟨hs, rfl, p1, pw, nt, hl⟩ := h1 F (Same.refl F)
    obtain ⟨c1, c2⟩ := List.pairwise_cons.mp c
    obtain ⟨s, x, _⟩ := b _ List.mem_cons_self
    have sub : ∀ g ∈ one p (.lst (qs.map .ref)) :: hs, Same g H ∧ Ap F g := fun g hg =>
      ⟨(uniH_same pw hg).trans s, fun z hz => (uniH_same pw hg).free (x z hz)⟩
    have far : ∀ g ∈ one p (.lst (qs.map .ref)) :: hs, ∀ t ∈ r, Ap g t := fun g hg t ht z hz => by
      refine c1 t ht z ?_
      cases e : g z with
      | none => exact (hz e).elim
      | some o => rw [uniH_same pw hg z o e]; simp
    refine ⟨⟨h.ex, one p (.lst (qs.map .ref)) :: (hs ++ r), .cons (fun _ _ => rfl) (pcs_app p1 h2), fun g hg => ?_, ?_⟩, hl⟩
    · rcases List.mem_cons.mp hg with rfl | hg
      · exact ⟨(sub _ List.mem_cons_self).1, (sub _ List.mem_cons_self).2, nt_one (fun _ z => by cases z)⟩
      · rcases List.mem_append.mp hg with hg | hg
        · exact ⟨(sub g (List.mem_cons_of_mem _ hg)).1, (sub g (List.mem_cons_of_mem _ hg)).2, nt g hg⟩
        · exact b g (List.mem_cons_of_mem _ hg)
    · rw [← List.cons_append]
      exact List.pairwise_append.mpr ⟨pw, c2, fun g hg t ht => far g hg t ht⟩
theorem Ow.cls (h : Ow F ((p, orf qs) :: (qs.zip es ++ os)) H) (hl : qs.length = es.length) : Ow F ((p, onl qs es) :: os) H := by
  obtain ⟨l, a, b, c⟩ := h.ps
  cases a with
  | @cons _ _ k r h1 h2 =>
    obtain rfl : k = one p (.lst (qs.map .ref)) := h1 F (Same.refl F)
    obtain ⟨hs, r', rfl, p1, p2⟩ := pcs_split h2
    rw [← List.cons_append] at c
    obtain ⟨c1, c2, c3⟩ := List.pairwise_append.mp c
    have bb : ∀ g ∈ one p (.lst (qs.map .ref)) :: hs, Same g H ∧ Ap F g ∧ NT g := fun g hg => b g (by
      rcases List.mem_cons.mp hg with rfl | hg
      · exact List.mem_cons_self
      · exact List.mem_cons_of_mem _ (List.mem_append_left _ hg))
    refine ⟨h.ex, uniH (one p (.lst (qs.map .ref)) :: hs) :: r', .cons (fun F' s => ⟨hs, rfl, p1.mono s, c1, fun k hk => (bb k (List.mem_cons_of_mem _ hk)).2.2, hl⟩) p2, fun g hg => ?_, List.pairwise_cons.mpr ⟨fun t ht => ?_, c2⟩⟩
    · rcases List.mem_cons.mp hg with rfl | hg
      · refine ⟨fun z o e => ?_, fun z hz => uniH_none fun k hk => (bb k hk).2.1 z hz, fun z xs e => ?_⟩
        · obtain ⟨k, hk, q⟩ := uniH_some e
          exact (bb k hk).1 z o q
        · obtain ⟨k, hk, q⟩ := uniH_some e
          exact (bb k hk).2.2 z xs q
      · exact b g (List.mem_cons_of_mem _ (List.mem_append_right _ hg))
    · intro z hz
      cases e : uniH (one p (.lst (qs.map .ref)) :: hs) z with
      | none => exact (hz e).elim
      | some o =>
        obtain ⟨k, hk, q⟩ := uniH_some e
        exact c3 k hk t ht z (by rw [q]; simp)
theorem Ow.opx (h : Ow F ((p, onx es) :: os) H) : ∃ qs, Ow F ((p, onl qs es) :: os) H := by
  obtain ⟨l, a, b, c⟩ := h.ps
  cases a with
  | cons h1 h2 =>
    obtain ⟨qs, x⟩ := h1 F (Same.refl F)
    exact ⟨qs, h.ex, _, .cons (fun F' s => onl_mono s x) h2, b, c⟩
theorem Ow.clx (h : Ow F ((p, onl qs es) :: os) H) : Ow F ((p, onx es) :: os) H := h.weak fun _ _ x => ⟨qs, x⟩
end

/-! ### places within -/
def ixD (n : Nat) (z : Int) : Nat := (ixN n z).getD 0
/-- the address at the place z -/
def qa (qs : List Addr) (z : Int) : Addr := qs.getD (ixD qs.length z) 0
def setI {α : Type} (xs : List α) (z : Int) (x : α) : List α := xs.set (ixD xs.length z) x
theorem setI_len {α : Type} (xs : List α) (z : Int) (x : α) : (setI xs z x).length = xs.length := by
  unfold setI
  rw [List.length_set]
theorem idx_at {α : Type} {xs : List α} {z : Int} {x : α} (h : idx xs z = some x) : ixN xs.length z = some (ixD xs.length z) ∧ xs[ixD xs.length z]? = some x := by
  unfold idx atI at h
  unfold ixD
  cases e : ixN xs.length z with
  | none => rw [e] at h; cases h
  | some j =>
    rw [e] at h
    exact ⟨rfl, h⟩
theorem zip_at {α β : Type} : ∀ {qs : List α} {es : List β} {i : Nat} {q : α} {e : β}, qs[i]? = some q → es[i]? = some e → (qs.zip es)[i]? = some (q, e)
  | [], _, _, _, _, h, _ => by simp at h
  | _ :: _, [], _, _, _, _, h => by simp at h
  | a :: qs, b :: es, 0, q, e, h, k => by simp at h k; subst h; subst k; rfl
  | a :: qs, b :: es, i + 1, q, e, h, k => zip_at (i := i) (qs := qs) (es := es) (by simpa using h) (by simpa using k)
theorem zip_set {α β : Type} : ∀ {qs : List α} {es : List β} {i : Nat} {q : α} {e' : β}, qs[i]? = some q → (qs.zip es).set i (q, e') = qs.zip (es.set i e')
  | [], _, _, _, _, h => by simp at h
  | _ :: _, [], _, _, _, _ => by simp
  | a :: qs, b :: es, 0, q, e', h => by simp at h; subst h; rfl
  | a :: qs, b :: es, i + 1, q, e', h => by
    rw [List.zip_cons_cons, List.set_cons_succ, List.set_cons_succ, List.zip_cons_cons, zip_set (by simpa using h)]
theorem getD_at {α : Type} {l : List α} {i : Nat} {d : α} (h : i < l.length) : l[i]? = some (l.getD i d) := by
  rw [List.getD_eq_getElem?_getD, List.getElem?_eq_getElem h]
  rfl
section
variable {γ : Type} {os : Os} {p : Addr} {qs : List Addr} {f : γ → Ent} {ws : List γ} {z : Int} {d : γ}
/-- the entry at the place z of an owned list of owned things -/
theorem wr_nest (j : Nat) (h : os[j]? = some (p, onl qs (ws.map f))) (hk : idx ws z = some d) : WrT os (qa qs z) f d (fun d' => os.set j (p, onl qs ((setI ws z d').map f))) := fun F H r u ow => by
  obtain ⟨o1, hl⟩ := (ow.perm (perm_at h)).opn
  rw [List.length_map] at hl
  obtain ⟨k1, k2⟩ := idx_at hk
  have hi : ixD ws.length z < ws.length := (List.getElem?_eq_some_iff.mp k2).1
  have hq : qs[ixD ws.length z]? = some (qa qs z) := by
    unfold qa
    rw [hl]
    exact getD_at (by rw [hl]; exact hi)
  have he : (ws.map f)[ixD ws.length z]? = some (f d) := by rw [List.getElem?_map, k2]; rfl
  have hz : ((p, orf qs) :: (qs.zip (ws.map f) ++ os.eraseIdx j))[ixD ws.length z + 1]? = some (qa qs z, f d) := by
    rw [List.getElem?_cons_succ, List.getElem?_append_left (by rw [List.length_zip, List.length_map]; omega)]
    exact zip_at hq he
  have o2 := o1.perm (perm_at hz)
  obtain ⟨a, o, b, c, e⟩ := o2.atU u
  refine ⟨a, o, b, c, e, fun o' d' nt hd => ?_⟩
  have o3 := (o2.putU u hd nt).perm (perm_set hz)
  rw [List.set_cons_succ, List.set_append_left _ _ (by rw [List.length_zip, List.length_map]; omega), zip_set hq] at o3
  have o4 := o3.cls (by rw [List.length_set, List.length_map]; exact hl)
  have e5 : (ws.map f).set (ixD ws.length z) (f d') = (setI ws z d').map f := by
    unfold setI
    rw [List.map_set]
  rw [e5] at o4
  exact o4.perm (perm_set h)
/-- read as a list of addresses -/
theorem nest_at {F H : Hp} {os : Os} (j : Nat) (h : os[j]? = some (p, onl qs (ws.map f))) (ow : Ow F os H) : H p = some (.lst (qs.map .ref)) ∧ qs.length = ws.length := by
  obtain ⟨o1, hl⟩ := (ow.perm (perm_at h)).opn
  rw [List.length_map] at hl
  obtain ⟨_, o, ho, _, rfl⟩ := o1.atU uni_orf
  exact ⟨ho, hl⟩
end
theorem nestx_at {γ : Type} {f : γ → Ent} {ws : List γ} {p : Addr} {F H : Hp} {os : Os} (j : Nat) (h : os[j]? = some (p, onx (ws.map f))) (ow : Ow F os H) : ∃ qs : List Addr, H p = some (.lst (qs.map .ref)) ∧ qs.length = ws.length := by
  obtain ⟨qs, o1⟩ := (ow.perm (perm_at h)).opx
  exact ⟨qs, nest_at 0 rfl o1⟩
section
variable {X : Cx} {es es' : List Slot} {os os1 os2 os3 : Os} {F0 : Hp} {rest : List Stmt} {D : Ends} {N V G W : List Str} {n i vi gi : Nat} {p pos apos cpos : Pos} {e a b c : Expr} {φ : VP} {γ : Type} {f : γ → Ent} {ws : List γ} {d : γ} {z : Int} {q : Addr} {qs : List Addr}
/-- x[i], x a list of owned things -/
theorem ex_nst (j : Nat) (hk : idx ws z = some d) (h : os2[j]? = some (q, onl qs (ws.map f))) (ha : EX X es os a (own q) os1) (hb : EX X es os1 b (dat (.int z)) os2) (hp : PlainIx b := by exact fun _ _ => rfl) : EX X es os (.Subscript a b pos) (own (qa qs z)) os2 := fun F σ H Q ow sl qq =>
  we_of (pe_ix L2.ix_list pe_u pe_u hp) (ha F σ H _ ow sl fun F1 H1 x e1 o1 c1 => hb F1 σ H1 _ o1 (sl.mono e1) fun F2 H2 y e2 o2 c2 => by
    obtain rfl : x = .ref q := c1.now
    obtain ⟨h1, hl⟩ := nest_at j h o2
    obtain ⟨k1, k2⟩ := idx_at hk
    have hi : ixD ws.length z < ws.length := (List.getElem?_eq_some_iff.mp k2).1
    have hq : atI (qs.map L2.V.ref) z = some (.ref (qa qs z)) := by
      unfold atI
      rw [List.length_map, hl, k1]
      show (qs.map L2.V.ref)[ixD ws.length z]? = _
      rw [List.getElem?_map]
      unfold qa
      rw [hl, getD_at (d := (0 : Addr)) (by rw [hl]; exact hi)]
      rfl
    exact ⟨q, _, z, _, rfl, clv_int c2, .of h1, hq, qq F2 H2 _ (e1.trans e2) o2 cl_own⟩)
theorem sx_open (j : Nat) (h : os[j]? = some (q, onx es0)) (k : ∀ qs, SX X es (os.set j (q, onl qs es0)) F0 rest D) : SX X es os F0 rest D := fun F σ H s ow sl => by
  obtain ⟨qs, o1⟩ := (ow.perm (perm_at h)).opx
  exact k qs F σ H s (o1.perm (perm_set h)) sl
theorem sx_clos (j : Nat) (h : os[j]? = some (q, onl qs es0)) (k : SX X es (os.set j (q, onx es0)) F0 rest D) : SX X es os F0 rest D := fun F σ H s ow sl =>
  k F σ H s ((ow.perm (perm_at h)).clx.perm (perm_set h)) sl
theorem At.clos {σ : L2.St} {H : Hp} (j : Nat) (h : os[j]? = some (q, onl qs es0)) (k : At F0 es os σ H) : At F0 es (os.set j (q, onx es0)) σ H := let ⟨F, s, o, l⟩ := k; ⟨F, s, (o.perm (perm_at h)).clx.perm (perm_set h), l⟩
theorem Ow.clos {F H : Hp} (j : Nat) (h : os[j]? = some (q, onl qs es0)) (k : Ow F os H) : Ow F (os.set j (q, onx es0)) H := (k.perm (perm_at h)).clx.perm (perm_set h)
theorem EX.clos (j : Nat) (h : os[j]? = some (q, onl qs es0)) (k : EX X es (os.set j (q, onx es0)) e φ os1) : EX X es os e φ os1 := fun F σ H Q ow sl qq => k F σ H Q (ow.clos j h) sl qq
theorem EN.clos {m : Ent} (j : Nat) (h : os[j]? = some (q, onl qs es0)) (k : EN X es (os.set j (q, onx es0)) e m os1) : EN X es os e m os1 := fun F σ H Q ow sl qq => k F σ H Q (ow.clos j h) sl qq
/-- len of a list of owned things -/
theorem rc_lenO (j : Nat) (h : os[j]? = some (q, onl qs (ws.map f))) : RCX (fun xs H Q => ∃ p ys, xs = [L2.V.ref p] ∧ (SqL X.K H p ys ∨ SqT X.K H p ys) ∧ Q (.int ys.length) H) [own q] os (dat (.int (ws.length : Int))) os := fun F H vs Q ow c qq => by
  obtain ⟨v, rfl, hv⟩ := cla1 c
  obtain rfl : v = .ref q := hv.now
  obtain ⟨h1, hl⟩ := nest_at j h ow
  refine ⟨q, _, rfl, .inl (.of h1), ?_⟩
  rw [List.length_map, hl]
  exact qq F H _ (Same.refl F) ow (cl_dat (.int _))
theorem frz_all {g : γ → PyData} (hf : ∀ w, Frb (f w) (g w)) : ∀ (qs : List Addr) (ws : List γ) (F : Hp) (os : Os) (H : Hp) (Q : Hp → Prop), qs.length = ws.length → Ow F (qs.zip (ws.map f) ++ os) H → (∀ F' H', Same F F' → Ow F' os H' → DqAll F' (qs.map .ref) (ws.map g) → Q H') → Lk Q H
  | [], [], F, os, H, Q, _, ow, k => .now (k F H (Same.refl F) ow .nil)
  | [], _ :: _, _, _, _, _, h, _, _ => by simp at h
  | _ :: _, [], _, _, _, _, h, _, _ => by simp at h
  | q :: qs, w :: ws, F, os, H, Q, hl, ow, k => by
    rw [List.map_cons, List.zip_cons_cons, List.cons_append] at ow
    refine Lk.bind (Q := fun H' => ∃ F', Same F F' ∧ Ow F' (qs.zip (ws.map f) ++ os) H' ∧ Dq F' (.ref q) (g w)) (hf w q F _ H _ ow fun F' H' s o d => ⟨F', s, o, d⟩) ?_
    rintro H1 ⟨F1, s1, o1, d1⟩
    refine frz_all hf qs ws F1 os H1 Q (by simpa using hl) o1 fun F2 H2 s2 o2 d2 => ?_
    exact k F2 H2 (s1.trans s2) o2 (.cons (dq_mono s2 _ _ d1) d2)
theorem frb_onl {g : γ → PyData} (hf : ∀ w, Frb (f w) (g w)) : Frb (onl qs (ws.map f)) (.list (ws.map g)) := fun p F os H Q ow k => by
  obtain ⟨o1, hl⟩ := ow.opn
  rw [List.length_map] at hl
  have o2 : Ow F (qs.zip (ws.map f) ++ (p, orf qs) :: os) H := o1.perm (List.perm_middle.symm)
  refine frz_all hf qs ws F _ H Q hl o2 fun F1 H1 s1 o3 d1 => ?_
  obtain ⟨o, ho, rfl, s2, o4⟩ := o3.freezeU uni_orf
  exact k _ H1 (s1.trans s2) o4 (.lst upd_same (dqall_mono s2 _ _ d1))
theorem frb_onx {g : γ → PyData} (hf : ∀ w, Frb (f w) (g w)) : Frb (onx (ws.map f)) (.list (ws.map g)) := fun p F os H Q ow k => by
  obtain ⟨qs, o1⟩ := ow.opx
  exact frb_onl hf p F os H Q o1 k
end
end Z
/-! Z, part U: dicts walked, their values summed and listed; dict comprehensions; lists of new owned things. -/
namespace Z
open PySem PySem.Spec PyProof.Rows L2

section
variable {X : Cx} {es : List Slot} {os os1 os2 : Os} {F0 : Hp} {rest : List Stmt} {D : Ends} {N V G W : List Str} {n i vi gi : Nat} {x : Str} {p pos apos cpos : Pos} {e a b : Expr} {φ : VP} {κ β : Type} {enc : β → PyData} {w : List (κ × β)}

/-! ### d.items(), d.values(), d: data -/
theorem good_items {f : κ → Key} {F : Hp} {d : Addr} {ob : Obj} {kvs : List (κ × L2.V)} (hf : F d = some (.frz ob (.dK (kvs.map fun p => (f p.1, p.2))))) (dv : DV F kvs (eM enc w)) :
    Good (Iti d ob (kvs.map fun p => (f p.1, p.2))) F w (fun x => dat (.tuple [kPD (f x.1), enc x.2])) anyOs := fun F2 H2 os2 i s ow _ => by
  have hd := ow.ex _ _ (s _ _ hf)
  have hl : (kvs.map fun p => (f p.1, p.2)).length = w.length := by rw [List.length_map, dv_len dv, List.length_map]
  refine ⟨fun h => ⟨hd, by omega⟩, fun x hx => ?_⟩
  have hlt : i < w.length := (List.getElem?_eq_some_iff.mp hx).1
  obtain ⟨v, hv, dq⟩ := dv_at (i := i) (k := x.1) (d := enc x.2) dv (by rw [List.getElem?_map, hx]; rfl)
  refine ⟨⟨hd, by omega⟩, fun u H3 y => ?_⟩
  obtain ⟨T, k, v2, h1, rfl, hT, rfl⟩ := y
  rw [List.getElem?_map, hv] at h1
  cases h1
  have fT := ow.ex.free hT
  refine ⟨_, same_upd fT, ow.frozen hT, cl_dat (.tup upd_same (.cons ?_ (.cons (dq_mono (s.trans (same_upd fT)) _ _ dq) .nil)))⟩
  cases hk : f x.1 with
  | inl j => exact .int j
  | inr t => exact .str t
theorem ix_itemsD {f : κ → Key} {elts : List Expr} {kk : Nat} {tpos : Pos} (he : EX X es os e (dat ((Kd.fl f).pd (eM enc w))) os1) (hbase : attributeBase e "items" X.env (eval e X.env) = eval e X.env := by rfl) (hline : (apos.endLine == cpos.line) = true := by rfl) :
    IX X (.Tuple elts kk tpos) es os (.Call (.Attribute e "items" apos) [] [] cpos) w (fun x => dat (.tuple [kPD (f x.1), enc x.2])) anyOs os1 := fun F σ H R ow sl q =>
  wi_of (pi_items pe_u hbase hline) (he F σ H _ ow sl fun F1 H1 v e1 o1 c1 => by
    obtain ⟨d, ob, kvs, rfl, h1, dv⟩ := pd_dq c1.now
    exact ⟨d, ob, _, rfl, o1.ex _ _ h1, q F1 H1 _ e1 o1 (good_items h1 dv)⟩)
theorem good_vals {f : κ → Key} {F : Hp} {d : Addr} {ob : Obj} {kvs : List (κ × L2.V)} (hf : F d = some (.frz ob (.dK (kvs.map fun p => (f p.1, p.2))))) (dv : DV F kvs (eM enc w)) :
    Good (Itd d ob (kvs.map fun p => (f p.1, p.2))) F (w.map (·.2)) (fun x => dat (enc x)) anyOs := fun F2 H2 os2 i s ow _ => by
  have hd := ow.ex _ _ (s _ _ hf)
  have hl : (kvs.map fun p => (f p.1, p.2)).length = w.length := by rw [List.length_map, dv_len dv, List.length_map]
  refine ⟨fun h => ⟨hd, by rw [List.length_map] at h; omega⟩, fun x hx => ?_⟩
  rw [List.getElem?_map] at hx
  cases hy : w[i]? with
  | none => rw [hy] at hx; cases hx
  | some y =>
    rw [hy] at hx
    cases hx
    have hlt : i < w.length := (List.getElem?_eq_some_iff.mp hy).1
    obtain ⟨v, hv, dq⟩ := dv_at (i := i) (k := y.1) (d := enc y.2) dv (by rw [List.getElem?_map, hy]; rfl)
    refine ⟨⟨hd, by omega⟩, fun u H3 yy => ?_⟩
    obtain ⟨rfl, k, h1⟩ := yy
    rw [List.getElem?_map, hv] at h1
    cases h1
    exact ⟨F2, Same.refl F2, ow, cl_dat (dq_mono s _ _ dq)⟩
theorem ix_valsD {f : κ → Key} {tg : Expr} (he : EX X es os e (dat ((Kd.fl f).pd (eM enc w))) os1) (hbase : attributeBase e "values" X.env (eval e X.env) = eval e X.env := by rfl) (hline : (apos.endLine == cpos.line) = true := by rfl) :
    IX X tg es os (.Call (.Attribute e "values" apos) [] [] cpos) (w.map (·.2)) (fun x => dat (enc x)) anyOs os1 := fun F σ H R ow sl q =>
  wi_of (pi_values pe_u hbase hline) (he F σ H _ ow sl fun F1 H1 v e1 o1 c1 => by
    obtain ⟨d, ob, kvs, rfl, h1, dv⟩ := pd_dq c1.now
    exact ⟨d, ob, _, rfl, o1.ex _ _ h1, q F1 H1 _ e1 o1 (good_vals h1 dv)⟩)
theorem dq_keyV {F : Hp} : ∀ k : Key, Dq F (kV k) (kPD k)
  | .inl j => .int j
  | .inr t => .str t
theorem dqall_keyV {F : Hp} : ∀ ks : List Key, DqAll F (ks.map kV) (ks.map kPD)
  | [] => .nil
  | k :: ks => .cons (dq_keyV k) (dqall_keyV ks)
theorem ix_keysD {kd : Kd κ} {tg : Expr} (he : EX X es os e (dat (kd.pd (eM enc w))) os1) : IX X tg es os e (w.map (·.1)) (fun x => dat (kd.ek x)) anyOs os1 := fun F σ H R ow sl q =>
  wi_of (pi_keys pe_u) (he F σ H _ ow sl fun F1 H1 v e1 o1 c1 => by
    obtain ⟨d, ob, kvs, rfl, h1, dv⟩ := pd_dq c1.now
    have hkk : kvs.map (·.1) = w.map (·.1) := by rw [dv_keys dv, List.map_map]; rfl
    have at_ : ∀ {i : Nat} {x : κ}, (w.map (·.1))[i]? = some x → ∃ v, kvs[i]? = some (x, v) := fun {i x} hx => by
      rw [← hkk, List.getElem?_map] at hx
      cases hy : kvs[i]? with
      | none => rw [hy] at hx; cases hx
      | some y =>
        rw [hy] at hx
        cases hx
        exact ⟨y.2, rfl⟩
    have hlen : kvs.length = w.length := by rw [dv_len dv, List.length_map]
    cases kd with
    | fl f =>
      refine ⟨d, ob, rfl, .inl ⟨_, o1.ex _ _ h1, q F1 H1 _ e1 o1 fun F2 H2 os2 i s ow2 _ => ?_⟩⟩
      have hd := ow2.ex _ _ (s _ _ h1)
      refine ⟨fun h => ⟨hd, by rw [List.length_map] at h ⊢; omega⟩, fun x hx => ?_⟩
      obtain ⟨v, hv⟩ := at_ hx
      have hlt := (List.getElem?_eq_some_iff.mp hv).1
      refine ⟨⟨hd, by rw [List.length_map]; exact hlt⟩, fun u H3 yy => ?_⟩
      obtain ⟨rfl, k, v2, h2, rfl⟩ := yy
      rw [List.getElem?_map, hv] at h2
      cases h2
      exact ⟨F2, Same.refl F2, ow2, cl_dat (dq_keyV _)⟩
    | tu f =>
      refine ⟨d, ob, rfl, .inr ⟨_, o1.ex _ _ h1, q F1 H1 _ e1 o1 fun F2 H2 os2 i s ow2 _ => ?_⟩⟩
      have hd := ow2.ex _ _ (s _ _ h1)
      refine ⟨fun h => ⟨hd, by rw [List.length_map] at h ⊢; omega⟩, fun x hx => ?_⟩
      obtain ⟨v, hv⟩ := at_ hx
      have hlt := (List.getElem?_eq_some_iff.mp hv).1
      refine ⟨⟨hd, by rw [List.length_map]; exact hlt⟩, fun u H3 yy => ?_⟩
      obtain ⟨rfl, k, v2, r, h2, rfl, h3⟩ := yy
      rw [List.getElem?_map, hv] at h2
      cases h2
      obtain ⟨sf, o3⟩ := ow2.tup h3
      exact ⟨_, sf, o3, cl_dat (.tup upd_same (dqall_keyV _))⟩)

/-! ### d.values() as a value -/
def valsO (p d : Addr) : HO := .ext fun h => h.IsValuesView p d
theorem valsO_ok {P : Program} {w : World} {H : Hp} {h : Heap} {p d : Addr} (e : h.get? p = some { cls := .type "dict_values", data := .fields #[.ref d] }) : ObjOk P w H h p (valsO p d) :=
  ⟨⟨_, e, rfl, rfl⟩, ⟨_, e⟩, fun h1 h2 x k => let ⟨o, ho, r⟩ := x; ⟨o, k o ho, r⟩⟩
def tVals (td : TE) : TE := fun σ H Q => td σ H fun x H1 => ∃ (d : Addr) (kvs : List (Key × L2.V)), x = .ref d ∧ Rd H1 d (.dK kvs) ∧ ∀ p, H1 p = none → Q (.ref p) (upd H1 p (valsO p d))
theorem pe_vals {td : TE} (he : PE X e td) (hbase : attributeBase e "values" X.env (eval e X.env) = eval e X.env := by rfl) (hline : (apos.endLine == cpos.line) = true := by rfl) : PE X (.Call (.Attribute e "values" apos) [] [] cpos) (tVals td) := by
  refine ⟨fun pins s σ H R I h => ?_⟩
  refine wpAny_Call_method (T := "dict") (id := "dict.values") hbase rfl hline PySem.F.plainAttrs_dict PySem.F.slot_dict_values PySem.F.type_dict_values (thn (he.run pins s σ H _ I h) fun u s1 ⟨x, H1, I1, rx, d, kvs, ex, rd, q⟩ => ?_)
  subst ex
  obtain rfl : u = Value.ref d := rx
  obtain ⟨z, hs, vs, rel, dd⟩ := dk_rd I1.hok rd
  refine ⟨dd.typeIs, dd.mapOf.noDict, ?_⟩
  have hf : H1 s1.heap.objs.size = none := I1.hok.fresh (Nat.le_refl _)
  have fin : EP X pins σ R (.ref s1.heap.objs.size) { s1 with heap := s1.heap.push { cls := .type "dict_values", data := .fields #[.ref d] } } :=
    ⟨.ref s1.heap.objs.size, upd H1 s1.heap.objs.size (valsO s1.heap.objs.size d), I1.laid (t' := s1.toks) (fun b u e => Heap.get?_push_of_some _ e) (Nat.le_refl _) (valsO_ok (Heap.get?_push_size _ rfl)), rfl, q _ hf⟩
  show wpAny _ _ (callWith cpos (.builtin "dict.values") [.ref d] [] []) _ X.xe s1
  exact method_meetsIn PySem.F.slot_dict_values PySem.F.entry_dict_values rfl (PySem.evalArgs_none ⟨rfl, dd.typeIs, PySem.F.args_dict_values_1 _, _, meets_dict_values (mixKind X.prog X.w) d hs, ⟨vs, dd⟩, fin⟩)
def vwV (φ : VP) : VP := fun F v => ∃ p a, v = .ref p ∧ F p = some (valsO p a) ∧ Cl φ F (.ref a)
theorem ex_vals {f : κ → Key} {d : List (κ × PyData)} (hr : RdD (.fl f) φ os1 d) (he : EX X es os e φ os1) (hbase : attributeBase e "values" X.env (eval e X.env) = eval e X.env := by rfl) (hline : (apos.endLine == cpos.line) = true := by rfl) :
    EX X es os (.Call (.Attribute e "values" apos) [] [] cpos) (vwV φ) os1 := fun F σ H Q ow sl q =>
  we_of (pe_vals pe_u hbase hline) (he F σ H _ ow sl fun F1 H1 v e1 o1 c1 => by
    obtain ⟨a, kvs, rfl, rd, dv⟩ := hr F1 H1 v o1 c1
    refine ⟨a, _, rfl, rd, fun p hp => ?_⟩
    have fp := o1.ex.free hp
    exact q _ _ _ (e1.trans (same_upd fp)) (o1.frozen hp) fun G g => ⟨p, a, rfl, g _ _ upd_same, (c1.mono (same_upd fp)).mono g⟩)
theorem presum_ints : ∀ (ns : List Int) (n : Nat), n ≤ ns.length → preSum (fun i => ns.getD i 0) n = (ns.take n).sum
  | ns, 0, _ => by simp [preSum]
  | ns, n + 1, h => by
    rw [preSum, presum_ints ns n (by omega), List.take_add_one, List.getElem?_eq_getElem (by omega), List.sum_append]
    simp [List.getD_eq_getElem?_getD, List.getElem?_eq_getElem (show n < ns.length by omega)]
def rSumV : List L2.V → Hp → VK → Prop := fun xs H Q => ∃ (p d : Addr) (kvs : List (Key × L2.V)) (ns : List Int), xs = [.ref p] ∧ H p = some (valsO p d) ∧ Rd H d (.dK kvs) ∧ kvs.map (·.2) = ns.map L2.V.int ∧ Q (.int ns.sum) H
theorem kv_vals {κ : Type} : ∀ {kvs : List (κ × L2.V)} {vs : List (κ × Value)} {ns : List Int}, KV kvs vs → kvs.map (·.2) = ns.map L2.V.int → ∀ (i : Nat) (k : κ) (v : Value), vs[i]? = some (k, v) → ∃ t, v = Value.int (ns.getD i 0) t
  | [], [], _, _, _, i, k, v, h => by simp at h
  | _, _, [], .cons h1 h2, e, _, _, _, _ => by cases e
  | (a, x) :: kvs, (b, u) :: vs, m :: ns, .cons h1 h2, e, i, k, v, h => by
    rw [List.map_cons, List.map_cons] at e
    injection e with e1 e2
    cases i with
    | zero =>
      simp at h
      obtain ⟨rfl, rfl⟩ := h
      have e1 : x = L2.V.int m := e1
      subst e1
      exact h1.2
    | succ i => exact kv_vals h2 e2 i k v (by simpa using h)
theorem cr_sumV (hc : X.calm = true) : CallR X (.builtin "sum") rSumV := by
  intro pins s σ H vs us Q I r h
  obtain ⟨p, d, kvs, ns, rfl, hp, rd, hk, q⟩ := h
  obtain ⟨u, rfl, ru⟩ := vals1 r
  obtain rfl : u = Value.ref p := ru
  obtain ⟨hv, _, _⟩ := I.hok p _ hp
  have hv : s.heap.IsValuesView p d := hv
  obtain ⟨z, hs, vs, rel, dd⟩ := dk_rd I.hok rd
  obtain ⟨o, es, ep, dr⟩ := id dd
  have da : s.heap.DictAt (mixKind X.prog X.w) d vs ep := ⟨o, es, dr⟩
  have K := PySem.W.kdl_values (prog := X.prog) (w := X.w) (knd := mixKind X.prog X.w) (d := d) (r := p) (kvs := vs) (ep := ep)
  have hh := I.ok.hd hc
  refine call_sum_walkAnyS ?_
  obtain ⟨oI, St, hit, W, st⟩ := K.iter X.A.in1 s hh ⟨hv, da⟩
  have hl : vs.length = ns.length := by
    have h1 : kvs.length = ns.length := by
      have := congrArg List.length hk
      rw [List.length_map, List.length_map] at this
      exact this
    rw [← rel.length]
    exact h1
  refine hit _ _ ⟨s.heap.objs.size, _, _, _, vs.length, _, _, fun i => ns.getD i 0, rfl, W.toS, st, fun b hb => ?_, fun i v ⟨k, hk2⟩ => kv_vals rel hk i k v hk2, fun s' t' hm => ?_⟩
  · show b < (s.heap.push oI).objs.size
    rw [size_push']
    rcases List.mem_cons.mp hb with e | hb
    · rw [e]; exact Nat.lt_succ_self _
    · rw [List.mem_singleton.mp hb]; exact Nat.lt_succ_of_lt (K.there _ ⟨hv, da⟩).2
  · have hk : ∀ b o, s.heap.get? b = some o → s'.heap.get? b = some o := fun b o e =>
      hm.heap b o (fun hI => absurd (Heap.lt_size e) (by rw [List.mem_singleton.mp hI]; exact Nat.lt_irrefl _)) (Heap.get?_push_of_some _ e)
    rw [Moved.eq_with hm, hl, presum_ints ns _ (Nat.le_refl _), List.take_length]
    exact ⟨.int _, H, I.kept hk, ⟨_, rfl⟩, q⟩
theorem dv_ints {F : Hp} : ∀ {kvs : List (κ × L2.V)} {w : List (κ × Int)}, DV F kvs (eM PyData.int w) → kvs.map (·.2) = (w.map (·.2)).map L2.V.int
  | [], [], _ => rfl
  | [], _ :: _, h => by cases h
  | _ :: _, [], h => by cases h
  | _ :: _, _ :: _, .cons h1 h2 => by
    rw [List.map_cons, List.map_cons, List.map_cons, dv_ints h2]
    cases h1
    rfl
theorem rc_sumV {f : κ → Key} {w : List (κ × Int)} (hr : RdD (.fl f) φ os (eM PyData.int w)) : RCX rSumV [vwV φ] os (dat (.int (w.map (·.2)).sum)) os := fun F H vs Q ow c q => by
  obtain ⟨v, rfl, h⟩ := cla1 c
  obtain ⟨p, a, rfl, hp, ca⟩ := h.now
  obtain ⟨a', kvs, ea, rd, dv⟩ := hr F H _ ow ca
  cases ea
  refine ⟨p, a, _, w.map (·.2), rfl, ow.ex _ _ hp, rd, ?_, q F H _ (Same.refl F) ow (cl_dat (.int _))⟩
  rw [List.map_map]
  exact dv_ints dv
/-- list(d.values()) -/
def rListV : List L2.V → Hp → VK → Prop := fun xs H Q => ∃ (p d : Addr) (kvs : List (Key × L2.V)), xs = [.ref p] ∧ H p = some (valsO p d) ∧ Rd H d (.dK kvs) ∧ ∀ m, H m = none → Q (.ref m) (upd H m (.lst (kvs.map (·.2))))
theorem kv_all {κ : Type} {kvs : List (κ × L2.V)} {vs : List (κ × Value)} (r : KV kvs vs) : Vals (kvs.map (·.2)) (vs.map (·.2)) := by
  induction r with
  | nil => exact .nil
  | cons h1 h2 ih => exact .cons h1.2 ih
theorem itemsOf_list {P : Nat → Value → Prop} {acc : Array Value} {n : Nat} {us : List Value} (h : ItemsOf P acc n) (hl : us.length = n) (hp : ∀ i v, P i v → us[i]? = some v) : acc.toList = us := by
  refine List.ext_getElem? fun i => ?_
  by_cases hi : i < n
  · have h1 : i < acc.size := by rw [h.1]; exact hi
    have := hp i acc[i] (h.2 i _ (Array.getElem?_eq_getElem h1))
    rw [this, Array.getElem?_toList, Array.getElem?_eq_getElem h1]
  · rw [List.getElem?_eq_none (by rw [Array.length_toList, h.1]; omega), List.getElem?_eq_none (by omega)]
theorem cr_listV (hc : X.calm = true) : CallR X (.type "list") rListV := by
  intro pins s σ H vs us Q I r h
  obtain ⟨p, d, kvs, rfl, hp, rd, q⟩ := h
  obtain ⟨u, rfl, ru⟩ := vals1 r
  obtain rfl : u = Value.ref p := ru
  obtain ⟨hv, _, _⟩ := I.hok p _ hp
  have hv : s.heap.IsValuesView p d := hv
  obtain ⟨z, hs, vs, rel, dd⟩ := dk_rd I.hok rd
  obtain ⟨o, es, ep, dr⟩ := id dd
  have da : s.heap.DictAt (mixKind X.prog X.w) d vs ep := ⟨o, es, dr⟩
  have K := PySem.W.kdl_values (prog := X.prog) (w := X.w) (knd := mixKind X.prog X.w) (d := d) (r := p) (kvs := vs) (ep := ep)
  refine PySem.W.kdl_call K (I.ok.hd hc) ⟨hv, da⟩ (by rw [← rel.length]; exact z) fun h' tk acc c hk hl hi => ?_
  have hf : H s.heap.objs.size = none := I.hok.fresh (Nat.le_refl _)
  refine ⟨.ref s.heap.objs.size, upd H s.heap.objs.size (.lst (kvs.map (·.2))), I.laid (t' := tk) hk (Nat.le_refl _) ?_, rfl, q _ hf⟩
  refine ⟨by rw [List.length_map]; exact z, acc.toList, c, ?_, ?_⟩
  · rw [itemsOf_list (us := vs.map (·.2)) hi (by rw [List.length_map]) fun i v ⟨k, h⟩ => by rw [List.getElem?_map, h]; rfl]
    exact kv_all rel
  · rw [Array.toArray_toList]
    exact hl
theorem rc_listV {f : κ → Key} (hr : RdD (.fl f) φ os (eM enc w)) : RCN rListV [vwV φ] os (ol ((w.map (·.2)).map enc)) os := fun F H vs Q ow c q => by
  obtain ⟨v, rfl, h⟩ := cla1 c
  obtain ⟨p, a, rfl, hp, ca⟩ := h.now
  obtain ⟨a', kvs, ea, rd, dv⟩ := hr F H _ ow ca
  cases ea
  refine ⟨p, a, _, rfl, ow.ex _ _ hp, rd, fun m hm => q F _ m (Same.refl F) (ow.new hm fun G g => ⟨_, rfl, ?_⟩)⟩
  have := dv_vals dv
  rw [List.map_map] at this
  rw [List.map_map, List.map_map]
  exact dqall_mono g _ _ this
/-- list(d) -/
def rListK : List L2.V → Hp → VK → Prop := fun xs H Q => ∃ (d : Addr) (kvs : List (Key × L2.V)), xs = [.ref d] ∧ Rd H d (.dK kvs) ∧ ∀ m, H m = none → Q (.ref m) (upd H m (.lst (kvs.map fun p => kV p.1)))
theorem cr_listK (hc : X.calm = true) : CallR X (.type "list") rListK := by
  intro pins s σ H vs us Q I r h
  obtain ⟨d, kvs, rfl, rd, q⟩ := h
  obtain ⟨u, rfl, ru⟩ := vals1 r
  obtain rfl : u = Value.ref d := ru
  obtain ⟨z, hs, vs, rel, dd⟩ := dk_rd I.hok rd
  obtain ⟨o, es, ep, dr⟩ := id dd
  have da : s.heap.DictAt (mixKind X.prog X.w) d vs ep := ⟨o, es, dr⟩
  have K := PySem.W.kdl_dict (prog := X.prog) (w := X.w) (knd := mixKind X.prog X.w) (d := d) (kvs := vs) (ep := ep) hs
  refine PySem.W.kdl_call K (I.ok.hd hc) da (by rw [← rel.length]; exact z) fun h' tk acc c hk hl hi => ?_
  have hf : H s.heap.objs.size = none := I.hok.fresh (Nat.le_refl _)
  refine ⟨.ref s.heap.objs.size, upd H s.heap.objs.size (.lst (kvs.map fun p => kV p.1)), I.laid (t' := tk) hk (Nat.le_refl _) ?_, rfl, q _ hf⟩
  refine ⟨by rw [List.length_map]; exact z, acc.toList, c, ?_, ?_⟩
  · have key : ∀ (kvs : List (Key × L2.V)) (vs : List (Key × Value)) (us : List Value), KV kvs vs → us.length = vs.length → (∀ (i : Nat) (v : Value), us[i]? = some v → ∃ k x, vs[i]? = some (k, x) ∧ (mixKind X.prog X.w).is k v = true) → Vals (kvs.map fun p => kV p.1) us := by
      intro kvs
      induction kvs with
      | nil =>
        intro vs us r hl hp
        cases r
        cases us with
        | nil => exact .nil
        | cons => simp at hl
      | cons kv kvs ih =>
        intro vs us r hl hp
        cases r with
        | @cons _ b _ vs h1 h2 =>
          cases us with
          | nil => simp at hl
          | cons u us =>
            obtain ⟨k, x, e1, e2⟩ := hp 0 u rfl
            simp at e1
            subst e1
            refine .cons ?_ (ih vs us h2 (by simpa using hl) fun i v hv => ?_)
            · have e3 : keyIs k u = true := e2
              have e4 : kv.1 = k := h1.1
              show L2.RelV (kV kv.1) u
              rw [e4]
              exact relV_key e3
            · obtain ⟨k, x, e3, e4⟩ := hp (i + 1) v (by simpa using hv)
              exact ⟨k, x, by simpa using e3, e4⟩
    refine key kvs vs acc.toList rel (by rw [Array.length_toList]; exact hi.1) fun i v hv => ?_
    exact hi.2 i v (by rw [← Array.getElem?_toList]; exact hv)
  · rw [Array.toArray_toList]
    exact hl
theorem rc_listK {f : κ → Key} (hr : RdD (.fl f) φ os (eM enc w)) : RCN rListK [φ] os (ol ((w.map (·.1)).map (Kd.fl f).ek)) os := fun F H vs Q ow c q => by
  obtain ⟨v, rfl, h⟩ := cla1 c
  obtain ⟨a, kvs, rfl, rd, dv⟩ := hr F H _ ow h
  refine ⟨a, _, rfl, rd, fun m hm => q F _ m (Same.refl F) (ow.new hm fun G g => ⟨_, rfl, ?_⟩)⟩
  have hk := dv_keys dv
  rw [List.map_map] at hk
  have hk : kvs.map (·.1) = w.map (·.1) := hk
  rw [← hk, List.map_map, List.map_map]
  have key : ∀ l : List (κ × L2.V), DqAll G (l.map fun p => kV (f p.1)) (l.map fun p => kPD (f p.1)) := fun l => by
    induction l with
    | nil => exact .nil
    | cons x l ih => exact .cons (dq_keyV _) ih
  exact key kvs
end
end Z
/-! Z, part V: dict comprehensions, comprehensions of new owned things, general targets. -/
namespace Z
open PySem PySem.Spec PyProof.Rows L2

theorem zip_snoc {α β : Type} : ∀ {qs : List α} {es : List β} {q : α} {e : β}, qs.length = es.length → (qs ++ [q]).zip (es ++ [e]) = qs.zip es ++ [(q, e)]
  | [], [], _, _, _ => rfl
  | [], _ :: _, _, _, h => by simp at h
  | _ :: _, [], _, _, h => by simp at h
  | a :: qs, b :: es, q, e, h => by
    rw [List.cons_append, List.cons_append, List.zip_cons_cons, List.zip_cons_cons, zip_snoc (by simpa using h)]
    rfl
theorem Ow.snoc {F H : Hp} {os : Os} {p q : Addr} {qs : List Addr} {es : List Ent} {e : Ent} (h : Ow F ((q, e) :: (p, onl qs es) :: os) H) : H p = some (.lst (qs.map .ref)) ∧ qs.length = es.length ∧
    Ow F ((p, onl (qs ++ [q]) (es ++ [e])) :: os) (upd H p (.lst (qs.map .ref ++ [.ref q]))) := by
  obtain ⟨o1, hl⟩ := (h.perm (List.Perm.swap _ _ _)).opn
  obtain ⟨_, o, ho, _, rfl⟩ := o1.atU uni_orf
  refine ⟨ho, hl, ?_⟩
  have o2 := o1.putU (e' := orf (qs ++ [q])) (o := .lst ((qs ++ [q]).map .ref)) uni_orf fun _ _ => rfl
  rw [List.map_append] at o2
  refine Ow.cls ?_ (by rw [List.length_append, List.length_append, hl]; rfl)
  rw [zip_snoc hl, List.append_assoc]
  exact o2
/-- what a comprehension asks of its target and of what it walks -/
structure CpOk (X : Cx) (es : List Slot) (os : Os) {α : Type} (tg iter : Expr) (scope : Scope) (own : List (Str × Nat)) (xs : List α) (vp : α → VP) (c : Os → Prop) (g : TG) (up : α → List Slot → List Slot) (os0 : Os) : Prop where
  calm : X.calm = true
  nd : X.N.Nodup
  ok : BlkOk X.N X.env.scope scope own
  pg : ∀ X', Fam X scope X' → PG X' tg g
  hv : ∀ j ∈ own.map (·.2), es[j]? = some un
  hid : ∀ σ : L2.St, wipe (wipe σ (own.map (·.2))) (own.map (·.2)) = wipe σ (own.map (·.2))
  hg : ∀ x F σ H v Q os2, Sl F es σ → wipe σ (own.map (·.2)) = σ → Ow F os2 H → Cl (vp x) F v → (∀ σ', Sl F (up x es) σ' → wipe σ' (own.map (·.2)) = σ → Q σ' H) → g v σ H Q
  hz : xs.length < sizeLine
  hi : IX X tg es os iter xs vp c os0
  hc : ∀ q, c (q :: os0)
section
variable {X : Cx} {es : List Slot} {os os0 os1 os2 : Os} {F0 : Hp} {rest : List Stmt} {D : Ends} {N V G W : List Str} {k i j vi gi : Nat} {x y : Str} {p pos tpos : Pos} {e : Expr} {α β κ γ : Type} {scope : Scope} {iter tg elt kx vx : Expr} {ifs : List Expr} {own : List (Str × Nat)} {xs : List α} {vp : α → VP} {c : Os → Prop} {g : TG} {up : α → List Slot → List Slot}
theorem cp_mk1 (B : Bd X N W G k) (hj : N[j]? = some x) (hun : es[j]? = some un) (hblk : blkC X.N X.env.scope scope [(x, j)] = true) (hown : ownB scope X.env.scope x = true) (hz : xs.length < sizeLine) (hi : IX X (.Name x tpos) es os iter xs vp c os0) (hc : ∀ q, c (q :: os0)) :
    CpOk X es os (.Name x tpos) iter scope [(x, j)] xs vp c (gName j) (fun x es => es.set j (sl (vp x))) os0 where
  calm := B.calm
  nd := B.hN ▸ B.nd
  ok := blkOk_by hblk
  pg := fun X' hX => pg_own hX B hj hown
  hv := fun m hm => by
    have e : m = j := by simpa using hm
    rw [e]
    exact hun
  hid := lc_id1
  hg := fun x F σ H v Q os2 sl hw ow c q => lc_gname x F σ H v Q os2 sl hw ow c q
  hz := hz
  hi := hi
  hc := hc
theorem cp_mk2 {d1 d2 : α → PyData} {p1 p2 : Pos} {kk : Nat} (B : Bd X N W G k) (hi : N[i]? = some x) (hj : N[j]? = some y) (hij : i ≠ j) (hu1 : es[i]? = some un) (hu2 : es[j]? = some un) (hblk : blkC X.N X.env.scope scope [(x, i), (y, j)] = true)
    (ho1 : ownB scope X.env.scope x = true) (ho2 : ownB scope X.env.scope y = true) (hz : xs.length < sizeLine) (hx : IX X (.Tuple [.Name x p1, .Name y p2] kk tpos) es os iter xs (fun z => dat (.tuple [d1 z, d2 z])) c os0) (hc : ∀ q, c (q :: os0)) :
    CpOk X es os (.Tuple [.Name x p1, .Name y p2] kk tpos) iter scope [(x, i), (y, j)] xs (fun z => dat (.tuple [d1 z, d2 z])) c (gTup X.K 2 (gCons (gName i) (gCons (gName j) gNil))) (fun z es => (es.set i (sl (dat (d1 z)))).set j (sl (dat (d2 z)))) os0 where
  calm := B.calm
  nd := B.hN ▸ B.nd
  ok := blkOk_by hblk
  pg := fun X' hX => by
    have hK : X'.K = X.K := by
      obtain ⟨_, _, _, _, _, rfl⟩ := hX
      rfl
    have := pg_own2 (tpos := tpos) (kk := kk) (p1 := p1) (p2 := p2) hX B hi hj ho1 ho2
    rw [hK] at this
    exact this
  hv := fun m hm => by
    have e : m = i ∨ m = j := by simpa using hm
    rcases e with rfl | rfl
    · exact hu1
    · exact hu2
  hid := lc_id2 hij
  hg := fun x F σ H v Q os2 sl hw ow c q => lc_gpair hij x F σ H v Q os2 sl hw ow c q
  hz := hz
  hi := hx
  hc := hc

/-! ### [new owned things] -/
def LnS (f : γ → Ent) (m : α → Option γ) (xs : List α) (ys : List γ) (os0 : Os) (Dl : Addr) (F1 : Hp) (i : Nat) (H : Hp) : Prop :=
  ∃ d r F, mapO m (xs.drop i) = some r ∧ ys = d ++ r ∧ d.length ≤ i ∧ Same F1 F ∧ Ow F ((Dl, onx (d.map f)) :: os0) H
theorem ln_read {f : γ → Ent} {m : α → Option γ} {ys : List γ} (h : CpOk X es os tg iter scope own xs vp c g up os0) (hl : mapO m xs = some ys)
    (hb : ∀ x y q, x ∈ xs → m x = some y → ∀ X', Fam X scope X' → EN X' (up x es) (q :: os0) elt (f y) (q :: os0))
    {F σ H Q} (ow : Ow F os H) (sl : Sl F es σ) (q : ∀ F' H' p, Same F F' → Ow F' ((p, onx (ys.map f)) :: os0) H' → Q (.ref p) H') : tLc (WI X tg iter) g (tIfs X scope []) (tElt X scope elt) (own.map (·.2)) σ H Q := by
  refine h.hi F σ H _ ow sl fun F1 H1 J e1 o1 good Dl hD => ?_
  refine ⟨fun i n H => n = xs.length - i ∧ i ≤ xs.length ∧ LnS f m xs ys os0 Dl F1 i H, ⟨_, rfl, Nat.zero_le _, [], ys, F1, hl, rfl, Nat.le_refl _, Same.refl F1, ?_⟩, ?_⟩
  · refine o1.new hD fun G s => ⟨[], [], ?_, .nil, ?_, (fun _ z => nomatch z), rfl⟩
    · show one Dl (.lst []) = ov (one Dl (.lst [])) (fun _ => none)
      funext a
      cases z : one Dl (.lst []) a with
      | none => rw [ov_none z]
      | some u => rw [ov_some z]
    · exact List.pairwise_cons.mpr ⟨(fun _ z => nomatch z), .nil⟩
  · rintro i n H' ⟨rfl, hi, d, r, F', hr, hy, hdl, e', o'⟩
    obtain ⟨stop, go⟩ := good F' H' _ i e' o' (h.hc _)
    cases hx : xs[i]? with
    | none =>
      have hi2 : xs.length ≤ i := List.getElem?_eq_none_iff.mp hx
      rw [List.drop_eq_nil_of_le hi2] at hr
      cases hr
      refine .inl ⟨stop hi2, q F' H' Dl (e1.trans e') ?_⟩
      rw [hy, List.append_nil]
      exact o'
    | some x =>
      obtain ⟨hgo, hyl⟩ := go x hx
      have hlt : i < xs.length := (List.getElem?_eq_some_iff.mp hx).1
      rw [drop_cons' hx] at hr
      unfold mapO at hr
      obtain ⟨y, hm, hr⟩ := bnd hr
      obtain ⟨r', hr1, hr2⟩ := bnd hr
      obtain rfl := som hr2
      refine .inr ⟨hgo, LnS f m xs ys os0 Dl F1 (i + 1), fun H2 hH2 => ⟨_, by omega, rfl, by omega, hH2⟩, fun v H3 yv => ?_⟩
      obtain ⟨F3, e3, o3, c3⟩ := hyl v H3 yv
      have slw : Sl F3 es (wipe σ (own.map (·.2))) := sl_wipe (sl.mono ((e1.trans e').trans e3)) _ fun j hj => ⟨un, h.hv j hj, rfl⟩
      refine h.hg x F3 _ H3 v _ _ slw (h.hid σ) o3 c3 fun σ' sl' hw => ⟨hw, ?_⟩
      intro X' hX'
      refine hb x y _ (List.mem_of_getElem? hx) hm X' hX' F3 σ' H3 _ o3 sl' fun F5 H5 qn e5 o5 => ?_
      obtain ⟨qs, o6⟩ := (o5.perm (List.Perm.swap _ _ _)).opx
      obtain ⟨hp, hlen, o7⟩ := (o6.perm (List.Perm.swap _ _ _)).snoc
      rw [List.length_map] at hlen
      refine ⟨_, hp, by rw [List.length_map, hlen]; have := h.hz; omega, d ++ [y], r', F5, hr1, by rw [hy, List.append_assoc]; rfl, by rw [List.length_append, List.length_singleton]; omega, (e'.trans e3).trans e5, ?_⟩
      rw [List.map_append]
      exact o7.clx
theorem en_lcN {f : γ → Ent} {m : α → Option γ} {ys : List γ} (h : CpOk X es os tg iter scope own xs vp c g up os0) (hl : mapO m xs = some ys)
    (hb : ∀ x y q, x ∈ xs → m x = some y → ∀ X', Fam X scope X' → EN X' (up x es) (q :: os0) elt (f y) (q :: os0)) (hs : ∀ x, foldedSetIterable iter X.env x = pure x := by intro _; rfl) : EN X es os (.ListComp elt [⟨tg, iter, [], 0⟩] scope pos) (onx (ys.map f)) os0 := fun F σ H Q ow sl q =>
  we_of (pe_lc h.calm h.nd pi_u h.ok (fun s H C cl fp => h.pg _ ⟨s, H, C, cl, fp, rfl⟩) (fun s H C cl fp => pts_u ⟨s, H, C, cl, fp, rfl⟩ []) (fun s H C cl fp => pe_elt ⟨s, H, C, cl, fp, rfl⟩) hs)
    (ln_read h hl hb ow sl q)
theorem sx_asgLcN {y : Str} {py spos : Pos} {f : γ → Ent} {m : α → Option γ} {ys : List γ} (B : Bd X N W G k) (T : Bt X V) (hi : N[i]? = some y) (hyl : X.env.scope.names.lookup y = some .local) (h : CpOk X es os tg iter scope own xs vp c g up os0) (hl : mapO m xs = some ys)
    (hb : ∀ x y q, x ∈ xs → m x = some y → ∀ X', Fam X scope X' → EN X' (up x es) (q :: os0) elt (f y) (q :: os0))
    (hsw : swapsWith (.ListComp elt [⟨tg, iter, [], 0⟩] scope pos) (some (.Name y py)) spos.line X.env = pure true)
    (hn : ∀ p, SX X (es.set i (sl (Z.own p))) ((p, onx (ys.map f)) :: os0) F0 rest D) (hs : ∀ x, foldedSetIterable iter X.env x = pure x := by intro _; rfl) : SX X es os F0 (.Assign [.Name y py] (.ListComp elt [⟨tg, iter, [], 0⟩] scope pos) spos :: rest) D := fun F σ H s ow sl =>
  wps_cons (ws_of (ps_setLc h.calm h.nd (B.hN ▸ hi) hyl hsw pi_u h.ok (fun s H C cl fp => h.pg _ ⟨s, H, C, cl, fp, rfl⟩) (fun s H C cl fp => pts_u ⟨s, H, C, cl, fp, rfl⟩ []) (fun s H C cl fp => pe_elt ⟨s, H, C, cl, fp, rfl⟩) hs)
    (ln_read (Q := fun v H1 => gName i v σ H1 (WPs X rest D)) h hl hb ow sl fun F1 H1 p e1 o1 => hn p F1 _ H1 (s.trans e1) o1 ((sl.mono e1).put cl_own)))

/-! ### {k: v for ..} -/
def dcS [DecidableEq κ] (m : α → Option (Option (κ × β))) : List α → List (κ × β) → Option (List (κ × β))
  | [], w => some w
  | x :: xs, w => (m x).bind fun t => dcS m xs (match t with
    | some z => dPut w z.1 z.2
    | none => w)
theorem dput_len [DecidableEq κ] (w : List (κ × β)) (k : κ) (v : β) : (dPut w k v).length ≤ w.length + 1 := by
  unfold dPut
  split
  · rw [List.length_map]; omega
  · rw [List.length_append]; simp
def DcT [DecidableEq κ] (f : κ → Key) (enc : β → PyData) (m : α → Option (Option (κ × β))) (xs : List α) (wf : List (κ × β)) (os0 : Os) (Dl : Addr) (F1 : Hp) (i : Nat) (H : Hp) : Prop :=
  ∃ w F, dcS m (xs.drop i) w = some wf ∧ w.length ≤ i ∧ Same F1 F ∧ Ow F ((Dl, od (.fl f) (eM enc w)) :: os0) H
theorem dc_read [DecidableEq κ] {f : κ → Key} {enc : β → PyData} {m : α → Option (Option (κ × β))} {wf : List (κ × β)} (hinj : (Kd.fl f).Inj) (h : CpOk X es os tg iter scope own xs vp c g up os0) (hif : ifs.length ≤ 1) (hl : dcS m xs [] = some wf)
    (hb : ∀ x t q, x ∈ xs → m x = some t → ∃ b, ∀ X', Fam X scope X' → PTX X' (up x es) (q :: os0) ifs b (q :: os0) ∧ (b = true → ∃ z, t = some z ∧ EX X' (up x es) (q :: os0) kx (dat ((Kd.fl f).ek z.1)) (q :: os0) ∧ EX X' (up x es) (q :: os0) vx (dat (enc z.2)) (q :: os0)) ∧ (b = false → t = none))
    {F σ H Q} (ow : Ow F os H) (sl : Sl F es σ) (q : ∀ F' H' p, Same F F' → Ow F' ((p, od (.fl f) (eM enc wf)) :: os0) H' → Q (.ref p) H') : tDc (WI X tg iter) g (tIfs X scope ifs) (tElt X scope kx) (tElt X scope vx) (own.map (·.2)) σ H Q := by
  refine h.hi F σ H _ ow sl fun F1 H1 J e1 o1 good Dl hD => ?_
  refine ⟨fun i n H => n = xs.length - i ∧ i ≤ xs.length ∧ DcT f enc m xs wf os0 Dl F1 i H, ⟨_, rfl, Nat.zero_le _, [], F1, hl, Nat.le_refl _, Same.refl F1, ?_⟩, ?_⟩
  · exact o1.new hD (od_one (kd := .fl f) .nil)
  · rintro i n H' ⟨rfl, hi, w, F', hr, hwl, e', o'⟩
    obtain ⟨stop, go⟩ := good F' H' _ i e' o' (h.hc _)
    cases hx : xs[i]? with
    | none =>
      have hi2 : xs.length ≤ i := List.getElem?_eq_none_iff.mp hx
      rw [List.drop_eq_nil_of_le hi2] at hr
      cases hr
      exact .inl ⟨stop hi2, q F' H' Dl (e1.trans e') o'⟩
    | some x =>
      obtain ⟨hgo, hyl⟩ := go x hx
      have hlt : i < xs.length := (List.getElem?_eq_some_iff.mp hx).1
      rw [drop_cons' hx] at hr
      unfold dcS at hr
      obtain ⟨t, hm, hr⟩ := bnd hr
      refine .inr ⟨hgo, DcT f enc m xs wf os0 Dl F1 (i + 1), fun H2 hH2 => ⟨_, by omega, rfl, by omega, hH2⟩, fun v H3 yv => ?_⟩
      obtain ⟨F3, e3, o3, c3⟩ := hyl v H3 yv
      have slw : Sl F3 es (wipe σ (own.map (·.2))) := sl_wipe (sl.mono ((e1.trans e').trans e3)) _ fun j hj => ⟨un, h.hv j hj, rfl⟩
      refine h.hg x F3 _ H3 v _ _ slw (h.hid σ) o3 c3 fun σ' sl' hw => ⟨hw, ?_⟩
      obtain ⟨b, key⟩ := hb x t (Dl, od (.fl f) (eM enc w)) (List.mem_of_getElem? hx) hm
      have yes : ∀ F4 H4, Same F3 F4 → Ow F4 ((Dl, od (.fl f) (eM enc w)) :: os0) H4 → b = true → tElt X scope kx σ' H4 fun y H5 => tElt X scope vx σ' H5 fun z H6 => ∃ kvs k, y = kV k ∧ H6 Dl = some (.dK kvs) ∧ kvs.length < sizeLine ∧ DcT f enc m xs wf os0 Dl F1 (i + 1) (upd H6 Dl (.dK (putK kvs k z))) := by
        intro F4 H4 e4 o4 hbt X' hX'
        obtain ⟨_, k2, _⟩ := key X' hX'
        obtain ⟨z, rfl, k3, _⟩ := k2 hbt
        refine k3 F4 σ' H4 _ o4 (sl'.mono e4) fun F5 H5 y e5 o5 c5 => ?_
        intro X'' hX''
        obtain ⟨_, k2', _⟩ := key X'' hX''
        obtain ⟨z', ez, _, k4⟩ := k2' hbt
        cases ez
        refine k4 F5 σ' H5 _ o5 (sl'.mono (e4.trans e5)) fun F6 H6 u e6 o6 c6 => ?_
        obtain ⟨_, o, ho, _, kvs, rfl, dv⟩ := o6.atU uni_od
        have hlen : kvs.length = w.length := by rw [dv_len dv, List.length_map]
        refine ⟨_, f z.1, key_val (kd := .fl f) (c5.mono e6), ho, by rw [List.length_map, hlen]; have := h.hz; omega, ?_⟩
        have e7 : putK (kvs.map fun p => (f p.1, p.2)) (f z.1) u = (dPut kvs z.1 u).map fun p => (f p.1, p.2) := dPut_key hinj z.1 u kvs
        rw [e7]
        refine ⟨dPut w z.1 z.2, F6, hr, by have := dput_len w z.1 z.2; omega, ((e'.trans e3).trans e4).trans (e5.trans e6), ?_⟩
        exact o6.putU (o := (Kd.fl f).ho (dPut kvs z.1 u)) uni_od (od_one (kd := .fl f) (dput_enc dv c6.now))
      have no : ∀ F4 H4, Same F3 F4 → Ow F4 ((Dl, od (.fl f) (eM enc w)) :: os0) H4 → t = none → DcT f enc m xs wf os0 Dl F1 (i + 1) H4 := by
        intro F4 H4 e4 o4 ht
        subst ht
        exact ⟨w, F4, hr, by omega, (e'.trans e3).trans e4, o4⟩
      have ex : b = false → t = none ∨ ¬ ∃ X', Fam X scope X' := fun hb0 => by
        by_cases hX : ∃ X', Fam X scope X'
        · obtain ⟨X', hX'⟩ := hX
          exact .inl ((key X' hX').2.2 hb0)
        · exact .inr hX
      match ifs, hif, key, yes with
      | [], _, key, yes =>
        intro X' hX'
        obtain ⟨k1, k2, k3⟩ := key X' hX'
        cases k1
        exact yes F3 H3 (Same.refl F3) o3 rfl X' hX'
      | [cd], _, key, yes =>
        intro X' hX'
        obtain ⟨k1, k2, k3⟩ := key X' hX'
        cases k1 with
        | one ht =>
          refine ht F3 σ' H3 _ o3 sl' fun F4 H4 e4 o4 => ?_
          cases b with
          | true =>
            rw [if_pos rfl]
            exact yes F4 H4 e4 o4 rfl
          | false =>
            rw [if_neg Bool.false_ne_true]
            exact no F4 H4 e4 o4 (k3 rfl)
      | _ :: _ :: _, hif, _, _ =>
        rw [List.length_cons, List.length_cons] at hif
        omega
theorem en_dc [DecidableEq κ] {f : κ → Key} {enc : β → PyData} {m : α → Option (Option (κ × β))} {wf : List (κ × β)} (hinj : (Kd.fl f).Inj) (h : CpOk X es os tg iter scope own xs vp c g up os0) (hif : ifs.length ≤ 1) (hl : dcS m xs [] = some wf)
    (hb : ∀ x t q, x ∈ xs → m x = some t → ∃ b, ∀ X', Fam X scope X' → PTX X' (up x es) (q :: os0) ifs b (q :: os0) ∧ (b = true → ∃ z, t = some z ∧ EX X' (up x es) (q :: os0) kx (dat ((Kd.fl f).ek z.1)) (q :: os0) ∧ EX X' (up x es) (q :: os0) vx (dat (enc z.2)) (q :: os0)) ∧ (b = false → t = none))
    (hs : ∀ x, foldedSetIterable iter X.env x = pure x := by intro _; rfl) : EN X es os (.DictComp kx vx [⟨tg, iter, ifs, 0⟩] scope pos) (od (.fl f) (eM enc wf)) os0 := fun F σ H Q ow sl q =>
  we_of (pe_dc h.calm h.nd pi_u h.ok (fun s H C cl fp => h.pg _ ⟨s, H, C, cl, fp, rfl⟩) (fun s H C cl fp => pts_u ⟨s, H, C, cl, fp, rfl⟩ ifs) (fun s H C cl fp => pe_elt ⟨s, H, C, cl, fp, rfl⟩) (fun s H C cl fp => pe_elt ⟨s, H, C, cl, fp, rfl⟩) hs)
    (dc_read hinj h hif hl hb ow sl q)
end
end Z
/-! Z, part W: targets of any kind; methods of lists within lists. -/
namespace Z
open PySem PySem.Spec PyProof.Rows L2

/-- to assign a value of ψ to tg: slots and what is owned change -/
def GY (X : Cx) (tg : Expr) (ψ : VP) (es : List Slot) (os : Os) (es' : List Slot) (os' : Os) : Prop := ∀ F σ H v (Q : L2.St → Hp → Prop), Ow F os H → Sl F es σ → Cl ψ F v → (∀ F' σ' H', Same F F' → Ow F' os' H' → Sl F' es' σ' → Q σ' H') → WG X tg v σ H Q
section
variable {X : Cx} {es es1 es2 : List Slot} {os os1 os2 os3 os4 : Os} {F0 : Hp} {rest : List Stmt} {D : Ends} {N V G W : List Str} {n i j vi gi : Nat} {x : Str} {p pos tpos apos cpos : Pos} {e a b tg tg1 tg2 : Expr} {φ ψ : VP} {κ β γ : Type} {enc : β → PyData}
theorem gy_name (B : Bd X N W G n) (T : Bt X V) (hi : N[i]? = some x) (hv : V[vi]? = some x) : GY X (.Name x pos) ψ es os (es.set i (sl ψ)) os := fun F σ H v Q ow s c q =>
  wg_of (pg_name (B.hN ▸ B.nd) (B.hN ▸ hi) (T.loc x (List.mem_of_getElem? hv)) (.inl (T.fn x))) (q F _ H (Same.refl F) ow (s.put c))
/-- d[k] = v -/
theorem gy_dput [DecidableEq κ] {kd : Kd κ} {w w' : List (κ × β)} {k : κ} {y : β} {q : Addr} {os' : List (κ × β) → Os} (hi : kd.Inj) (hp : dPutO w k y = some w') (B : Bd X N W G n) (ho : EX X es os a (own q) os1) (hb : EX X es os1 b (dat (kd.ek k)) os2) (hw : WrT os2 q (odT kd enc) w os')
    (ha : ∀ v, assign (.Subscript a b tpos) X.env v = (do
      let ov ← holding [v] (eval a X.env)
      let iv ← holding [v, ov] (eval b X.env)
      standAt tpos
      holding [v, ov, iv] (setItem ov iv v)
      release [v, ov, iv] []) := by intro _; rfl) : GY X (.Subscript a b tpos) (dat (enc y)) es os es (os' w') := fun F σ H v Q ow s c qq => by
  unfold dPutO at hp
  split at hp
  · rename_i hl
    cases hp
    refine wg_of (pg_sub pe_u pe_u (set_dict B.u1) ha) (ho F σ H _ ow s fun F1 H1 u e1 o1 c1 => hb F1 σ H1 _ o1 (s.mono e1) fun F2 H2 z e2 o2 c2 => ?_)
    obtain rfl : u = .ref q := c1.now
    obtain ⟨_, o, hq, _, ⟨kvs, rfl, dv⟩, zz⟩ := hw F2 H2 _ uni_od o2
    have e := e1.trans e2
    refine ⟨q, _, rfl, dput_of hi o2.ex hq (key_val c2) (by rw [dv_len dv, List.length_map]; exact hl), ?_⟩
    exact qq F2 σ _ e (zz _ _ (Kd.ntup _ _) (od_one (dput_enc dv (c.mono e).now))) (s.mono e)
  · cases hp
/-- xs[i] = v -/
theorem gy_setL {xs ys : List β} {y : β} {z : Int} {q : Addr} {os' : List β → Os} (hy : setO xs z y = some ys) (ho : EX X es os a (own q) os1) (hb : EX X es os1 b (dat (.int z)) os2) (hw : WrT os2 q (olT enc) xs os')
    (ha : ∀ v, assign (.Subscript a b tpos) X.env v = (do
      let ov ← holding [v] (eval a X.env)
      let iv ← holding [v, ov] (eval b X.env)
      standAt tpos
      holding [v, ov, iv] (setItem ov iv v)
      release [v, ov, iv] []) := by intro _; rfl) : GY X (.Subscript a b tpos) (dat (enc y)) es os es (os' ys) := fun F σ H v Q ow s c qq => by
  obtain ⟨m, hm, h2⟩ := bnd hy
  cases h2
  refine wg_of (pg_sub pe_u pe_u L2.set_list ha) (ho F σ H _ ow s fun F1 H1 u e1 o1 c1 => hb F1 σ H1 _ o1 (s.mono e1) fun F2 H2 zv e2 o2 c2 => ?_)
  obtain rfl : u = .ref q := c1.now
  obtain ⟨_, o, hq, _, ⟨vs, rfl, dv⟩, zz⟩ := hw F2 H2 _ uni_ol o2
  have e := e1.trans e2
  have hl := dqall_len dv
  rw [List.length_map] at hl
  refine ⟨q, vs, z, m, rfl, clv_int c2, hq, by rw [hl]; exact hm, ?_⟩
  refine qq F2 σ _ e (zz _ (xs.set m y) (fun _ h => by cases h) fun G g => ⟨_, rfl, ?_⟩) (s.mono e)
  rw [List.map_set]
  exact dqall_mono g _ _ (dqall_set (c.mono e).now m dv)
/-- xs[i] = r, xs a list of owned things, r owned: the two change places -/
theorem gy_swp {f : γ → Ent} {ws : List γ} {d d0 : γ} {z : Int} {q r : Addr} {qs : List Addr} (hk : idx ws z = some d) (hr : os2[i]? = some (r, f d0)) (hj : (os2.eraseIdx i)[j]? = some (q, onl qs (ws.map f))) (ho : EX X es os a (own q) os1) (hb : EX X es os1 b (dat (.int z)) os2)
    (ha : ∀ v, assign (.Subscript a b tpos) X.env v = (do
      let ov ← holding [v] (eval a X.env)
      let iv ← holding [v, ov] (eval b X.env)
      standAt tpos
      holding [v, ov, iv] (setItem ov iv v)
      release [v, ov, iv] []) := by intro _; rfl) : GY X (.Subscript a b tpos) (own r) es os es ((qa qs z, f d) :: (os2.eraseIdx i).set j (q, onl (setI qs z r) ((setI ws z d0).map f))) := fun F σ H v Q ow s c qq => by
  refine wg_of (pg_sub pe_u pe_u L2.set_list ha) (ho F σ H _ ow s fun F1 H1 u e1 o1 c1 => hb F1 σ H1 _ o1 (s.mono e1) fun F2 H2 zv e2 o2 c2 => ?_)
  obtain rfl : u = .ref q := c1.now
  obtain rfl : v = .ref r := c.now
  have o3 := o2.perm (perm_at hr)
  have o4 := (o3.perm ((perm_at hj).cons _)).perm (List.Perm.swap _ _ _)
  obtain ⟨o5, hl⟩ := o4.opn
  rw [List.length_map] at hl
  obtain ⟨k1, k2⟩ := idx_at hk
  have hi : ixD ws.length z < ws.length := (List.getElem?_eq_some_iff.mp k2).1
  have hq : qs[ixD ws.length z]? = some (qa qs z) := by
    unfold qa
    rw [hl]
    exact getD_at (by rw [hl]; exact hi)
  obtain ⟨_, o, hh, _, rfl⟩ := o5.atU uni_orf
  refine ⟨q, qs.map .ref, z, ixD ws.length z, rfl, clv_int c2, hh, by rw [List.length_map, hl]; exact k1, ?_⟩
  refine qq F2 σ _ (e1.trans e2) ?_ (s.mono (e1.trans e2))
  have o6 := o5.putU (e' := orf (setI qs z r)) (o := .lst ((setI qs z r).map .ref)) uni_orf fun _ _ => rfl
  have em : (setI qs z r).map L2.V.ref = (qs.map L2.V.ref).set (ixD ws.length z) (.ref r) := by
    unfold setI
    rw [List.map_set, hl]
  rw [em] at o6
  -- the entries: r and the one at the place z exchanged
  have hz : (qs.zip (ws.map f))[ixD ws.length z]? = some (qa qs z, f d) := zip_at hq (by rw [List.getElem?_map, k2]; rfl)
  have pm : ((q, orf (setI qs z r)) :: (qs.zip (ws.map f) ++ (r, f d0) :: (os2.eraseIdx i).eraseIdx j)).Perm ((qa qs z, f d) :: (q, orf (setI qs z r)) :: ((setI qs z r).zip ((setI ws z d0).map f) ++ (os2.eraseIdx i).eraseIdx j)) := by
    have p1 : (qs.zip (ws.map f)).Perm ((qa qs z, f d) :: (qs.zip (ws.map f)).eraseIdx (ixD ws.length z)) := perm_at hz
    have p2 : ((r, f d0) :: (qs.zip (ws.map f)).eraseIdx (ixD ws.length z)).Perm ((qs.zip (ws.map f)).set (ixD ws.length z) (r, f d0)) := perm_set hz
    have p3 : (qs.zip (ws.map f)).set (ixD ws.length z) (r, f d0) = (setI qs z r).zip ((setI ws z d0).map f) := by
      unfold setI
      rw [List.map_set, hl]
      have : ∀ (qs : List Addr) (es : List Ent) (i : Nat) (q : Addr) (e : Ent), (qs.zip es).set i (q, e) = (qs.set i q).zip (es.set i e) := by
        intro qs
        induction qs with
        | nil => intro es i q e; simp
        | cons a qs ih =>
          intro es i q e
          cases es with
          | nil => cases i <;> simp
          | cons b es =>
            cases i with
            | zero => rfl
            | succ i => rw [List.zip_cons_cons, List.set_cons_succ, List.set_cons_succ, List.set_cons_succ, List.zip_cons_cons, ih]
      exact this _ _ _ _ _
    rw [p3] at p2
    have p4 : (qs.zip (ws.map f) ++ (r, f d0) :: (os2.eraseIdx i).eraseIdx j).Perm ((qa qs z, f d) :: ((setI qs z r).zip ((setI ws z d0).map f) ++ (os2.eraseIdx i).eraseIdx j)) := by
      refine (List.Perm.append_right _ p1).trans ?_
      rw [List.cons_append]
      refine List.Perm.cons _ ?_
      refine List.perm_middle.trans ?_
      rw [← List.cons_append]
      exact List.Perm.append_right _ p2
    exact (p4.cons _).trans (List.Perm.swap _ _ _)
  have o7 := o6.perm pm
  have o8 := (o7.perm (List.Perm.swap _ _ _))
  have hl2 : (setI qs z r).length = ((setI ws z d0).map f).length := by
    rw [setI_len, List.length_map, setI_len]
    exact hl
  have o9 : Ow F2 ((q, onl (setI qs z r) ((setI ws z d0).map f)) :: (qa qs z, f d) :: (os2.eraseIdx i).eraseIdx j) (upd H2 q (.lst ((qs.map L2.V.ref).set (ixD ws.length z) (.ref r)))) := by
    refine Ow.cls (o8.perm ?_) hl2
    exact List.Perm.cons _ (List.perm_middle.symm)
  have o10 := o9.perm (List.Perm.swap _ _ _)
  exact o10.perm (List.Perm.cons _ (perm_set hj))
theorem GY.clos {q : Addr} {es0 : List Ent} {es' : List Slot} (k : GY X tg ψ es os es' os1) (h : os1[j]? = some (q, onl qs es0)) : GY X tg ψ es os es' (os1.set j (q, onx es0)) := fun F σ H v Q ow s c qq => k F σ H v Q ow s c fun F' σ' H' e o l => qq F' σ' H' e (o.clos j h) l
/-- t1, t2 = a, b -/
theorem sx_asgQ2 {pt p2 : Pos} {kt k2 : Nat} {Rel : List VP → Os → Prop} (sc : Scope) (hsc : X.env.scope = sc) (B : Bd X N W G n) (hw : nswB sc [.Tuple [tg1, tg2] kt pt] (.Tuple [a, b] k2 p2))
    (ha : AQ X es [a, b] os Rel) (hR : ∀ φs os', Rel φs os' → ∃ φ ψ, φs = [φ, ψ]) (h : ∀ φ ψ os', Rel [φ, ψ] os' → ∃ es1 os1 es2 os2, GY X tg1 φ es os' es1 os1 ∧ GY X tg2 ψ es1 os1 es2 os2 ∧ SX X es2 os2 F0 rest D)
    (hs : swapsWithSole [.Tuple [tg1, tg2] kt pt] (.Tuple [a, b] k2 p2) pos.line X.env = pure false := by rfl) (h1 : (assignEach [.Tuple [tg1, tg2] kt pt] X.env).map (·.2) = [assign (.Tuple [tg1, tg2] kt pt) X.env] := by rfl)
    (hn : (assignEach [tg1, tg2] X.env).length = 2 := by rfl) (hst : (assignEach [tg1, tg2] X.env).findIdx? (·.1) = none := by rfl) (hs1 : (assignEach [tg1, tg2] X.env).map (·.2) = assign tg1 X.env :: (assignEach [tg2] X.env).map (·.2) := by rfl) (hs2 : (assignEach [tg2] X.env).map (·.2) = assign tg2 X.env :: (assignEach [] X.env).map (·.2) := by rfl) :
    SX X es os F0 (.Assign [.Tuple [tg1, tg2] kt pt] (.Tuple [a, b] k2 p2) pos :: rest) D := fun F σ H s ow sl =>
  wps_cons (ws_of (ps_asg (pe_tup pa_u) (pg_tup (n := 2) B.calm (pgs_cons pg_u (pgs_cons pg_u pgs_nil hs2) hs1) hn hst) hs (hw _ hsc) h1) (ha F σ H _ ow sl fun F1 H1 vs φs os' e1 rel o1 c1 => by
    obtain ⟨φ, ψ, rfl⟩ := hR φs os' rel
    obtain ⟨v, u, rfl, c2, c3⟩ := cla2 c1
    obtain ⟨es1, os1, es2, os2, g1, g2, k⟩ := h φ ψ os' rel
    refine ⟨by show 2 ≤ sizeLine; decide, fun p hp => ?_⟩
    refine ⟨p, _, rfl, .of upd_same, rfl, _, _, rfl, ?_⟩
    refine g1 F1 σ _ v _ (o1.grow (same_upd hp)) (sl.mono e1) c2 fun F2 σ2 H2 e2 o2 s2 => ⟨_, _, rfl, ?_⟩
    exact g2 F2 σ2 H2 u _ o2 s2 (c3.mono e2) fun F3 σ3 H3 e3 o3 s3 => ⟨rfl, k F3 σ3 H3 (s.trans (e1.trans (e2.trans e3))) o3 s3⟩))
/-- tg = e -/
theorem sx_asgG (hg : GY X tg φ es os1 es1 os2) (he : EX X es os e φ os1) (h : SX X es1 os2 F0 rest D) (hs : swapsWithSole [tg] e pos.line X.env = pure false := by rfl) (hw : swappedStores [tg] e X.env = pure none := by rfl)
    (h1 : (assignEach [tg] X.env).map (·.2) = [assign tg X.env] := by rfl) : SX X es os F0 (.Assign [tg] e pos :: rest) D := fun F σ H s ow sl =>
  wps_cons (ws_of (ps_asg pe_u pg_u hs hw h1) (he F σ H _ ow sl fun F1 H1 v e1 o1 c1 => hg F1 σ H1 v _ o1 (sl.mono e1) c1 fun F2 σ2 H2 e2 o2 s2 => h F2 σ2 H2 (s.trans (e1.trans e2)) o2 s2))
/-- .append of a list wherever it stands -/
theorem ex_appW {xs xs0 ys : List β} {y : β} {q : Addr} {os' os0' : List β → Os} (hz : appO xs y = some ys) (ho : EX X es os a (own q) os1) (h0 : WrT os1 q (olT enc) xs0 os0') (he : EX X es os1 e (dat (enc y)) os2) (hw : WrT os2 q (olT enc) xs os')
    (hbase : attributeBase a "append" X.env (eval a X.env) = eval a X.env := by rfl) (hline : (apos.endLine == cpos.line) = true := by rfl) (hs : starEach [e] X.env = (false, eval e X.env) :: starEach [] X.env := by rfl)
    (hfew : ((backTo cpos (starEach [e] X.env)).all (fun x => !x.1) && (backToKw cpos (keywordEach [] X.env)).all (fun x => x.1.isSome) && decide ([e].length + ([] : List Keyword).length + (if ([] : List Keyword).isEmpty then 0 else 1) < 30)) = true := by rfl)
    (hplain : (backTo cpos (starEach [] X.env)).any (·.1) = false := by rfl) : EX X es os (.Call (.Attribute a "append" apos) [e] [] cpos) (dat .none) (os' ys) := fun F σ H Q ow sl q => by
  unfold appO at hz
  split at hz
  · rename_i hl
    cases hz
    refine we_of (pe_bm PySem.F.plainAttrs_list PySem.F.slot_list_append PySem.F.type_list_append mt_append pe_u pa_u hbase hfew hline hs hplain) (ho F σ H _ ow sl fun F1 H1 v e1 o1 c1 => ?_)
    obtain ⟨_, o, hq, _, ⟨vs0, rfl, _⟩, _⟩ := h0 F1 H1 _ uni_ol o1
    cases c1.now
    refine ⟨.inl ⟨rfl, vs0, .of hq⟩, wa_of (pa_cons pe_u pa_nil hs) (he F1 σ H1 _ o1 (sl.mono e1) fun F2 H2 u e2 o2 c2 => ?_)⟩
    obtain ⟨_, o, hq, _, ⟨vs, rfl, dv⟩, zz⟩ := hw F2 H2 _ uni_ol o2
    have hlen := dqall_len dv
    rw [List.length_map] at hlen
    refine ⟨_, vs, u, rfl, rfl, hq, by rw [hlen]; exact hl, q F2 _ .non (e1.trans e2) (zz _ (xs ++ [y]) (fun _ h => by cases h) fun G g => ⟨_, rfl, ?_⟩) (cl_dat .non)⟩
    rw [List.map_append]
    exact dqall_mono g _ _ (dqall_app dv (.cons c2.now .nil))
  · cases hz
/-- xs.append(a new owned thing), xs a list of owned things -/
theorem ex_appN {qs0 : List Addr} {ws0 : List γ} {f : γ → Ent} {ws ws' : List γ} {d0 : γ} {q : Addr} {qs : List Addr} (hz : appO ws d0 = some ws') (ho : EX X es os a (own q) os) (h0 : os[i]? = some (q, onl qs0 (ws0.map f))) (he : EN X es os e (f d0) os1) (hj : os1[j]? = some (q, onl qs (ws.map f)))
    (hbase : attributeBase a "append" X.env (eval a X.env) = eval a X.env := by rfl) (hline : (apos.endLine == cpos.line) = true := by rfl) (hs : starEach [e] X.env = (false, eval e X.env) :: starEach [] X.env := by rfl)
    (hfew : ((backTo cpos (starEach [e] X.env)).all (fun x => !x.1) && (backToKw cpos (keywordEach [] X.env)).all (fun x => x.1.isSome) && decide ([e].length + ([] : List Keyword).length + (if ([] : List Keyword).isEmpty then 0 else 1) < 30)) = true := by rfl)
    (hplain : (backTo cpos (starEach [] X.env)).any (·.1) = false := by rfl) : EX X es os (.Call (.Attribute a "append" apos) [e] [] cpos) (dat .none) (os1.set j (q, onx (ws'.map f))) := fun F σ H Q ow sl qq => by
  unfold appO at hz
  split at hz
  · rename_i hl
    cases hz
    refine we_of (pe_bm PySem.F.plainAttrs_list PySem.F.slot_list_append PySem.F.type_list_append mt_append pe_u pa_u hbase hfew hline hs hplain) (ho F σ H _ ow sl fun F1 H1 v e1 o1 c1 => ?_)
    obtain rfl : v = .ref q := c1.now
    obtain ⟨hq0, _⟩ := nest_at i h0 o1
    refine ⟨.inl ⟨rfl, _, .of hq0⟩, wa_of (pa_cons pe_u pa_nil hs) (he F1 σ H1 _ o1 (sl.mono e1) fun F2 H2 r e2 o2 => ?_)⟩
    have o3 := o2.perm ((perm_at hj).cons _)
    obtain ⟨hq, hlen, o4⟩ := o3.snoc
    rw [List.length_map] at hlen
    refine ⟨q, _, .ref r, rfl, rfl, hq, by rw [List.length_map, hlen]; exact hl, qq F2 _ .non (e1.trans e2) ?_ (cl_dat .non)⟩
    rw [List.map_append]
    exact (o4.clx).perm (perm_set hj)
  · cases hz
end
end Z
/-! Z, part X: small words for the printed proofs over dicts. -/
namespace Z
open PySem PySem.Spec PyProof.Rows L2

theorem non_dict {κ β : Type} {kd : Kd κ} {e : β → PyData} : NoN (eD kd e) := fun a => by cases kd <;> rfl
def lenO {α : Type} (xs : List α) : Option Unit := if xs.length < sizeLine then some () else none
theorem lenO_ok {α : Type} {xs : List α} {u : Unit} (h : lenO xs = some u) : xs.length < sizeLine := by
  unfold lenO at h
  split at h
  · assumption
  · cases h
theorem wpAny_Dict_pairsH' {prog : Program} {w : World} {A : Around} {E : Value → Shared → Prop} {s : Shared} {K : Type} [DecidableEq K] {knd : HeapKind prog w K} {env : Env} {keys : List (Option Expr)} {values : List Expr} {pos : Pos} {pairs : List (Sem Value × Sem Value)} {Q : Value → Shared → Prop} (hu : knd.room A)
    (hshape : (evalEachOpt keys env).zip ((evalEach values env).map fun v => do let x ← v; standAt pos; pure x) = pairs.map fun p => (some p.1, p.2)) (h0 : pairs ≠ []) (hlen : pairs.length ≤ 15)
    (h : wpAny (model prog w) A (evalPairs pairs) (fun vs s₁ => ∃ ps, CarriesH knd s₁.heap vs ps ∧ s₁.heap.DictOfH knd s.heap.objs.size [] ∧
      ∀ h' tk, h'.DictOfH knd s.heap.objs.size (storedAllH [] ps) → Heap.SameBut s.heap.objs.size s₁.heap h' → Q (.ref s.heap.objs.size) { s₁ with heap := h', toks := tk }) E
      { s with heap := s.heap.push { cls := .type "dict", data := .dict #[] } }) :
    wpAny (model prog w) A (eval (.Dict keys values pos) env) Q E s := by
  rw [arm_eval_Dict, hshape, dictDisplay_pairs pairs h0 (by omega)]
  exact wpAny_bind (wpAny_standAt (wpAny_bind (wpAny_subDictH (knd := knd) (Q := fun d s' => wpAny (model prog w) A (pure (Value.ref d)) Q E s') hu hlen
    (wpAny_mono h (fun vs s₁ h₁ => by obtain ⟨ps, hc, hm, hq⟩ := h₁; exact ⟨ps, hc, hm, fun h' tk a b => wpAny_pure (hq h' tk a b)⟩) fun _ _ e => e))))
section
variable {X : Cx} {es es1 es2 : List Slot} {os os1 os2 os3 : Os} {F0 : Hp} {rest : List Stmt} {D : Ends} {N V G W : List Str} {n i j vi gi : Nat} {x y : Str} {p pos tpos apos cpos : Pos} {e a b c k v : Expr} {φ ψ : VP} {α κ β γ : Type} {enc : β → PyData}
theorem SX.clos {q : Addr} {qs : List Addr} {es0 : List Ent} (j : Nat) (h : os[j]? = some (q, onl qs es0)) (k : SX X es (os.set j (q, onx es0)) F0 rest D) : SX X es os F0 rest D := sx_clos j h k
theorem wr_same_flat {f : γ → Ent} {d : γ} {q : Addr} (j : Nat) (h : os[j]? = some (q, f d)) : ∀ F H, Ow F os H → Ow F (os.set j (q, f d)) H := fun F H ow => (ow.perm (perm_at h)).perm (perm_set h)
theorem wr_same_nest {f : γ → Ent} {ws : List γ} {d : γ} {q : Addr} {qs : List Addr} {z : Int} (j : Nat) (h : os[j]? = some (q, onl qs (ws.map f))) (hk : idx ws z = some d) : ∀ F H, Ow F os H → Ow F (os.set j (q, onl qs ((setI ws z d).map f))) H := fun F H ow => by
  have e : setI ws z d = ws := by
    obtain ⟨_, k2⟩ := idx_at hk
    unfold setI
    refine List.ext_getElem? fun m => ?_
    by_cases hm : ixD ws.length z = m
    · subst hm
      rw [List.getElem?_set_self (List.getElem?_eq_some_iff.mp k2).1, k2]
    · rw [List.getElem?_set_ne hm]
  rw [e]
  exact (ow.perm (perm_at h)).perm (perm_set h)
theorem en_nil {f : γ → Ent} : EN X es os (.List [] pos) (onx (([] : List γ).map f)) os := fun F σ H Q ow sl q =>
  we_of (pe_lst pa_u) (wa_of pa_nil ⟨by decide, fun p hp => q F _ p (Same.refl F) (ow.new hp fun G s => ⟨[], [], by
    show one p (.lst []) = ov (one p (.lst [])) (fun _ => none)
    funext a
    cases z : one p (.lst []) a with
    | none => rw [ov_none z]
    | some u => rw [ov_some z], .nil, List.pairwise_cons.mpr ⟨(fun _ z => nomatch z), .nil⟩, (fun _ z => nomatch z), rfl⟩)⟩)

/-! ### {k: v} -/
theorem en_disp1 {f : κ → Key} {k' : κ} {x' : β} (hi : (Kd.fl f).Inj) (hk : ∀ q, EX X es (q :: os) k (dat ((Kd.fl f).ek k')) (q :: os1)) (hv : ∀ q, EX X es (q :: os1) v (dat (enc x')) (q :: os2)) : EN X es os (.Dict [some k] [v] pos) (od (.fl f) (eM enc [(k', x')])) os2 := fun F σ H Q ow sl q =>
  we_of (pe_disp (pps_cons pe_u pe_u pps_nil) rfl rfl (by simp) (by simp)) fun p hp => by
    have o0 : Ow F ((p, od (.fl f) ([] : List (κ × PyData))) :: os) (upd H p (.dK [])) := ow.new hp (od_one (kd := .fl f) .nil)
    refine hk _ F σ _ _ o0 sl fun F1 H1 y e1 o1 c1 => hv _ F1 σ H1 _ o1 (sl.mono e1) fun F2 H2 u e2 o2 c2 => ?_
    obtain ⟨_, o, ho, _, kvs, rfl, dv⟩ := o2.atU uni_od
    cases dv
    refine ⟨ho, [(f k', u)], ?_, by simp, ?_⟩
    · rw [key_val (kd := .fl f) (c1.mono e2)]
      rfl
    · exact q F2 _ p (e1.trans e2) (o2.putU uni_od (od_one (kd := .fl f) (kvs := [(k', u)]) (.cons c2.now .nil)))
theorem en_disp1T {f : κ → List Key} {k' : κ} {x' : β} (B : Bd X N W G n) (hk : ∀ q, EX X es (q :: os) k (dat ((Kd.tu f).ek k')) (q :: os1)) (hv : ∀ q, EX X es (q :: os1) v (dat (enc x')) (q :: os2)) : EN X es os (.Dict [some k] [v] pos) (od (.tu f) (eM enc [(k', x')])) os2 := fun F σ H Q ow sl qq pins s I => by
  have hn := I.hok.fresh (Nat.le_refl s.heap.objs.size)
  have I1 := I.laid (a := s.heap.objs.size) (o := .dT []) (h' := s.heap.push { cls := .type "dict", data := .dict #[] }) (t' := s.toks) (fun _ _ q => Heap.get?_push_of_some _ q) (Nat.le_refl _) (dt_empty s.heap I.big)
  have o0 : Ow F ((s.heap.objs.size, od (.tu f) ([] : List (κ × PyData))) :: os) (upd H s.heap.objs.size (.dT [])) := ow.new hn (od_one (kd := .tu f) .nil)
  have hu : (tupleKind (mixKind X.prog X.w)).room X.A := by
    have := B.u1
    show X.A.units < cLine
    omega
  have run := (pps_cons (X := X) (pos := pos) (pe_u (e := k)) (pe_u (e := v)) pps_nil).run pins _ σ _ (fun ps H2 => ∃ F2 kv u, Same F F2 ∧ Ow F2 ((s.heap.objs.size, od (.tu f) ([] : List (κ × PyData))) :: os2) H2 ∧ ps = [(kv, u)] ∧ KeyV (.tu f) k' F2 kv ∧ Dq F2 u (enc x')) I1
    (hk _ F σ _ _ o0 sl fun F1 H1 y e1 o1 c1 => hv _ F1 σ H1 _ o1 (sl.mono e1) fun F2 H2 u e2 o2 c2 => ⟨F2, y, u, e1.trans e2, o2, rfl, key_val (c1.mono e2), c2.now⟩)
  refine wpAny_Dict_pairsH' (knd := tupleKind (mixKind X.prog X.w)) hu (pairs := pairTrees [some k] [v] X.env pos) (zip_pairTrees _ _ _ _ rfl rfl) (by simp [pairTrees]) (by simp [pairTrees]) (wpAny_mono run (fun vs s2 h => ?_) fun _ _ z => z)
  obtain ⟨ps, H2, I2, rel, F2, kv, u, e, o2, rfl, hkv, hd⟩ := h
  obtain ⟨b, rfl, hb⟩ := hkv
  obtain ⟨_, o, ho, _, kvs, rfl, dv⟩ := o2.atU uni_od
  cases dv
  cases rel with
  | cons r1 r2 =>
    cases r2
    obtain ⟨r1, r3⟩ := r1
    rename_i kw
    obtain ⟨w1, w2⟩ := kw
    obtain rfl : w1 = Value.ref b := r1
    obtain ⟨z, hs, xs, rel, dd⟩ := dt_of I2.hok ho
    cases rel
    have hbt : H2 b = some (.tup ((f k').map kV)) := o2.ex _ _ hb
    refine ⟨[(f k', b, w2)], ⟨rfl, rfl, key_of I2.hok hbt, trivial⟩, dd, fun h' tk dd' hs2 => ?_⟩
    refine ⟨.ref s.heap.objs.size, upd H2 s.heap.objs.size (.dT [(f k', u)]), ?_, rfl, ?_⟩
    · have he : ∃ q, h'.get? s.heap.objs.size = some q := let ⟨q, _, _, hq, _⟩ := dd'; ⟨q, hq⟩
      refine d_write I2 (by rw [ho]; exact True.intro) hs2 he ?_
      obtain ⟨o', es', ep', g1, g2, g3, g4, g5, g6⟩ := dd'
      refine ⟨by show 1 ≤ sizeLine; decide, hs, [(f k', b, w2)], .cons ⟨rfl, ?_, r3⟩ .nil, o', es', ep', g1, g2, g3, g4, g6⟩
      have : b ≠ s.heap.objs.size := fun z => by
        rw [z, ho] at hbt
        cases hbt
      rw [upd_ne this]
      exact hbt
    · exact qq F2 _ _ e (o2.putU uni_od (od_one (kd := .tu f) (kvs := [(k', u)]) (.cons hd .nil)))

/-! ### d.get(k, x), k may be None -/
theorem d_get2None {pins : List (Addr × Obj)} {σ : L2.St} {H : Hp} {s : Shared} {a : Addr} {kvs : List (Key × L2.V)} {d : L2.V} {r : Value} {A : Around} {E : Value → Shared → Prop} {Q : Value → Shared → Prop} (I : Inv X pins σ H s) (e : Rd H a (.dK kvs)) (rd : RelV d r) (h : ∀ s', Inv X pins σ H s' → Q r s') :
    wpAny (model X.prog X.w) A (call (.builtin "dict.get") [.ref a, .none, r]) Q E s := by
  obtain ⟨_, hd, vs, _, dd⟩ := dk_rd I.hok e
  obtain ⟨f, hm, hf⟩ := none_map dd
  refine call_meetsIn PySem.F.slot_dict_get dd.typeIs PySem.F.entry_dict_get (PySem.F.args_dict_get_3 _ _ _) (meets_dict_get_default (noneKind X.prog X.w) (k := none) a (show (noneKind X.prog X.w).is none .none = true from rfl) hd r) ⟨_, hm, ?_⟩
  rw [hf]
  exact h _ (I.tok _)
def tDGet2N (td ty tx : TE) : TE := fun σ H Q => td σ H fun x H1 => ∃ a, x = .ref a ∧ IsD H1 a ∧ ty σ H1 fun y H2 => tx σ H2 fun z H3 => (∃ o, DGet H3 a y o ∧ Q (o.getD z) H3) ∨ ∃ kvs, y = .non ∧ Rd H3 a (.dK kvs) ∧ Q z H3
theorem pe_dget2N {o e f : Expr} {td ty tx : TE} (hu : X.A.units + 1 < cLine) (ho : PE X o td) (he : PE X e ty) (hf : PE X f tx) (m : M2 X o "get" apos e f cpos) : PE X (.Call (.Attribute o "get" apos) [e, f] [] cpos) (tDGet2N td ty tx) := by
  refine ⟨fun pins s σ H Q I h => ?_⟩
  refine wpAny_Call_method m.base m.few m.line PySem.F.plainAttrs_dict PySem.F.slot_dict_get PySem.F.type_dict_get (thn (ho.run pins s σ H _ I h) fun u s1 ⟨x, H1, I1, rx, a, ex, d, q1⟩ => ?_)
  subst ex
  obtain rfl : u = Value.ref a := rx
  obtain ⟨t1, t2, _⟩ := isD_at I1 d
  refine ⟨t1, t2, ?_⟩
  rw [m.trees]
  refine Calls.callWith_builtin rfl (Calls.evalArgs_plain (Calls.spliced_cons (thn (he.run pins s1 σ H1 _ I1 q1) fun iv s2 ⟨y, H2, I2, ry, q2⟩ =>
    Calls.spliced_cons (thn (hf.run pins s2 σ H2 _ I2 q2) fun fv s3 ⟨z, H3, I3, rz, q3⟩ => Calls.spliced_nil ?_))))
  rcases q3 with ⟨ov, g, q3⟩ | ⟨kvs, ey, rd, q3⟩
  · exact d_get2 hu I3 g ry rz fun w' s4 I4 rw' => ⟨_, _, I4, rw', q3⟩
  · subst ey
    obtain rfl : iv = Value.none := ry
    exact d_get2None I3 rd rz fun s4 I4 => ⟨z, H3, I4, rz, q3⟩
theorem ex_dget2N [DecidableEq κ] {f : κ → Key} {w : List (κ × β)} {k : Option κ} {x : β} (hi : (Kd.fl f).Inj) (B : Bd X N W G n) (hr : RdD (.fl f) φ os1 (eM enc w)) (hr2 : RdD (.fl f) φ os3 (eM enc w)) (ha : EX X es os a φ os1) (hb : EX X es os1 b (dat (eO (Kd.fl f).ek k)) os2) (hc : EX X es os2 c (dat (enc x)) os3) (hbase : attributeBase a "get" X.env (eval a X.env) = eval a X.env := by rfl) (hline : (apos.endLine == cpos.line) = true := by rfl)
    (htr : backTo cpos (starEach [b, c] X.env) = [(false, eval b X.env), (false, eval c X.env)] := by rfl) : EX X es os (.Call (.Attribute a "get" apos) [b, c] [] cpos) (dat (enc (k.elim x fun k_ => (dGet w k_).getD x))) os3 := fun F σ H Q ow sl q =>
  we_of (pe_dget2N B.u1 pe_u pe_u pe_u ⟨hbase, by rw [htr]; rfl, hline, htr⟩) (ha F σ H _ ow sl fun F1 H1 v e1 o1 c1 => by
    obtain ⟨p, kvs, rfl, rd, dv⟩ := hr F1 H1 v o1 c1
    refine ⟨p, rfl, isD_of (kd := .fl f) rd, hb F1 σ H1 _ o1 (sl.mono e1) fun F2 H2 y e2 o2 c2 => hc F2 σ H2 _ o2 (sl.mono (e1.trans e2)) fun F3 H3 z e3 o3 c3 => ?_⟩
    obtain ⟨p', kvs', ep, rd', dv'⟩ := hr2 F3 H3 _ o3 ((c1.mono e2).mono e3)
    cases ep
    cases k with
    | none => exact .inr ⟨_, clv_none c2, rd', q F3 H3 _ ((e1.trans e2).trans e3) o3 c3⟩
    | some k =>
      refine .inl ⟨_, dget_of (kd := .fl f) hi o3.ex rd' (key_val (kd := .fl f) (k := k) (c2.mono e3)), q F3 H3 _ ((e1.trans e2).trans e3) o3 ?_⟩
      show Cl (dat (enc ((dGet w k).getD x))) F3 _
      cases h : dGet w k with
      | none =>
        rw [(dv_get k dv').2 (by rw [dGet_map, h]; rfl)]
        exact c3
      | some x =>
        obtain ⟨u, hu, hd⟩ := (dv_get k dv').1 (enc x) (by rw [dGet_map, h]; rfl)
        rw [hu]
        exact cl_dat hd)

/-! ### xs.pop(i) -/
def popI {α : Type} (xs : List α) (i : Int) : Option (α × List α) := if -(2 ^ 63) ≤ i ∧ i < 2 ^ 63 then (match seqIndex? i xs.length with
  | some k => (xs[k]?).map fun y => (y, xs.eraseIdx k)
  | none => none) else none
theorem dqall_erase {F : Hp} : ∀ {ds : List PyData} {vs : List L2.V} (i : Nat), DqAll F vs ds → DqAll F (vs.eraseIdx i) (ds.eraseIdx i)
  | _, _, _, .nil => .nil
  | _, _, 0, .cons h1 h2 => h2
  | _, _, i + 1, .cons h1 h2 => .cons h1 (dqall_erase i h2)
theorem map_eraseIdx {α β : Type} (f : α → β) : ∀ (xs : List α) (i : Nat), (xs.eraseIdx i).map f = (xs.map f).eraseIdx i
  | [], _ => rfl
  | x :: xs, 0 => rfl
  | x :: xs, i + 1 => by
    rw [List.eraseIdx_cons_succ, List.map_cons, List.map_cons, List.eraseIdx_cons_succ, map_eraseIdx f xs i]
theorem ex_popI {xs xs0 : List β} {z : Int} {r : β × List β} {q : Addr} (hr : popI xs z = some r) (ho : EX X es os a (own q) os) (h0 : os[j]? = some (q, ol (xs0.map enc))) (he : EX X es os e (dat (.int z)) os1) (hj : os1[j]? = some (q, ol (xs.map enc)))
    (hbase : attributeBase a "pop" X.env (eval a X.env) = eval a X.env := by rfl) (hline : (apos.endLine == cpos.line) = true := by rfl) (hs : starEach [e] X.env = (false, eval e X.env) :: starEach [] X.env := by rfl)
    (hfew : ((backTo cpos (starEach [e] X.env)).all (fun x => !x.1) && (backToKw cpos (keywordEach [] X.env)).all (fun x => x.1.isSome) && decide ([e].length + ([] : List Keyword).length + (if ([] : List Keyword).isEmpty then 0 else 1) < 30)) = true := by rfl)
    (hplain : (backTo cpos (starEach [] X.env)).any (·.1) = false := by rfl) : EX X es os (.Call (.Attribute a "pop" apos) [e] [] cpos) (dat (enc r.1)) (os1.set j (q, ol (r.2.map enc))) := fun F σ H Q ow sl qq => by
  unfold popI at hr
  split at hr
  · rename_i hl
    split at hr
    · rename_i k hk
      cases hy : xs[k]? with
      | none =>
        rw [hy] at hr
        cases hr
      | some y =>
        rw [hy] at hr
        cases hr
        refine we_of (pe_bm PySem.F.plainAttrs_list PySem.F.slot_list_pop PySem.F.type_list_pop mt_popAt pe_u pa_u hbase hfew hline hs hplain) (ho F σ H _ ow sl fun F1 H1 v e1 o1 c1 => ?_)
        obtain rfl : v = .ref q := c1.now
        obtain ⟨_, _, _, ty⟩ := ty_own (K := X.K) o1 h0
        refine ⟨ty, wa_of (pa_cons pe_u pa_nil hs) (he F1 σ H1 _ o1 (sl.mono e1) fun F2 H2 u e2 o2 c2 => ?_)⟩
        obtain ⟨vs, hp, hv, _⟩ := ty_own (K := X.K) o2 hj
        have hlen := dqall_len hv
        rw [List.length_map] at hlen
        obtain ⟨u', hu, hd⟩ := dqall_map hv hy
        refine ⟨q, vs, z, k, u', rfl, by rw [clv_int c2], hp, hl.1, hl.2, by rw [hlen]; exact hk, hu, ?_⟩
        have o3 := ow_set o2 hj (dqall_erase k hv)
        rw [← map_eraseIdx] at o3
        exact qq F2 _ u' (e1.trans e2) o3 (cl_dat hd)
    · cases hr
  · cases hr
/-- xs.extend(ys), ys data -/
theorem ex_extendD {q : Addr} {xs xs0 ys zs : List β} (ha : catO xs ys = some zs) (ho : EX X es os a (own q) os) (h0 : os[j]? = some (q, ol (xs0.map enc))) (he : EX X es os e (dat (.list (ys.map enc))) os1) (hj : os1[j]? = some (q, ol (xs.map enc)))
    (hbase : attributeBase a "extend" X.env (eval a X.env) = eval a X.env := by rfl) (hline : (apos.endLine == cpos.line) = true := by rfl) (hs : starEach [e] X.env = (false, eval e X.env) :: starEach [] X.env := by rfl)
    (hfew : ((backTo cpos (starEach [e] X.env)).all (fun x => !x.1) && (backToKw cpos (keywordEach [] X.env)).all (fun x => x.1.isSome) && decide ([e].length + ([] : List Keyword).length + (if ([] : List Keyword).isEmpty then 0 else 1) < 30)) = true := by rfl)
    (hplain : (backTo cpos (starEach [] X.env)).any (·.1) = false := by rfl) : EX X es os (.Call (.Attribute a "extend" apos) [e] [] cpos) (dat .none) (os1.set j (q, ol (zs.map enc))) := fun F σ H Q ow sl qq => by
  unfold catO at ha
  split at ha
  · rename_i hz
    cases ha
    refine we_of (pe_bm PySem.F.plainAttrs_list PySem.F.slot_list_extend PySem.F.type_list_extend mt_extend pe_u pa_u hbase hfew hline hs hplain) (ho F σ H _ ow sl fun F1 H1 v e1 o1 c1 => ?_)
    obtain rfl : v = .ref q := c1.now
    obtain ⟨_, _, _, ty⟩ := ty_own (K := X.K) o1 h0
    refine ⟨ty, wa_of (pa_cons pe_u pa_nil hs) (he F1 σ H1 _ o1 (sl.mono e1) fun F2 H2 r e2 o2 c2 => ?_)⟩
    obtain ⟨vs, hp, hv, _⟩ := ty_own (K := X.K) o2 hj
    obtain ⟨p2, us, rfl, hu, hus⟩ := dat_list o2 c2
    have l1 := dqall_len hv
    have l2 := dqall_len hus
    rw [List.length_map] at l1 l2
    have o3 := ow_set o2 hj (dqall_app hv hus)
    rw [← List.map_append] at o3
    exact ⟨q, p2, vs, us, rfl, rfl, hp, hu, by omega, qq F2 _ .non (e1.trans e2) o3 (cl_dat .non)⟩
  · cases ha
theorem rc_listKI {w : List (Int × β)} (hr : RdD kI φ os (eM enc w)) : RCN rListK [φ] os (ol ((w.map (·.1)).map PyData.int)) os := rc_listK (f := Sum.inl) hr
theorem rc_listKS {w : List (Str × β)} (hr : RdD kS φ os (eM enc w)) : RCN rListK [φ] os (ol ((w.map (·.1)).map PyData.str)) os := rc_listK (f := Sum.inr) hr
end
/-! ### list comprehensions over pairs -/
section
variable {X : Cx} {es : List Slot} {os os0 : Os} {N V G W : List Str} {k i j : Nat} {x y : Str} {pos tpos p1 p2 : Pos} {e : Expr} {α β S : Type} {scope : Scope} {elt iter : Expr} {ifs : List Expr} {xs : List α} {enc : β → PyData}
theorem lc_mk2 {c : Os → Prop} {d1 d2 : α → PyData} {kk : Nat} (f : S → α → Option (Option β × S)) (OS : S → Os → Os) (s0 : S) (ys : List β) (sf : S) (B : Bd X N W G k) (hi : N[i]? = some x) (hj : N[j]? = some y) (hij : i ≠ j) (hu1 : es[i]? = some un) (hu2 : es[j]? = some un) (hblk : blkC X.N X.env.scope scope [(x, i), (y, j)] = true)
    (ho1 : ownB scope X.env.scope x = true) (ho2 : ownB scope X.env.scope y = true) (hif : ifs.length ≤ 1)
    (hl : xs.length < sizeLine ∧ lcS f xs s0 = some (ys, sf)) (hx : IX X (.Tuple [.Name x p1, .Name y p2] kk tpos) es os iter xs (fun z => dat (.tuple [d1 z, d2 z])) c (OS s0 os0)) (hc : ∀ s tl, c (OS s tl)) (hperm : ∀ s q tl, (OS s (q :: tl)).Perm (q :: OS s tl))
    (hb : ∀ s z t tl, z ∈ xs → f s z = some t → ∃ b os1, ∀ X', Fam X scope X' → PTX X' ((es.set i (sl (dat (d1 z)))).set j (sl (dat (d2 z)))) (OS s tl) ifs b os1 ∧ (b = true → ∃ y, t.1 = some y ∧ EX X' ((es.set i (sl (dat (d1 z)))).set j (sl (dat (d2 z)))) os1 elt (dat (enc y)) (OS t.2 tl)) ∧ (b = false → t.1 = none ∧ os1 = OS t.2 tl)) :
    LcOk X es os (.Tuple [.Name x p1, .Name y p2] kk tpos) iter elt ifs scope [(x, i), (y, j)] xs (fun z => dat (.tuple [d1 z, d2 z])) c (gTup X.K 2 (gCons (gName i) (gCons (gName j) gNil))) (fun z es => (es.set i (sl (dat (d1 z)))).set j (sl (dat (d2 z)))) enc f OS s0 os0 ys sf where
  calm := B.calm
  nd := B.hN ▸ B.nd
  ok := blkOk_by hblk
  pg := fun X' hX => by
    have hK : X'.K = X.K := by
      obtain ⟨_, _, _, _, _, rfl⟩ := hX
      rfl
    have := pg_own2 (tpos := tpos) (kk := kk) (p1 := p1) (p2 := p2) hX B hi hj ho1 ho2
    rw [hK] at this
    exact this
  hv := fun m hm => by
    have e : m = i ∨ m = j := by simpa using hm
    rcases e with rfl | rfl
    · exact hu1
    · exact hu2
  hid := lc_id2 hij
  hg := fun x F σ H v Q os2 sl hw ow c q => lc_gpair hij x F σ H v Q os2 sl hw ow c q
  hif := hif
  hl := hl.2
  hz := hl.1
  hi := hx
  hc := hc
  hperm := hperm
  hb := hb
end
end Z
/-! Z, part Y: len(set(xs)) and more. -/
namespace Z
open PySem PySem.Spec PyProof.Rows L2

def lenSetO (ns : List Int) : Option Int := if ns.Nodup ∧ ns.length ≤ 4000 then some (ns.length : Int) else none
section
variable {X : Cx} {es es1 es2 : List Slot} {os os1 os2 os3 : Os} {F0 : Hp} {rest : List Stmt} {D : Ends} {N V G W : List Str} {n i j vi gi gj : Nat} {x y : Str} {p p2 q pos tpos apos cpos : Pos} {e a b c k v : Expr} {φ ψ : VP} {α κ β γ : Type} {enc : β → PyData}
theorem ex_lenSet {ns : List Int} {m : Int} (B : Bd X N W G n) (hj : G[gi]? = some "len") (hm : X.mg "len" = none) (hj2 : G[gj]? = some "set") (hm2 : X.mg "set" = none) (h : lenSetO ns = some m) (hr : RdL X φ os1 (ns.map PyData.int)) (ha : EX X es os a φ os1)
    (na : starEach [a] X.env = (false, eval a X.env) :: starEach [] X.env := by rfl) : EX X es os (.Call (.Name "len" p) [.Call (.Name "set" p2) [a] [] q] [] pos) (dat (.int m)) os1 := fun F σ H Q ow sl qq => by
  unfold lenSetO at h
  split at h
  · rename_i hl
    cases h
    refine we_of (RZ.pe_lenSetI (B.gl _ (List.mem_of_getElem? hj)).1 hm (B.gl _ (List.mem_of_getElem? hj2)).1 hm2 pe_u B.calm na) (ha F σ H _ ow sl fun F1 H1 v e1 o1 c1 => ?_)
    obtain ⟨l, vs, rfl, h1, h2⟩ := hr F1 H1 v o1 c1
    have ev := dqall_of_ints ns h2
    subst ev
    exact ⟨l, ns, rfl, h1, hl.1, hl.2, qq F1 H1 _ e1 o1 (cl_dat (.int _))⟩
  · cases h
/-- a comprehension stored into a name that is no plain local one is an ordinary store -/
theorem sw_no {elt : Expr} {gs : List Comprehension} {scope : Scope} {py : Pos} {l : Nat} {env : Env} (hy : (env.scope.names.lookup y == some .local) = false) : swapsWith (.ListComp elt gs scope pos) (some (.Name y py)) l env = pure false := by
  unfold swapsWith
  have ky : (env.kindOf y == some NameKind.local) = false := hy
  simp only [ky, Bool.and_false, Bool.false_and]
theorem sw_noL {elt : Expr} {gs : List Comprehension} {scope : Scope} {py : Pos} {l : Nat} {env : Env} (hy : (py.line == pos.line) = false) : swapsWith (.ListComp elt gs scope pos) (some (.Name y py)) l env = pure false := by
  unfold swapsWith
  have ky : (py.line == (Expr.ListComp elt gs scope pos).pos.line) = false := hy
  simp only [ky, Bool.and_false, Bool.false_and]
theorem sw_noD {elt elt2 : Expr} {gs : List Comprehension} {scope : Scope} {py : Pos} {l : Nat} {env : Env} (hy : (env.scope.names.lookup y == some .local) = false) : swapsWith (.DictComp elt elt2 gs scope pos) (some (.Name y py)) l env = pure false := by
  unfold swapsWith
  have ky : (env.kindOf y == some NameKind.local) = false := hy
  simp only [ky, Bool.and_false, Bool.false_and]
/-! ### the same with the entry at two places -/
theorem tx_din [DecidableEq κ] {kd : Kd κ} {w : List (κ × β)} {k : κ} (hi : kd.Inj) (B : Bd X N W G n) (hr : RdD kd φ os2 (eM enc w)) (ha : EX X es os a (dat (kd.ek k)) os1) (hb : EX X es os1 b φ os2) (hm : behindInMarks .In b = false := by rfl) : TX X es os (.Compare a [.In] [b] pos) (dGet w k).isSome os2 := fun F σ H Q ow sl q =>
  wt_of (pt_cmp (pc_din B.u1 pe_u pe_u) hm) (ha F σ H _ ow sl fun F1 H1 y e1 o1 c1 => hb F1 σ H1 _ o1 (sl.mono e1) fun F2 H2 v e2 o2 c2 => by
    obtain ⟨p, kvs, rfl, rd, dv⟩ := hr F2 H2 v o2 c2
    exact ⟨p, _, rfl, dget_of hi o2.ex rd (key_val (c1.mono e2)), _, rfl, by rw [dget_some (H := H2) (p := p) hi dv]; exact q F2 H2 (e1.trans e2) o2⟩)
theorem tx_dnotin [DecidableEq κ] {kd : Kd κ} {w : List (κ × β)} {k : κ} (hi : kd.Inj) (B : Bd X N W G n) (hr : RdD kd φ os2 (eM enc w)) (ha : EX X es os a (dat (kd.ek k)) os1) (hb : EX X es os1 b φ os2) (hm : behindInMarks .NotIn b = false := by rfl) : TX X es os (.Compare a [.NotIn] [b] pos) (!(dGet w k).isSome) os2 := fun F σ H Q ow sl q =>
  wt_of (pt_cmp (pc_dnotin B.u1 pe_u pe_u) hm) (ha F σ H _ ow sl fun F1 H1 y e1 o1 c1 => hb F1 σ H1 _ o1 (sl.mono e1) fun F2 H2 v e2 o2 c2 => by
    obtain ⟨p, kvs, rfl, rd, dv⟩ := hr F2 H2 v o2 c2
    exact ⟨p, _, rfl, dget_of hi o2.ex rd (key_val (c1.mono e2)), _, rfl, by rw [dget_some (H := H2) (p := p) hi dv]; exact q F2 H2 (e1.trans e2) o2⟩)
theorem ex_popI2 {m : Nat} {xs xs0 : List β} {z : Int} {r : β × List β} {q : Addr} (hr : popI xs z = some r) (ho : EX X es os a (own q) os) (h0 : os[m]? = some (q, ol (xs0.map enc))) (he : EX X es os e (dat (.int z)) os1) (hj : os1[j]? = some (q, ol (xs.map enc)))
    (hbase : attributeBase a "pop" X.env (eval a X.env) = eval a X.env := by rfl) (hline : (apos.endLine == cpos.line) = true := by rfl) (hs : starEach [e] X.env = (false, eval e X.env) :: starEach [] X.env := by rfl)
    (hfew : ((backTo cpos (starEach [e] X.env)).all (fun x => !x.1) && (backToKw cpos (keywordEach [] X.env)).all (fun x => x.1.isSome) && decide ([e].length + ([] : List Keyword).length + (if ([] : List Keyword).isEmpty then 0 else 1) < 30)) = true := by rfl)
    (hplain : (backTo cpos (starEach [] X.env)).any (·.1) = false := by rfl) : EX X es os (.Call (.Attribute a "pop" apos) [e] [] cpos) (dat (enc r.1)) (os1.set j (q, ol (r.2.map enc))) := fun F σ H Q ow sl qq => by
  unfold popI at hr
  split at hr
  · rename_i hl
    split at hr
    · rename_i k hk
      cases hy : xs[k]? with
      | none =>
        rw [hy] at hr
        cases hr
      | some y =>
        rw [hy] at hr
        cases hr
        refine we_of (pe_bm PySem.F.plainAttrs_list PySem.F.slot_list_pop PySem.F.type_list_pop mt_popAt pe_u pa_u hbase hfew hline hs hplain) (ho F σ H _ ow sl fun F1 H1 v e1 o1 c1 => ?_)
        obtain rfl : v = .ref q := c1.now
        obtain ⟨_, _, _, ty⟩ := ty_own (K := X.K) o1 h0
        refine ⟨ty, wa_of (pa_cons pe_u pa_nil hs) (he F1 σ H1 _ o1 (sl.mono e1) fun F2 H2 u e2 o2 c2 => ?_)⟩
        obtain ⟨vs, hp, hv, _⟩ := ty_own (K := X.K) o2 hj
        have hlen := dqall_len hv
        rw [List.length_map] at hlen
        obtain ⟨u', hu, hd⟩ := dqall_map hv hy
        refine ⟨q, vs, z, k, u', rfl, by rw [clv_int c2], hp, hl.1, hl.2, by rw [hlen]; exact hk, hu, ?_⟩
        have o3 := ow_set o2 hj (dqall_erase k hv)
        rw [← map_eraseIdx] at o3
        exact qq F2 _ u' (e1.trans e2) o3 (cl_dat hd)
    · cases hr
  · cases hr
end
end Z
/-! Z, part Z: a tuple with an owned list in it. -/
namespace Z
open PySem PySem.Spec PyProof.Rows L2

/-- a tuple of a datum and of the list at q -/
def tpo (d : PyData) (q : Addr) : VP := fun F v => ∃ a x, v = .ref a ∧ F a = some (.tup [x, .ref q]) ∧ Dq F x d
/-- the same as one owned thing -/
def tpE (d : PyData) (ds : List PyData) : Ent := fun p F h => ∃ q x, F p = some (.tup [x, .ref q]) ∧ Dq F x d ∧ ol ds q F h
theorem Ow.re {F H : Hp} {os : Os} {p q : Addr} {e e' : Ent} (h : Ow F ((q, e) :: os) H) (k : ∀ F' g, Same F F' → e q F' g → e' p F' g) : Ow F ((p, e') :: os) H := by
  obtain ⟨hs, a, b, c⟩ := h.ps
  cases a with
  | cons h1 h2 => exact ⟨h.ex, _, .cons (fun G g => k G _ g (h1 G g)) h2, b, c⟩
theorem Ow.opT {F H : Hp} {os : Os} {p : Addr} {d : PyData} {ds : List PyData} (h : Ow F ((p, tpE d ds) :: os) H) : ∃ q, Cl (tpo d q) F (.ref p) ∧ Ow F ((q, ol ds) :: os) H := by
  obtain ⟨k, h1, _, _, _, _⟩ := h.wr
  obtain ⟨q, x, e1, e2, e3⟩ := h1 F (Same.refl F)
  refine ⟨q, fun G g => ⟨p, x, rfl, g _ _ e1, dq_mono g _ _ e2⟩, h.re fun G w g => ?_⟩
  rintro ⟨q', x', a1, a2, a3⟩
  rw [g _ _ e1] at a1
  cases a1
  exact a3
section
variable {X : Cx} {es es1 es2 : List Slot} {os os1 os2 os3 : Os} {F0 : Hp} {rest : List Stmt} {D : Ends} {N V G W : List Str} {n i j k vi gi gj : Nat} {x y : Str} {p p2 q' pos pos' tpos apos cpos : Pos} {e a b c v : Expr} {φ ψ : VP} {q : Addr} {d : PyData} {ds ds' : List PyData}
theorem en_tpo {x1} (ha : EX X es os a (dat d) os1) (hb : EX X es os1 b (own q) os2) (hj : os2[j]? = some (q, ol ds)) (s1 : starEach [a, b] X.env = (false, eval a X.env) :: starEach [b] X.env := by rfl) (s2 : starEach [b] X.env = (false, eval b X.env) :: starEach [] X.env := by rfl) : EN X es os (.Tuple [a, b] x1 pos) (tpE d ds) (os2.eraseIdx j) := fun F σ H Q ow sl qq =>
  we_of (pe_tup pa_u) (ax_cons ha (ax_cons hb ax_nil s2) s1 F σ H _ ow sl fun F1 H1 vs e1 o1 c1 => by
    obtain ⟨u, w, rfl, h1, h2⟩ := cla2 c1
    refine ⟨by show 2 ≤ sizeLine; decide, fun p hp => ?_⟩
    obtain rfl : w = .ref q := h2.now
    have fp := o1.ex.free hp
    have o2 := (o1.perm (perm_at hj)).frozen (o := .tup [u, .ref q]) hp
    refine qq _ _ p (e1.trans (same_upd fp)) (o2.re fun G w g hg => ⟨q, u, g _ _ upd_same, dq_mono ((same_upd fp).trans g) _ _ h1.now, hg⟩))
theorem sx_asgP (B : Bd X N W G k) (T : Bt X V) (hi : N[i]? = some x) (hv : V[vi]? = some x) (he : EN X es os e (tpE d ds) os1) (hd : ds = ds') (h : ∀ q, SX X (es.set i (sl (tpo d q))) ((q, ol ds') :: os1) F0 rest D) (hs : swapsWith e (some (.Name x pos')) pos.line X.env = pure false := by rfl) :
    SX X es os F0 (.Assign [.Name x pos'] e pos :: rest) D := fun F σ H s ow sl =>
  wps_cons (ws_of (ps_set (B.hN ▸ B.nd) (B.hN ▸ hi) (T.loc x (List.mem_of_getElem? hv)) pe_u hs (.inl (T.fn x))) (he F σ H _ ow sl fun F1 H1 p e1 o1 => by
    subst hd
    obtain ⟨q, c, o2⟩ := o1.opT
    exact h q F1 _ H1 (s.trans e1) o2 ((sl.mono e1).put c)))
theorem ex_tpo1 (ha : EX X es os a (tpo d q) os1) (hb : EX X es os1 b (dat (.int 1)) os2) (hp : PlainIx b := by exact fun _ _ => rfl) : EX X es os (.Subscript a b pos) (own q) os2 := fun F σ H Q ow sl qq =>
  we_of (pe_ix L2.ix_tup pe_u pe_u hp) (ha F σ H _ ow sl fun F1 H1 x e1 o1 c1 => hb F1 σ H1 _ o1 (sl.mono e1) fun F2 H2 y e2 o2 c2 => by
    obtain ⟨p, u, rfl, hs, _⟩ := (c1.mono e2).now
    exact ⟨p, _, 1, .ref q, rfl, clv_int c2, .of (o2.ex _ _ hs), rfl, qq F2 H2 _ (e1.trans e2) o2 cl_own⟩)
theorem ex_tpo0 (ha : EX X es os a (tpo d q) os1) (hb : EX X es os1 b (dat (.int 0)) os2) (hp : PlainIx b := by exact fun _ _ => rfl) : EX X es os (.Subscript a b pos) (dat d) os2 := fun F σ H Q ow sl qq =>
  we_of (pe_ix L2.ix_tup pe_u pe_u hp) (ha F σ H _ ow sl fun F1 H1 x e1 o1 c1 => hb F1 σ H1 _ o1 (sl.mono e1) fun F2 H2 y e2 o2 c2 => by
    obtain ⟨p, u, rfl, hs, hd⟩ := (c1.mono e2).now
    exact ⟨p, _, 0, u, rfl, clv_int c2, .of (o2.ex _ _ hs), rfl, qq F2 H2 _ (e1.trans e2) o2 (cl_dat hd)⟩)
theorem rdx_tpo (m : Nat) (h : os[m]? = some (q, ol ds)) : RdX X (tpo d q) os (.tuple [d, .list ds]) := fun z F H v ow c => by
  obtain ⟨_, vs, ho, hv⟩ := (ow.perm (perm_at h)).atL
  obtain ⟨a, u, rfl, ha, hd⟩ := c.now
  have z' : d.hasDict = false ∧ PyData.hasDictAll ds = false := by simpa [PyData.hasDict, PyData.hasDictAll] using z
  exact .tup (.of (ow.ex _ _ ha)) (.cons (dq_dp _ _ _ z'.1 (dq_mono ow.ex _ _ hd)) (.cons (.lst (.of ho) (dqall_dp _ _ _ z'.2 (dqall_mono ow.ex _ _ hv))) .nil))
theorem rc_reprX {t : Str} (r : RdX X φ os d) (h : reprO d = some t) : RCX (rRepr X.K) [φ] os (dat (.str t)) os := fun F H vs Q ow c qq => by
  unfold reprO at h
  split at h
  · rename_i hl
    cases h
    obtain ⟨v, rfl, h⟩ := cla1 c
    exact ⟨v, d, rfl, r hl.2.1 F H v ow h, hl.1, hl.2.1, hl.2.2.1, hl.2.2.2, qq F H _ (Same.refl F) ow (cl_dat (.str _))⟩
  · cases h
end
theorem EX.post {X : Cx} {es : List Slot} {os os1 os2 : Os} {e : Expr} {φ : VP} (h : EX X es os e φ os1) (p : os1.Perm os2) : EX X es os e φ os2 := fun F σ H Q ow sl q => h F σ H Q ow sl fun F1 H1 v e1 o1 => q F1 H1 v e1 (o1.perm p)
theorem TX.post {X : Cx} {es : List Slot} {os os1 os2 : Os} {e : Expr} {t : Bool} (h : TX X es os e t os1) (p : os1.Perm os2) : TX X es os e t os2 := fun F σ H Q ow sl q => h F σ H Q ow sl fun F1 H1 e1 o1 => q F1 H1 e1 (o1.perm p)
theorem WX.post {X : Cx} {es : List Slot} {os os1 os2 : Os} {e : Expr} {t : Bool} (h : WX X es os e t os1) (p : os1.Perm os2) : WX X es os e t os2 := fun F σ H Q ow sl q => h F σ H Q ow sl fun F1 H1 e1 o1 => q F1 H1 e1 (o1.perm p)
theorem frb_tpE {d : PyData} {ds : List PyData} : Frb (tpE d ds) (.tuple [d, .list ds]) := fun p F os H Q ow k => by
  obtain ⟨q, c, o1⟩ := ow.opT
  refine frb_ol q F os H Q o1 fun F1 H1 s1 o2 dq => k F1 H1 s1 o2 ?_
  obtain ⟨a, x, e, h1, h2⟩ := (c.mono s1).now
  cases e
  exact .tup h1 (.cons h2 (.cons dq .nil))
/-- a product: one factor is small, or both are not too long -/
def mulW (i j : Int) : Option Int := if (-(2 ^ 64) < i ∧ i < 2 ^ 64) ∨ (-(2 ^ 64) < j ∧ j < 2 ^ 64) ∨ i.natAbs.log2 + j.natAbs.log2 < 1000000 then some (i * j) else none
theorem ex_mulW {X : Cx} {es : List Slot} {os os1 os2 : Os} {a b : Expr} {pos : Pos} {i j m : Int} (hm : mulW i j = some m) (ha : EX X es os a (dat (.int i)) os1) (hb : EX X es os1 b (dat (.int j)) os2) : EX X es os (.BinOp a .Mult b pos) (dat (.int m)) os2 := by
  unfold mulW at hm
  split at hm
  · rename_i h
    cases hm
    rcases h with h | h | h
    · exact ex_mulL h ha hb
    · exact ex_mulR h ha hb
    · exact ex_mul (if_pos h) ha hb
  · cases hm
theorem map_eO {α : Type} (e : α → PyData) (xs : List α) : List.map e xs = List.map (eO e) (List.map some xs) := by
  rw [List.map_map]
  rfl
end Z
/-! Z, part ZA: zip of two lists. -/
namespace Z
open PySem PySem.Spec PyProof.Rows L2
section
variable {X : Cx} {es : List Slot} {os os1 os2 os3 : Os} {N V G W : List Str} {k i vi gi j : Nat} {x : Str} {p pos : Pos} {e e2 e3 a : Expr} {φ ψ : VP} {n : Ent} {α β : Type}
theorem ix_zip {elts : List Expr} {kk : Nat} {tpos : Pos} {xs : List α} {enc : α → PyData} {ys : List β} {enc2 : β → PyData} {c : Os → Prop} (B : Bd X N W G k) (hj : G[gi]? = some "zip") (hm : X.mg "zip" = none) (he : EX X es os e φ os1) (he2 : EX X es os1 e2 ψ os2) (hc : ∀ o, c o → RdL X φ o (xs.map enc)) (hc2 : ∀ o, c o → RdL X ψ o (ys.map enc2)) (h0 : c os2)
    (hs : starEach [e, e2] X.env = (false, eval e X.env) :: starEach [e2] X.env := by rfl) (hs2 : starEach [e2] X.env = (false, eval e2 X.env) :: starEach [] X.env := by rfl) (hpl : (backTo pos (starEach [e2] X.env)).any (·.1) = false := by rfl) :
    IX X (.Tuple elts kk tpos) es os (.Call (.Name "zip" p) [e, e2] [] pos) (xs.zip ys) (fun z => dat (.tuple [enc z.1, enc2 z.2])) c os2 := fun F σ H R ow sl q =>
  wi_of (RZ.pi_zipA (B.gl _ (List.mem_of_getElem? hj)).1 hm pa_u hs hpl) (wa_of (pa_cons pe_u (pa_cons pe_u pa_nil hs2) hs) (he F σ H _ ow sl fun F1 H1 v e1 o1 c1 => he2 F1 σ H1 _ o1 (sl.mono e1) fun F2 H2 u e2 o2 c2 => by
    obtain ⟨a, vs, rfl, h1, h2⟩ := hc os2 h0 F2 H2 v o2 (c1.mono e2)
    obtain ⟨b, us, rfl, k1, k2⟩ := hc2 os2 h0 F2 H2 u o2 c2
    refine ⟨a, b, vs, us, rfl, .inl ⟨h1, k1, q F2 H2 _ (e1.trans e2) o2 fun F3 H3 os3 i s ow3 kc => ?_⟩⟩
    obtain ⟨a', vs', ea, g1, g2⟩ := hc os3 kc F3 H3 _ ow3 ((c1.mono e2).mono s)
    obtain ⟨b', us', eb, r1, r2⟩ := hc2 os3 kc F3 H3 _ ow3 (c2.mono s)
    cases ea
    cases eb
    have hl := dqall_len g2
    have hl2 := dqall_len r2
    rw [List.length_map] at hl hl2
    refine ⟨fun h => ⟨vs', us', g1, r1, by rw [List.length_zip] at h; omega⟩, fun x hx => ?_⟩
    obtain ⟨hx1, hx2⟩ := List.getElem?_zip_eq_some.mp hx
    obtain ⟨w1, hw1, hd1⟩ := dqall_map g2 hx1
    obtain ⟨w2, hw2, hd2⟩ := dqall_map r2 hx2
    refine ⟨⟨vs', us', w1, w2, g1, r1, hw1, hw2⟩, fun w H4 y => ?_⟩
    obtain ⟨T, y1, y2, rfl, hT, rfl, f1, f2⟩ := y
    have ew1 : vs'[i]? = some y1 := f1 vs' g1
    have ew2 : us'[i]? = some y2 := f2 us' r1
    rw [hw1] at ew1
    rw [hw2] at ew2
    cases ew1
    cases ew2
    have fT := ow3.ex.free hT
    exact ⟨_, same_upd fT, ow3.frozen hT, cl_dat (.tup upd_same (.cons (dq_mono (same_upd fT) _ _ hd1) (.cons (dq_mono (same_upd fT) _ _ hd2) .nil)))⟩))
end
end Z
/-! Y, part A: plain facts about the words of the mirrors. -/
namespace Z
open PySem PySem.Spec L2

theorem log2_small {n k : Nat} (h : n < 2 ^ k) (hk : 0 < k) : n.log2 < k := by
  by_cases h0 : n = 0
  · subst h0
    simpa using hk
  · exact (Nat.log2_lt h0).mpr h
theorem log2_int {i : Int} {k : Nat} (h0 : 0 ≤ i) (h : i < 2 ^ k) (hk : 0 < k) : i.natAbs.log2 < k := by
  refine log2_small ?_ hk
  have e : ((2 ^ k : Nat) : Int) = (2 : Int) ^ k := by norm_cast
  omega
theorem idx_of {α : Type} {xs : List α} {i : Int} {v : α} (h0 : 0 ≤ i) (h : xs[i.toNat]? = some v) : idx xs i = some v := by
  have hl := (List.getElem?_eq_some_iff.mp h).1
  unfold idx atI ixN
  rw [if_pos h0, if_pos (by omega)]
  exact h
theorem idx_last {α : Type} {xs : List α} {v : α} (h : xs[xs.length - 1]? = some v) : idx xs (-1) = some v := by
  have hl := (List.getElem?_eq_some_iff.mp h).1
  unfold idx atI ixN
  rw [if_neg (by omega), if_pos (by omega)]
  have e : ((-1 : Int) + (xs.length : Int)).toNat = xs.length - 1 := by omega
  show xs[((-1 : Int) + (xs.length : Int)).toNat]? = _
  rw [e]
  exact h
theorem rngO_ok {a b : Int} (h : -(2 ^ 62) ≤ a ∧ a < 2 ^ 62 ∧ -(2 ^ 62) ≤ b ∧ b < 2 ^ 62) : rngO a b = some (range' a b) := if_pos h
theorem mem_rng {a b x : Int} (h : x ∈ range' a b) : a ≤ x ∧ x < b := by
  unfold range' at h
  obtain ⟨i, hi, rfl⟩ := List.mem_map.mp h
  have := List.mem_range.mp hi
  omega
theorem lpR_go {α R S : Type} {f : S → α → Option (Step R S)} (P : S → Prop) : ∀ {xs : List α}, (∀ x ∈ xs, ∀ s, P s → ∃ s', f s x = some (.go s') ∧ P s') → ∀ {s0 : S}, P s0 → ∃ s', lpR f xs s0 = some (.inr s') ∧ P s'
  | [], _, s0, h0 => ⟨s0, rfl, h0⟩
  | x :: xs, h, s0, h0 => by
    obtain ⟨s1, e, h1⟩ := h x List.mem_cons_self s0 h0
    obtain ⟨s2, e2, h2⟩ := lpR_go P (fun y hy => h y (List.mem_cons_of_mem _ hy)) h1
    refine ⟨s2, ?_, h2⟩
    unfold lpR
    rw [e]
    exact e2
theorem lpR_goN {α R S : Type} {f : S → α → Option (Step R S)} : ∀ {xs : List α} (P : Nat → S → Prop), (∀ (i : Nat) (x : α) (s : S), xs[i]? = some x → P i s → ∃ s', f s x = some (.go s') ∧ P (i + 1) s') → ∀ {s0 : S}, P 0 s0 → ∃ s', lpR f xs s0 = some (.inr s') ∧ P xs.length s'
  | [], P, _, s0, h0 => ⟨s0, rfl, h0⟩
  | x :: xs, P, h, s0, h0 => by
    obtain ⟨s1, e, h1⟩ := h 0 x s0 rfl h0
    obtain ⟨s2, e2, h2⟩ := lpR_goN (xs := xs) (fun i => P (i + 1)) (fun i y s hy hs => h (i + 1) y s (by simpa using hy) hs) h1
    refine ⟨s2, ?_, h2⟩
    unfold lpR
    rw [e]
    exact e2
theorem lp_goN {α S : Type} {f : S → α → Option S} : ∀ {xs : List α} (P : Nat → S → Prop), (∀ (i : Nat) (x : α) (s : S), xs[i]? = some x → P i s → ∃ s', f s x = some s' ∧ P (i + 1) s') → ∀ {s0 : S}, P 0 s0 → ∃ s', lp f xs s0 = some s' ∧ P xs.length s'
  | [], P, _, s0, h0 => ⟨s0, rfl, h0⟩
  | x :: xs, P, h, s0, h0 => by
    obtain ⟨s1, e, h1⟩ := h 0 x s0 rfl h0
    obtain ⟨s2, e2, h2⟩ := lp_goN (xs := xs) (fun i => P (i + 1)) (fun i y s hy hs => h (i + 1) y s (by simpa using hy) hs) h1
    refine ⟨s2, ?_, h2⟩
    unfold lp
    rw [e]
    exact e2
theorem reprO_int (i : Int) : reprO (.int i) = strO i := by
  unfold reprO strO
  by_cases h : i.natAbs.log2 < 1920
  · rw [if_pos h, if_pos ⟨by simpa only [PyData.showable, decide_eq_true_eq] using h, by simp only [PyData.hasDict], by simp only [PyData.depth]; omega, rfl⟩]
    simp only [PyData.shown]
  · rw [if_neg h, if_neg]
    intro z
    exact h (by simpa only [PyData.showable, decide_eq_true_eq] using z.1)
theorem strO_ok {i : Int} (h : i.natAbs.log2 < 1920) : strO i = some (toString i) := if_pos h

/-! ### what the laws draw from -/
def springM (script : List Int) (k_ : Int) : Option (List Int) :=
  ((if (decide (k_ < (script.length : Int))) = true then ((idx script k_).bind fun t1 => some t1) else some (((53 * k_) + 11) + (script.length : Int)) : Option Int).bind fun s2 => ((lcT (fun (other3 : Int) => (other3 % 1000000000000000000000007)) script).bind fun t5 => ((some (((((absI s2) * 92821) + (7 * (if (decide (s2 < 0)) = true then 1 else 0))) + (t5.sum * 131071)) + (977 * k_))).bind fun mixed6 => some [(maxI 0 (s2 - 1000000000000000000)), (mixed6 % 1000000000000000000000000000057), 0])))
def dropM (w_spring_here : List Int) (many : Int) : Option (Int × List Int) :=
  ((idx w_spring_here 0).bind fun t1 => (if (decide (0 < t1)) = true then ((idx w_spring_here 0).bind fun t2 => (modO t2 many).bind fun t3 => ((idx w_spring_here 0).bind fun t4 => (fdivO t4 many).bind fun t5 => (setO w_spring_here 0 t5).bind fun t6 => some (t3, t6))) else ((idx w_spring_here 2).bind fun t7 => (setO w_spring_here 2 (t7 + 1)).bind fun t8 => ((idx t8 1).bind fun t9 => (idx t8 2).bind fun t10 => (powO (t9 + (161803399 * t10)) 3).bind fun t11 => ((idx t8 2).bind fun t12 => ((idx t8 2).bind fun t13 => (mulO ((t11 + (11 * t12)) % 10000000000000000000000000000033) (((t11 + (11 * t12)) % 10000000000000000000000000000033) + (5503 * t13))).bind fun t14 => ((modO ((t14 % 100000000000000000000000000319) / 12289) many).bind fun t15 => some (t15, t8))))))))
/-- three cells, of which so many draws were made at most -/
def SpOk (n : Nat) (w : List Int) : Prop := ∃ a b c : Int, w = [a, b, c] ∧ 0 ≤ a ∧ 0 ≤ b ∧ b < 2 ^ 101 ∧ 0 ≤ c ∧ c ≤ n
theorem SpOk.mono {n m : Nat} {w : List Int} (h : SpOk n w) (hm : n ≤ m) : SpOk m w := by
  obtain ⟨a, b, c, e, h1, h2, h3, h4, h5⟩ := h
  exact ⟨a, b, c, e, h1, h2, h3, h4, by omega⟩
theorem spring_ok {ns : List Int} {k : Int} (hl : ns.length < sizeLine) (h0 : 0 ≤ k) : ∃ w, springM ns k = some w ∧ SpOk 0 w := by
  unfold springM
  have h1 : ∃ s, (if (decide (k < (ns.length : Int))) = true then ((idx ns k).bind fun t1 => some t1) else some (((53 * k) + 11) + (ns.length : Int)) : Option Int) = some s := by
    by_cases hk : k < (ns.length : Int)
    · rw [if_pos (decide_eq_true hk)]
      have hk2 : k.toNat < ns.length := by omega
      exact ⟨ns[k.toNat], by rw [idx_of h0 (List.getElem?_eq_getElem hk2)]; rfl⟩
    · rw [if_neg (by simpa using hk)]
      exact ⟨_, rfl⟩
  obtain ⟨s, e⟩ := h1
  rw [e]
  show ∃ w, ((lcT (fun (other3 : Int) => (other3 % 1000000000000000000000007)) ns).bind fun t5 => _) = some w ∧ SpOk 0 w
  unfold lcT
  rw [if_pos hl]
  refine ⟨_, rfl, _, _, _, rfl, ?_, Int.emod_nonneg _ (by decide), ?_, Int.le_refl 0, Int.le_refl 0⟩
  · unfold maxI
    split <;> omega
  · refine Int.lt_trans (Int.emod_lt_of_pos _ (by decide)) (by decide)
theorem pow_cube {i : Int} (h0 : 0 ≤ i) (h : i < 2 ^ 103) : powO i 3 = some (i ^ 3) := by
  unfold powO
  rw [if_pos]
  · rfl
  refine ⟨by decide, ?_⟩
  have hb : Builtin.Int.intBits i ≤ 103 := by
    unfold Builtin.Int.intBits
    split
    · omega
    · have := log2_int h0 h (by decide)
      omega
  omega
theorem drop_ok {n : Nat} (hn : n < 2 ^ 60) {w : List Int} (h : SpOk n w) {many : Int} (h0 : 0 < many) (hb : many.natAbs.log2 < 9000) : ∃ v w', dropM w many = some (v, w') ∧ 0 ≤ v ∧ v < many ∧ SpOk (n + 1) w' := by
  obtain ⟨a, b, c, rfl, ha, hb0, hb1, hc0, hc1⟩ := h
  unfold dropM
  have i0 : idx [a, b, c] 0 = some a := rfl
  have i2 : idx [a, b, c] 2 = some c := rfl
  rw [i0]
  show ∃ v w', (if (decide (0 < a)) = true then _ else _) = some (v, w') ∧ 0 ≤ v ∧ v < many ∧ SpOk (n + 1) w'
  by_cases hp : 0 < a
  · rw [if_pos (decide_eq_true hp)]
    refine ⟨a % many, [a / many, b, c], ?_, Int.emod_nonneg _ (by omega), Int.emod_lt_of_pos _ h0, _, _, _, rfl, Int.ediv_nonneg ha (by omega), hb0, hb1, hc0, by omega⟩
    have m1 : modO a many = some (a % many) := if_pos h0
    have m2 : fdivO a many = some (a / many) := if_pos ⟨h0, hb⟩
    have m3 : setO [a, b, c] 0 (a / many) = some [a / many, b, c] := rfl
    show ((modO a many).bind fun t3 => ((some a).bind fun t4 => (fdivO t4 many).bind fun t5 => (setO [a, b, c] 0 t5).bind fun t6 => some (t3, t6))) = _
    rw [m1]
    show ((fdivO a many).bind fun t5 => (setO [a, b, c] 0 t5).bind fun t6 => some (a % many, t6)) = _
    rw [m2]
    show ((setO [a, b, c] 0 (a / many)).bind fun t6 => some (a % many, t6)) = _
    rw [m3]
    rfl
  · rw [if_neg (by simpa using hp), i2]
    have m1 : setO [a, b, c] 2 (c + 1) = some [a, b, c + 1] := rfl
    show ∃ v w', ((setO [a, b, c] 2 (c + 1)).bind fun t8 => _) = some (v, w') ∧ _
    rw [m1]
    have m2 : powO (b + (161803399 * (c + 1))) 3 = some ((b + (161803399 * (c + 1))) ^ 3) := pow_cube (by omega) (by omega)
    show ∃ v w', ((powO (b + (161803399 * (c + 1))) 3).bind fun t11 => _) = some (v, w') ∧ _
    rw [m2]
    generalize (b + (161803399 * (c + 1))) ^ 3 = t11
    have q0 : 0 ≤ (t11 + (11 * (c + 1))) % 10000000000000000000000000000033 := Int.emod_nonneg _ (by decide)
    have q1 : (t11 + (11 * (c + 1))) % 10000000000000000000000000000033 < 10000000000000000000000000000033 := Int.emod_lt_of_pos _ (by decide)
    show ∃ v w', ((mulO ((t11 + (11 * (c + 1))) % 10000000000000000000000000000033) (((t11 + (11 * (c + 1))) % 10000000000000000000000000000033) + (5503 * (c + 1)))).bind fun t14 => ((modO ((t14 % 100000000000000000000000000319) / 12289) many).bind fun t15 => some (t15, [a, b, c + 1]))) = some (v, w') ∧ _
    generalize (t11 + (11 * (c + 1))) % 10000000000000000000000000000033 = x at q0 q1
    have m3 : mulO x (x + 5503 * (c + 1)) = some (x * (x + 5503 * (c + 1))) := by
      refine if_pos ?_
      have e1 : x.natAbs.log2 < 105 := log2_int q0 (by omega) (by decide)
      have e2 : (x + 5503 * (c + 1)).natAbs.log2 < 106 := log2_int (by omega) (by omega) (by decide)
      omega
    rw [m3]
    refine ⟨((x * (x + 5503 * (c + 1))) % 100000000000000000000000000319) / 12289 % many, [a, b, c + 1], ?_, Int.emod_nonneg _ (by omega), Int.emod_lt_of_pos _ h0, _, _, _, rfl, ha, hb0, hb1, by omega, by omega⟩
    have m4 : modO (((x * (x + 5503 * (c + 1))) % 100000000000000000000000000319) / 12289) many = some (((x * (x + 5503 * (c + 1))) % 100000000000000000000000000319) / 12289 % many) := if_pos h0
    show ((modO (((x * (x + 5503 * (c + 1))) % 100000000000000000000000000319) / 12289) many).bind fun t15 => some (t15, [a, b, c + 1])) = _
    rw [m4]
    rfl
/-- draws of small bounds -/
theorem drop_small {n : Nat} (hn : n < 2 ^ 60) {w : List Int} (h : SpOk n w) {many : Int} (h0 : 0 < many) (hb : many < 2 ^ 64) : ∃ v w', dropM w many = some (v, w') ∧ 0 ≤ v ∧ v < many ∧ SpOk (n + 1) w' :=
  drop_ok hn h h0 (Nat.lt_trans (log2_int (by omega) hb (by decide)) (by decide))
end Z
/-! Y, part B: walks made straight; what is left when one thing and its opposite fall away. -/
namespace Z
open PySem PySem.Spec L2

/-! ### the plain words -/
/-- a step put on a pile -/
def psh : List Int → Int → List Int
  | [], x => [x]
  | y :: t, x => if y = -x then t else x :: y :: t
/-- no two opposite steps beside one another -/
def Gd : List Int → Prop
  | x :: y :: t => y ≠ -x ∧ Gd (y :: t)
  | _ => True
theorem gd_nil : Gd [] := trivial
def fl (s w : List Int) : List Int := w.foldl psh s
def red (w : List Int) : List Int := (fl [] w).reverse
def iv (w : List Int) : List Int := w.reverse.map fun x => -x
theorem gd_tail {x : Int} : ∀ {t : List Int}, Gd (x :: t) → Gd t
  | [], _ => trivial
  | _ :: _, h => h.2
theorem psh_gd {s : List Int} {x : Int} (h : Gd s) : Gd (psh s x) := by
  cases s with
  | nil => trivial
  | cons y t =>
    by_cases hy : y = -x
    · rw [show psh (y :: t) x = t from if_pos hy]
      exact gd_tail h
    · rw [show psh (y :: t) x = x :: y :: t from if_neg hy]
      exact ⟨hy, h⟩
theorem psh_inv {s : List Int} {x : Int} (h : Gd s) : psh (psh s x) (-x) = s := by
  cases s with
  | nil =>
    show (if x = -(-x) then [] else [-x, x]) = []
    rw [if_pos (by omega)]
  | cons y t =>
    by_cases hy : y = -x
    · have e : psh (y :: t) x = t := if_pos hy
      rw [e]
      cases t with
      | nil => show [-x] = [y]; rw [hy]
      | cons z t =>
        have e2 : psh (z :: t) (-x) = -x :: z :: t := if_neg (by have := h.1; omega)
        rw [e2, hy]
    · have e : psh (y :: t) x = x :: y :: t := if_neg hy
      rw [e]
      exact if_pos (by omega)
theorem fl_gd : ∀ {w s : List Int}, Gd s → Gd (fl s w)
  | [], _, h => h
  | _ :: w, _, h => fl_gd (w := w) (psh_gd h)
theorem fl_app (s u v : List Int) : fl s (u ++ v) = fl (fl s u) v := List.foldl_append
theorem gd_suf : ∀ {a b : List Int}, Gd (a ++ b) → Gd b
  | [], _, h => h
  | _ :: a, _, h => gd_suf (a := a) (gd_tail h)
theorem gd_pre : ∀ {a b : List Int}, Gd (a ++ b) → Gd a
  | [], _, _ => trivial
  | [_], _, _ => trivial
  | _ :: y :: a, _, h => ⟨h.1, gd_pre (a := y :: a) h.2⟩
theorem gd_join {x y : Int} {t : List Int} (hxy : x ≠ -y) (h2 : Gd (x :: t)) : ∀ {a : List Int}, Gd (a ++ [y]) → Gd (a ++ y :: x :: t)
  | [], _ => ⟨hxy, h2⟩
  | [_], h => ⟨h.1, hxy, h2⟩
  | _ :: b :: a, h => ⟨h.1, gd_join (a := b :: a) hxy h2 h.2⟩
theorem gd_rev : ∀ {w : List Int}, Gd w → Gd w.reverse
  | [], _ => trivial
  | [_], _ => trivial
  | x :: y :: t, h => by
    have ih := gd_rev (w := y :: t) h.2
    rw [List.reverse_cons] at ih
    rw [List.reverse_cons, List.reverse_cons, List.append_assoc]
    have := h.1
    exact gd_join (t := []) (by omega) trivial ih
theorem gd_neg : ∀ {w : List Int}, Gd w → Gd (w.map fun x => -x)
  | [], _ => trivial
  | [_], _ => trivial
  | x :: y :: t, h => ⟨by have := h.1; show -y ≠ -(-x); omega, gd_neg (w := y :: t) h.2⟩
theorem gd_iv {w : List Int} (h : Gd w) : Gd (iv w) := gd_neg (gd_rev h)
theorem fl_of_gd : ∀ {w s : List Int}, Gd (w.reverse ++ s) → fl s w = w.reverse ++ s
  | [], _, _ => rfl
  | x :: w, s, h => by
    rw [List.reverse_cons, List.append_assoc] at h
    have e : psh s x = x :: s := by
      have hs := gd_suf h
      cases s with
      | nil => rfl
      | cons y t => exact if_neg hs.1
    show fl (psh s x) w = _
    have h' : Gd (w.reverse ++ (x :: s)) := h
    rw [e, fl_of_gd (w := w) h', List.reverse_cons, List.append_assoc]
    rfl
theorem red_gd (w : List Int) : Gd (red w) := gd_rev (fl_gd gd_nil)
theorem red_of {w : List Int} (h : Gd w) : red w = w := by
  unfold red
  rw [fl_of_gd (s := []) (by rw [List.append_nil]; exact gd_rev h), List.append_nil, List.reverse_reverse]
theorem fl_nest : ∀ {w t s : List Int}, Gd s → Gd t → fl (fl s t.reverse) w = fl s (fl t w).reverse
  | [], _, _, _, _ => rfl
  | x :: w, t, s, hs, ht => by
    show fl (psh (fl s t.reverse) x) w = fl s (fl (psh t x) w).reverse
    rw [← fl_nest (w := w) hs (psh_gd (x := x) ht)]
    refine congrArg (fun z => fl z w) ?_
    cases t with
    | nil => rfl
    | cons y t =>
      by_cases hy : y = -x
      · have e : psh (y :: t) x = t := if_pos hy
        rw [e, List.reverse_cons, fl_app, hy]
        have := psh_inv (x := -x) (fl_gd (w := t.reverse) hs)
        rw [Int.neg_neg] at this
        exact this
      · have e : psh (y :: t) x = x :: y :: t := if_neg hy
        rw [e, List.reverse_cons (a := x), fl_app]
        rfl
theorem fl_red {s w : List Int} (hs : Gd s) : fl s w = fl s (red w) := fl_nest (t := []) hs gd_nil
theorem red_app (u v : List Int) : red (u ++ v) = red (red u ++ red v) := by
  have e1 := fl_red (w := v) (fl_gd (w := u) gd_nil)
  have e2 := fl_red (s := []) (w := u) gd_nil
  show (fl [] (u ++ v)).reverse = (fl [] (red u ++ red v)).reverse
  rw [fl_app, fl_app, e1, ← e2]
theorem red_red (u : List Int) : red (red u) = red u := red_of (red_gd u)
theorem red_appL (u v : List Int) : red (red u ++ v) = red (u ++ v) := by rw [red_app (red u), red_red, ← red_app]
theorem red_appR (u v : List Int) : red (u ++ red v) = red (u ++ v) := by rw [red_app u, red_red, ← red_app]
theorem iv_cons (x : Int) (w : List Int) : iv (x :: w) = iv w ++ [-x] := by
  unfold iv
  rw [List.reverse_cons, List.map_append]
  rfl
theorem fl_inv : ∀ {w s : List Int}, Gd s → fl s (w ++ iv w) = s
  | [], _, _ => rfl
  | x :: w, s, h => by
    rw [iv_cons]
    show fl (psh s x) (w ++ (iv w ++ [-x])) = s
    rw [← List.append_assoc, fl_app, fl_inv (psh_gd h)]
    exact psh_inv h
theorem red_inv (w : List Int) : red (w ++ iv w) = [] := by
  unfold red
  rw [fl_inv gd_nil]
  rfl
theorem iv_iv (w : List Int) : iv (iv w) = w := by
  unfold iv
  rw [← List.map_reverse, List.reverse_reverse, List.map_map]
  have : ((fun x : Int => -x) ∘ fun x : Int => -x) = id := by
    funext x
    show -(-x) = x
    omega
  rw [this, List.map_id]
theorem red_inv' (w : List Int) : red (iv w ++ w) = [] := by
  have := red_inv (iv w)
  rw [iv_iv] at this
  exact this
theorem red_pair (a b : List Int) (x : Int) : red (a ++ x :: -x :: b) = red (a ++ b) := by
  unfold red
  rw [fl_app, fl_app]
  show (fl (psh (psh (fl [] a) x) (-x)) b).reverse = _
  rw [psh_inv (fl_gd gd_nil)]
theorem psh_mem {P : Int → Prop} {s : List Int} {x : Int} (h : ∀ y ∈ s, P y) (hx : P x) : ∀ y ∈ psh s x, P y := by
  cases s with
  | nil =>
    intro y hy
    have : y = x := by simpa [psh] using hy
    exact this ▸ hx
  | cons z t =>
    by_cases hz : z = -x
    · rw [show psh (z :: t) x = t from if_pos hz]
      exact fun y hy => h y (List.mem_cons_of_mem _ hy)
    · rw [show psh (z :: t) x = x :: z :: t from if_neg hz]
      intro y hy
      rcases List.mem_cons.mp hy with rfl | hy
      · exact hx
      · exact h y hy
theorem fl_mem {P : Int → Prop} : ∀ {w s : List Int}, (∀ y ∈ s, P y) → (∀ y ∈ w, P y) → ∀ y ∈ fl s w, P y
  | [], _, h, _ => h
  | x :: w, _, h, h2 => fl_mem (w := w) (psh_mem h (h2 x List.mem_cons_self)) fun y hy => h2 y (List.mem_cons_of_mem _ hy)
theorem red_mem {P : Int → Prop} {w : List Int} (h : ∀ y ∈ w, P y) : ∀ y ∈ red w, P y := fun y hy =>
  fl_mem (s := []) (fun _ z => nomatch z) h y (List.mem_reverse.mp hy)
theorem psh_len (s : List Int) (x : Int) : (psh s x).length ≤ s.length + 1 := by
  cases s with
  | nil => exact Nat.le_refl _
  | cons y t =>
    by_cases hy : y = -x
    · rw [show psh (y :: t) x = t from if_pos hy, List.length_cons]
      omega
    · rw [show psh (y :: t) x = x :: y :: t from if_neg hy, List.length_cons, List.length_cons]
      exact Nat.le_refl _
theorem fl_len : ∀ (w s : List Int), (fl s w).length ≤ s.length + w.length
  | [], s => Nat.le_refl _
  | x :: w, s => by
    have h1 := fl_len w (psh s x)
    have h2 := psh_len s x
    show (fl (psh s x) w).length ≤ _
    rw [List.length_cons]
    omega
theorem red_len (w : List Int) : (red w).length ≤ w.length := by
  have := fl_len w []
  unfold red
  rw [List.length_reverse]
  simpa using this
theorem iv_len (w : List Int) : (iv w).length = w.length := by
  unfold iv
  rw [List.length_map, List.length_reverse]

/-! ### slices -/
theorem cut_to {α : Type} (xs : List α) {i : Int} (h : 0 ≤ i) : cut xs none (some i) = xs.take i.toNat := by
  obtain ⟨n, rfl⟩ := Int.eq_ofNat_of_zero_le h
  unfold cut
  show (xs.drop 0).take (HT.sIx xs.length xs.length (some (n : Int)) - 0) = _
  rw [HT.sIx_nat, Nat.sub_zero, List.drop_zero, Int.toNat_natCast]
  by_cases hn : n ≤ xs.length
  · rw [Nat.min_eq_left hn]
  · rw [Nat.min_eq_right (by omega), List.take_length, List.take_of_length_le (by omega)]
theorem cut_from {α : Type} (xs : List α) {i : Int} (h : 0 ≤ i) : cut xs (some i) none = xs.drop i.toNat := by
  obtain ⟨n, rfl⟩ := Int.eq_ofNat_of_zero_le h
  unfold cut
  show (xs.drop (HT.sIx xs.length 0 (some (n : Int)))).take (xs.length - HT.sIx xs.length 0 (some (n : Int))) = _
  rw [HT.sIx_nat, Int.toNat_natCast]
  by_cases hn : n ≤ xs.length
  · rw [Nat.min_eq_left hn, List.take_of_length_le (by rw [List.length_drop]; omega)]
  · rw [Nat.min_eq_right (by omega), List.drop_length, List.take_nil, List.drop_of_length_le (by omega)]

/-! ### straightened, as the program writes it -/
def straightM (walk : List Int) : Option (List Int) :=
  ((lp (fun (s1 : (List Int)) (step2 : Int) => ((if (decide (0 < (s1.length : Int))) = true then ((idx s1 (-1)).bind fun t6 => some (decide (t6 = (-step2)))) else some false).bind fun t7 => ((if t7 = true then ((popO s1).bind fun t8 => some t8.2) else ((appO s1 step2).bind fun t9 => some t9) : Option (List Int)).bind fun s10 => some s10))) walk ([])).bind fun f3 => some f3)
theorem last_rev {α : Type} (y : α) (t : List α) : idx (y :: t).reverse (-1) = some y := by
  refine idx_last ?_
  rw [List.length_reverse, List.reverse_cons, List.length_cons, Nat.add_sub_cancel, List.getElem?_append_right (by rw [List.length_reverse]; exact Nat.le_refl _), List.length_reverse, Nat.sub_self]
  rfl
theorem pop_rev {α : Type} (y : α) (t : List α) : popO (y :: t).reverse = some (y, t.reverse) := by
  unfold popO
  rw [List.reverse_cons, List.getLast?_append]
  simp
theorem app_ok {α : Type} {s : List α} {x : α} (h : s.length < sizeLine) : appO s x = some (s ++ [x]) := if_pos h
theorem straight_lp : ∀ (w t : List Int), t.length + w.length ≤ sizeLine → lp (fun (s1 : (List Int)) (step2 : Int) => ((if (decide (0 < (s1.length : Int))) = true then ((idx s1 (-1)).bind fun t6 => some (decide (t6 = (-step2)))) else some false).bind fun t7 => ((if t7 = true then ((popO s1).bind fun t8 => some t8.2) else ((appO s1 step2).bind fun t9 => some t9) : Option (List Int)).bind fun s10 => some s10))) w t.reverse = some (fl t w).reverse
  | [], _, _ => rfl
  | x :: w, t, h => by
    rw [List.length_cons] at h
    have h2 := psh_len t x
    have ih := straight_lp w (psh t x) (by omega)
    unfold lp
    refine Eq.trans (congrArg (fun z => Option.bind z _) (?_ : _ = some (psh t x).reverse)) ih
    cases t with
    | nil =>
      have : appO ([] : List Int) x = some [x] := app_ok (by decide)
      simp [this, psh]
    | cons y t =>
      have hpos : decide (0 < ((y :: t).reverse.length : Int)) = true := by
        rw [List.length_reverse, List.length_cons]
        exact decide_eq_true (by omega)
      rw [hpos, if_pos rfl, last_rev]
      by_cases hy : y = -x
      · have e : psh (y :: t) x = t := if_pos hy
        simp only [Option.bind_some, hy, decide_true, if_true]
        rw [← hy, pop_rev, e]
        rfl
      · have e : psh (y :: t) x = x :: y :: t := if_neg hy
        simp only [Option.bind_some, hy, decide_false, Bool.false_eq_true, if_false]
        rw [app_ok (by rw [List.length_reverse]; omega), e]
        simp
theorem straight_ok {w : List Int} (h : w.length ≤ sizeLine) : straightM w = some (red w) := by
  unfold straightM
  rw [show ([] : List Int) = ([] : List Int).reverse from rfl, straight_lp w [] (by simpa using h)]
  rfl
theorem lcT_some {α β : Type} (f : α → β) {xs : List α} (h : xs.length < sizeLine) : lcT f xs = some (xs.map f) := if_pos h
theorem mapO_some {α β : Type} {f : α → Option β} {g : α → β} : ∀ {xs : List α}, (∀ x ∈ xs, f x = some (g x)) → mapO f xs = some (xs.map g)
  | [], _ => rfl
  | x :: xs, h => by
    unfold mapO
    rw [h x List.mem_cons_self, mapO_some (xs := xs) fun y hy => h y (List.mem_cons_of_mem _ hy)]
    rfl
theorem lcO_some {α β : Type} {f : α → Option β} (g : α → β) {xs : List α} (hl : xs.length < sizeLine) (h : ∀ x ∈ xs, f x = some (g x)) : lcO f xs = some (xs.map g) := by
  unfold lcO
  rw [if_pos hl, mapO_some h]
theorem cat_ok {α : Type} {xs ys : List α} (h : xs.length + ys.length ≤ sizeLine) : catO xs ys = some (xs ++ ys) := if_pos h

/-! ### put behind one another, as the laws write it -/
def kk : List Int → List Int → Nat
  | x :: u, y :: v => if x = -y then kk u v + 1 else 0
  | _, _ => 0
theorem kk_nil (u : List Int) : kk u [] = 0 := by cases u <;> rfl
theorem kk_le : ∀ u v : List Int, kk u v ≤ u.length ∧ kk u v ≤ v.length
  | [], _ => ⟨Nat.zero_le _, Nat.zero_le _⟩
  | _ :: _, [] => ⟨Nat.zero_le _, Nat.zero_le _⟩
  | x :: u, y :: v => by
    have := kk_le u v
    unfold kk
    rw [List.length_cons, List.length_cons]
    split <;> omega
def jn (u v : List Int) : List Int := u.take (u.length - kk u.reverse v) ++ v.drop (kk u.reverse v)
theorem fl_kk : ∀ {v u : List Int}, Gd u → Gd v.reverse → fl u v = ((u.drop (kk u v)).reverse ++ v.drop (kk u v)).reverse
  | [], u, _, _ => by
    rw [kk_nil]
    simp [fl]
  | y :: v, [], _, hv => by
    show fl [] (y :: v) = _
    rw [fl_of_gd (s := []) (by rw [List.append_nil]; exact hv), List.append_nil]
    simp [kk]
  | y :: v, x :: u, hu, hv => by
    by_cases hx : x = -y
    · have e : kk (x :: u) (y :: v) = kk u v + 1 := if_pos hx
      have e2 : psh (x :: u) y = u := if_pos hx
      rw [List.reverse_cons] at hv
      rw [e]
      show fl (psh (x :: u) y) v = _
      rw [e2, fl_kk (v := v) (gd_tail hu) (gd_pre hv)]
      rfl
    · have e : kk (x :: u) (y :: v) = 0 := if_neg hx
      rw [e, fl_of_gd]
      · simp
      · rw [List.reverse_cons] at hv ⊢
        rw [List.append_assoc]
        exact gd_join hx hu hv
theorem jn_red {u v : List Int} (hu : Gd u) (hv : Gd v) : jn u v = red (u ++ v) := by
  unfold red jn
  rw [fl_app, fl_of_gd (s := []) (w := u) (by rw [List.append_nil]; exact gd_rev hu), List.append_nil, fl_kk (gd_rev hu) (gd_rev hv), List.reverse_reverse, List.drop_reverse, List.reverse_reverse]
def joinM (one other : List Int) : Option (List Int) :=
  ((wh (fun (s1 : Int) => ((if (decide (s1 < (one.length : Int))) = true then ((if (decide (s1 < (other.length : Int))) = true then ((idx one (((one.length : Int) - 1) - s1)).bind fun t3 => (idx other s1).bind fun t4 => some (decide (t3 = (-t4)))) else some false).bind fun t5 => some t5) else some false).bind fun t6 => some t6)) (fun (s1 : Int) => (some (Step.go (s1 + 1)) : Option (Step (List Int) Int))) 1000 0).bind fun f2o => Sum.elim (fun r10 => some r10) (fun f2 => ((catO (α := Int) (cut one none (some ((one.length : Int) - f2))) (cut other (some f2) none)).bind fun t9 => some t9)) f2o)
theorem join_test (one other : List Int) (s : Nat) : ((if (decide ((s : Int) < (one.length : Int))) = true then ((if (decide ((s : Int) < (other.length : Int))) = true then ((idx one (((one.length : Int) - 1) - (s : Int))).bind fun t3 => (idx other (s : Int)).bind fun t4 => some (decide (t3 = (-t4)))) else some false).bind fun t5 => some t5) else some false).bind fun t6 => some t6) = some (decide (0 < kk (one.reverse.drop s) (other.drop s))) := by
  by_cases h1 : s < one.length
  · rw [if_pos (decide_eq_true (by omega))]
    have h1r : s < one.reverse.length := by rw [List.length_reverse]; exact h1
    by_cases h2 : s < other.length
    · rw [if_pos (decide_eq_true (by omega))]
      have e1 : idx one (((one.length : Int) - 1) - (s : Int)) = some one.reverse[s] := by
        refine idx_of (by omega) ?_
        rw [show (((one.length : Int) - 1) - (s : Int)).toNat = one.length - 1 - s by omega, ← List.getElem?_reverse h1]
        exact List.getElem?_eq_getElem h1r
      have e2 : idx other (s : Int) = some other[s] := idx_of (by omega) (by rw [Int.toNat_natCast]; exact List.getElem?_eq_getElem h2)
      rw [e1, e2, List.drop_eq_getElem_cons h1r, List.drop_eq_getElem_cons h2]
      simp only [Option.bind_some]
      refine congrArg some ?_
      by_cases hx : one.reverse[s] = -other[s]
      · have e : kk (one.reverse[s] :: one.reverse.drop (s + 1)) (other[s] :: other.drop (s + 1)) = kk (one.reverse.drop (s + 1)) (other.drop (s + 1)) + 1 := if_pos hx
        rw [e, decide_eq_true hx, decide_eq_true (by omega)]
      · have e : kk (one.reverse[s] :: one.reverse.drop (s + 1)) (other[s] :: other.drop (s + 1)) = 0 := if_neg hx
        rw [e, decide_eq_false hx]
        rfl
    · rw [if_neg (by simpa using h2), List.drop_of_length_le (l := other) (by omega), kk_nil]
      rfl
  · rw [if_neg (by simpa using h1), List.drop_of_length_le (l := one.reverse) (by rw [List.length_reverse]; omega)]
    rfl
theorem join_wh (one other : List Int) : ∀ (n s : Nat), kk (one.reverse.drop s) (other.drop s) < n → wh (fun (s1 : Int) => ((if (decide (s1 < (one.length : Int))) = true then ((if (decide (s1 < (other.length : Int))) = true then ((idx one (((one.length : Int) - 1) - s1)).bind fun t3 => (idx other s1).bind fun t4 => some (decide (t3 = (-t4)))) else some false).bind fun t5 => some t5) else some false).bind fun t6 => some t6)) (fun (s1 : Int) => (some (Step.go (s1 + 1)) : Option (Step (List Int) Int))) n (s : Int) = some (.inr ((s + kk (one.reverse.drop s) (other.drop s) : Nat) : Int))
  | 0, _, h => absurd h (Nat.not_lt_zero _)
  | n + 1, s, h => by
    unfold wh
    rw [join_test]
    by_cases h0 : 0 < kk (one.reverse.drop s) (other.drop s)
    · simp only [Option.bind_some, decide_eq_true h0, if_true, Step.aft]
      have h1 : s < one.reverse.length := by
        have := (kk_le (one.reverse.drop s) (other.drop s)).1
        rw [List.length_drop] at this
        omega
      have h2 : s < other.length := by
        have := (kk_le (one.reverse.drop s) (other.drop s)).2
        rw [List.length_drop] at this
        omega
      have e : kk (one.reverse.drop s) (other.drop s) = kk (one.reverse.drop (s + 1)) (other.drop (s + 1)) + 1 := by
        rw [List.drop_eq_getElem_cons h1, List.drop_eq_getElem_cons h2] at h0 ⊢
        by_cases hx : one.reverse[s] = -other[s]
        · exact if_pos hx
        · have e0 : kk (one.reverse[s] :: one.reverse.drop (s + 1)) (other[s] :: other.drop (s + 1)) = 0 := if_neg hx
          rw [e0] at h0
          omega
      rw [e] at h ⊢
      have := join_wh one other n (s + 1) (by omega)
      rw [show ((s + 1 : Nat) : Int) = (s : Int) + 1 by omega] at this
      rw [this]
      refine congrArg (fun z : Nat => some (Sum.inr (z : Int))) ?_
      omega
    · have e : kk (one.reverse.drop s) (other.drop s) = 0 := by omega
      rw [e]
      rfl
theorem join_ok {one other : List Int} (h : other.length < 1000) (h2 : one.length + other.length ≤ sizeLine) : joinM one other = some (jn one other) := by
  unfold joinM
  have hk := kk_le one.reverse other
  have := join_wh one other 1000 0 (by simp only [List.drop_zero]; omega)
  rw [show ((0 : Nat) : Int) = 0 from rfl] at this
  rw [this]
  simp only [Option.bind_some, Sum.elim_inr, List.drop_zero, Nat.zero_add]
  rw [List.length_reverse] at hk
  rw [cut_to _ (by omega), cut_from _ (by omega), cat_ok]
  · unfold jn
    rw [Int.toNat_natCast, show (((one.length : Int) - (kk one.reverse other : Int))).toNat = one.length - kk one.reverse other by omega]
    rfl
  · rw [List.length_take, List.length_drop]
    omega
end Z
/-! Y, part C: the wells of the laws about walks, and the walks drawn of them. -/
namespace Z
open PySem PySem.Spec L2

def wellM (script : (List Int)) (k_ : Int) : Option (List Int) :=
  ((if (decide (k_ < (script.length : Int))) = true then ((idx script k_).bind fun t1 => some t1) else some ((11 * k_) + 6) : Option Int).bind fun s2 => ((lcT (fun (one3 : Int) => (one3 % 1000000000000000000000000103)) script).bind fun t5 => ((some ((((((absI s2) * 8929) + (61 * t5.sum)) + (2 * k_)) + (if (decide (s2 < 0)) = true then 1 else 0)) % 10000000000000000000000000000033)).bind fun seed6 => some [(maxI 0 (s2 - 1000000000000000000)), seed6, 0])))
def takeM (w_well_here : (List Int)) (many : Int) : Option (Int × (List Int)) :=
  ((idx w_well_here 0).bind fun t1 => (if (decide (0 < t1)) = true then ((idx w_well_here 0).bind fun t2 => (modO t2 many).bind fun t3 => ((idx w_well_here 0).bind fun t4 => (fdivO t4 many).bind fun t5 => (setO w_well_here 0 t5).bind fun t6 => some (t3, t6))) else ((idx w_well_here 2).bind fun t7 => (setO w_well_here 2 (t7 + 1)).bind fun t8 => ((idx t8 1).bind fun t9 => (idx t8 2).bind fun t10 => (powO (t9 + (314159 * t10)) 3).bind fun t11 => (idx t8 2).bind fun t12 => (some ((t11 + (2718281 * t12)) % 1000000000000000000000000000000073)).bind fun mixed13 => ((mulO mixed13 (mixed13 + 40503)).bind fun t15 => (modO ((t15 % 10000000000000000000000000000000193) / 10007) many).bind fun t16 => some (t16, t8))))))
def walkM (w_well_here : (List Int)) (letters : Int) (most : Int) : Option ((List Int) × (List Int)) :=
  ((takeM w_well_here 4).bind fun t1 => (takeM t1.2 (most + 1)).bind fun t2 => (takeM t2.2 6).bind fun t3 => (idx ([t2.1, most]) (if (decide (t3.1 = 0)) = true then 1 else 0)).bind fun t4 => ((rngO 0 t4).bind fun t5 => (lcE (β := Int) (fun (s7 : (List Int)) (turn6 : Int) => ((takeM s7 letters).bind fun t8 => (takeM t8.2 2).bind fun t9 => (mulO (1 + t8.1) (1 - (2 * t9.1))).bind fun t10 => some (some t10, t9.2))) t5 t3.2).bind fun t11 => ((if (decide (t1.1 = 1)) = true then ((takeM t11.2 4).bind fun t12 => (repO (cut t11.1 none (some (1 + t12.1))) t4).bind fun t13 => some ((cut t13 none (some t4)), t12.2)) else some (t11.1, t11.2) : Option ((List Int) × (List Int))).bind fun s14 => ((if (decide (t1.1 = 2)) = true then ((lcT (fun (step15 : Int) => (-step15)) ((cut s14.1 none (some (t4 / 3))).reverse)).bind fun t17 => (catO (α := Int) (cut s14.1 none (some (t4 - (t4 / 3)))) t17).bind fun t18 => some t18) else some s14.1 : Option (List Int)).bind fun s19 => ((if (decide (t1.1 = 3)) = true then ((lcT (fun (step20 : Int) => (absI step20)) s19).bind fun t22 => some t22) else some s19 : Option (List Int)).bind fun s23 => some (s23, s14.2))))))
/-- three cells, of which so many draws were made at most -/
def WeOk (n : Nat) (w : List Int) : Prop := ∃ a b c : Int, w = [a, b, c] ∧ 0 ≤ a ∧ 0 ≤ b ∧ b < 2 ^ 104 ∧ 0 ≤ c ∧ c ≤ n
theorem WeOk.mono {n m : Nat} {w : List Int} (h : WeOk n w) (hm : n ≤ m) : WeOk m w := by
  obtain ⟨a, b, c, e, h1, h2, h3, h4, h5⟩ := h
  exact ⟨a, b, c, e, h1, h2, h3, h4, by omega⟩
theorem well_ok {ns : List Int} {k : Int} (hl : ns.length < sizeLine) (h0 : 0 ≤ k) : ∃ w, wellM ns k = some w ∧ WeOk 0 w := by
  unfold wellM
  have h1 : ∃ s, (if (decide (k < (ns.length : Int))) = true then ((idx ns k).bind fun t1 => some t1) else some ((11 * k) + 6) : Option Int) = some s := by
    by_cases hk : k < (ns.length : Int)
    · rw [if_pos (decide_eq_true hk)]
      have hk2 : k.toNat < ns.length := by omega
      exact ⟨ns[k.toNat], by rw [idx_of h0 (List.getElem?_eq_getElem hk2)]; rfl⟩
    · rw [if_neg (by simpa using hk)]
      exact ⟨_, rfl⟩
  obtain ⟨s, e⟩ := h1
  rw [e]
  simp only [Option.bind_some, lcT_some _ hl]
  refine ⟨_, rfl, _, _, _, rfl, ?_, Int.emod_nonneg _ (by decide), ?_, Int.le_refl 0, Int.le_refl 0⟩
  · unfold maxI
    split <;> omega
  · exact Int.lt_trans (Int.emod_lt_of_pos _ (by decide)) (by decide)
theorem pow_three {i : Int} (h0 : 0 ≤ i) (h : i < 2 ^ 200) : powO i 3 = some (i ^ 3) := by
  unfold powO
  rw [if_pos]
  · rfl
  refine ⟨by decide, ?_⟩
  have hb : Builtin.Int.intBits i ≤ 200 := by
    unfold Builtin.Int.intBits
    split
    · omega
    · have := log2_int h0 h (by decide)
      omega
  omega
theorem take_big {n : Nat} (hn : n < 2 ^ 60) {w : List Int} (h : WeOk n w) {many : Int} (h0 : 0 < many) (hbl : many.natAbs.log2 < 9000) : ∃ v w', takeM w many = some (v, w') ∧ 0 ≤ v ∧ v < many ∧ WeOk (n + 1) w' := by
  obtain ⟨a, b, c, rfl, ha, hb0, hb1, hc0, hc1⟩ := h
  unfold takeM
  have i0 : idx [a, b, c] 0 = some a := rfl
  have i2 : idx [a, b, c] 2 = some c := rfl
  have j1 : idx [a, b, c + 1] 1 = some b := rfl
  have j2 : idx [a, b, c + 1] 2 = some (c + 1) := rfl
  have m0 : setO [a, b, c] 2 (c + 1) = some [a, b, c + 1] := rfl
  have m1 : modO a many = some (a % many) := if_pos h0
  have m2 : fdivO a many = some (a / many) := if_pos ⟨h0, hbl⟩
  have m3 : setO [a, b, c] 0 (a / many) = some [a / many, b, c] := rfl
  have m4 : powO (b + (314159 * (c + 1))) 3 = some ((b + (314159 * (c + 1))) ^ 3) := pow_three (by omega) (by omega)
  simp only [i0, i2, j1, j2, m0, m1, m2, m3, m4, Option.bind_some]
  by_cases hp : 0 < a
  · rw [if_pos (decide_eq_true hp)]
    exact ⟨a % many, [a / many, b, c], rfl, Int.emod_nonneg _ (by omega), Int.emod_lt_of_pos _ h0, _, _, _, rfl, Int.ediv_nonneg ha (by omega), hb0, hb1, hc0, by omega⟩
  · rw [if_neg (by simpa using hp)]
    generalize (b + (314159 * (c + 1))) ^ 3 = t11
    have q0 : 0 ≤ (t11 + (2718281 * (c + 1))) % 1000000000000000000000000000000073 := Int.emod_nonneg _ (by decide)
    have q1 : (t11 + (2718281 * (c + 1))) % 1000000000000000000000000000000073 < 1000000000000000000000000000000073 := Int.emod_lt_of_pos _ (by decide)
    generalize (t11 + (2718281 * (c + 1))) % 1000000000000000000000000000000073 = x at q0 q1
    have m5 : mulO x (x + 40503) = some (x * (x + 40503)) := by
      refine if_pos ?_
      have e1 : x.natAbs.log2 < 110 := log2_int q0 (by omega) (by decide)
      have e2 : (x + 40503).natAbs.log2 < 111 := log2_int (by omega) (by omega) (by decide)
      omega
    have m6 : modO (((x * (x + 40503)) % 10000000000000000000000000000000193) / 10007) many = some (((x * (x + 40503)) % 10000000000000000000000000000000193) / 10007 % many) := if_pos h0
    simp only [m5, m6, Option.bind_some]
    exact ⟨_, _, rfl, Int.emod_nonneg _ (by omega), Int.emod_lt_of_pos _ h0, _, _, _, rfl, ha, hb0, hb1, by omega, by omega⟩

theorem take_ok {n : Nat} (hn : n < 2 ^ 60) {w : List Int} (h : WeOk n w) {many : Int} (h0 : 0 < many) (hb : many < 2 ^ 64) : ∃ v w', takeM w many = some (v, w') ∧ 0 ≤ v ∧ v < many ∧ WeOk (n + 1) w' :=
  take_big hn h h0 (Nat.lt_trans (log2_int (by omega) hb (by decide)) (by decide))

/-! ### rules for what is walked -/
theorem lcS_goN {α β S : Type} {f : S → α → Option (Option β × S)} (Qy : β → Prop) : ∀ {xs : List α} (P : Nat → S → Prop), (∀ (i : Nat) (x : α) (s : S), xs[i]? = some x → P i s → ∃ y s', f s x = some (some y, s') ∧ Qy y ∧ P (i + 1) s') → ∀ {s0 : S}, P 0 s0 →
    ∃ ys s', lcS f xs s0 = some (ys, s') ∧ ys.length = xs.length ∧ (∀ y ∈ ys, Qy y) ∧ P xs.length s'
  | [], P, _, s0, h0 => ⟨[], s0, rfl, rfl, (fun _ z => nomatch z), h0⟩
  | x :: xs, P, h, s0, h0 => by
    obtain ⟨y, s1, e, hy, h1⟩ := h 0 x s0 rfl h0
    obtain ⟨ys, s2, e2, hl, hq, h2⟩ := lcS_goN Qy (xs := xs) (fun i => P (i + 1)) (fun i z s hz hs => h (i + 1) z s (by simpa using hz) hs) h1
    refine ⟨y :: ys, s2, ?_, by rw [List.length_cons, List.length_cons, hl], fun z hz => ?_, h2⟩
    · unfold lcS
      rw [e]
      show ((lcS f xs s1).bind _) = _
      rw [e2]
      rfl
    · rcases List.mem_cons.mp hz with rfl | hz
      · exact hy
      · exact hq z hz
theorem lcE_goN {α β S : Type} {f : S → α → Option (Option β × S)} (Qy : β → Prop) {xs : List α} (P : Nat → S → Prop) (hl : xs.length < sizeLine) (h : ∀ (i : Nat) (x : α) (s : S), xs[i]? = some x → P i s → ∃ y s', f s x = some (some y, s') ∧ Qy y ∧ P (i + 1) s') {s0 : S} (h0 : P 0 s0) :
    ∃ ys s', lcE f xs s0 = some (ys, s') ∧ ys.length = xs.length ∧ (∀ y ∈ ys, Qy y) ∧ P xs.length s' := by
  unfold lcE
  rw [if_pos hl]
  exact lcS_goN Qy P h h0
theorem lpR_mix {α R S : Type} {f : S → α → Option (Step R S)} (Rr : R → Prop) : ∀ {xs : List α} (P : Nat → S → Prop), (∀ (i : Nat) (x : α) (s : S), xs[i]? = some x → P i s → (∃ s', f s x = some (.go s') ∧ P (i + 1) s') ∨ ∃ r, f s x = some (.ret r) ∧ Rr r) → ∀ {s0 : S}, P 0 s0 →
    (∃ s', lpR f xs s0 = some (.inr s') ∧ P xs.length s') ∨ ∃ r, lpR f xs s0 = some (.inl r) ∧ Rr r
  | [], P, _, s0, h0 => .inl ⟨s0, rfl, h0⟩
  | x :: xs, P, h, s0, h0 => by
    rcases h 0 x s0 rfl h0 with ⟨s1, e, h1⟩ | ⟨r, e, hr⟩
    · rcases lpR_mix Rr (xs := xs) (fun i => P (i + 1)) (fun i y s hy hs => h (i + 1) y s (by simpa using hy) hs) h1 with ⟨s2, e2, h2⟩ | ⟨r, e2, hr⟩
      · exact .inl ⟨s2, by unfold lpR; rw [e]; exact e2, h2⟩
      · exact .inr ⟨r, by unfold lpR; rw [e]; exact e2, hr⟩
    · exact .inr ⟨r, by unfold lpR; rw [e]; rfl, hr⟩
theorem rng_len (a b : Int) : (range' a b).length = (b - a).toNat := by
  unfold range'
  rw [List.length_map, List.length_range]

/-! ### drawn walks -/
def Sok (L x : Int) : Prop := x ≠ 0 ∧ -L ≤ x ∧ x ≤ L
theorem Sok.mono {L M x : Int} (h : Sok L x) (hm : L ≤ M) : Sok M x := ⟨h.1, by have := h.2.1; omega, by have := h.2.2; omega⟩
theorem Sok.neg {L x : Int} (h : Sok L x) : Sok L (-x) := ⟨by have := h.1; omega, by have := h.2.2; omega, by have := h.2.1; omega⟩
theorem Sok.abs {L x : Int} (h : Sok L x) : Sok L (absI x) := by
  obtain ⟨h1, h2, h3⟩ := h
  unfold absI
  split <;> exact ⟨by omega, by omega, by omega⟩
theorem flat_len {α : Type} (xs : List α) : ∀ m : Nat, (List.replicate m xs).flatten.length = m * xs.length
  | 0 => by simp
  | m + 1 => by
    rw [List.replicate_succ, List.flatten_cons, List.length_append, flat_len xs m, Nat.add_mul]
    omega
theorem flat_mem {α : Type} {xs : List α} {x : α} {m : Nat} (h : x ∈ (List.replicate m xs).flatten) : x ∈ xs := by
  obtain ⟨l, hl, hx⟩ := List.mem_flatten.mp h
  exact (List.mem_replicate.mp hl).2 ▸ hx
theorem walk_ok {n : Nat} {L most : Int} (hn : n + 3000 < 2 ^ 60) {w : List Int} (h : WeOk n w) (h1 : 1 ≤ L) (h4 : L ≤ 4) (hm0 : 0 ≤ most) (hm1 : most ≤ 1000) :
    ∃ ws w', walkM w L most = some (ws, w') ∧ (∀ x ∈ ws, Sok L x) ∧ (ws.length : Int) ≤ most ∧ WeOk (n + 2100) w' := by
  unfold walkM
  obtain ⟨v1, w1, e1, a1, b1, k1⟩ := take_ok (by omega) h (many := 4) (by decide) (by decide)
  obtain ⟨v2, w2, e2, a2, b2, k2⟩ := take_ok (by omega) k1 (many := most + 1) (by omega) (by omega)
  obtain ⟨v3, w3, e3, a3, b3, k3⟩ := take_ok (by omega) k2 (many := 6) (by decide) (by decide)
  simp only [e1, e2, e3, Option.bind_some]
  obtain ⟨sz, es, s0, s1⟩ : ∃ sz, idx [v2, most] (if (decide (v3 = 0)) = true then 1 else 0) = some sz ∧ 0 ≤ sz ∧ sz ≤ most := by
    by_cases hv : v3 = 0
    · rw [if_pos (decide_eq_true hv)]
      exact ⟨most, rfl, hm0, Int.le_refl _⟩
    · rw [if_neg (by simpa using hv)]
      exact ⟨v2, rfl, a2, by omega⟩
  simp only [es, Option.bind_some, rngO_ok (show -(2 ^ 62) ≤ (0 : Int) ∧ (0 : Int) < 2 ^ 62 ∧ -(2 ^ 62) ≤ sz ∧ sz < 2 ^ 62 by omega)]
  have hlr : (range' 0 sz).length = sz.toNat := by rw [rng_len, Int.sub_zero]
  obtain ⟨ys, w4, e4, l4, q4, k4⟩ := lcE_goN (f := (fun (s7 : (List Int)) (turn6 : Int) => ((takeM s7 L).bind fun t8 => (takeM t8.2 2).bind fun t9 => (mulO (1 + t8.1) (1 - (2 * t9.1))).bind fun t10 => some (some t10, t9.2)))) (Sok L) (xs := range' 0 sz) (fun i s => WeOk (n + 3 + 2 * i) s) (by rw [hlr]; exact Nat.lt_of_le_of_lt (m := 1000) (by omega) (by decide)) (fun i x s hx hs => by
    have hi : i < sz.toNat := by
      have := (List.getElem?_eq_some_iff.mp hx).1
      omega
    obtain ⟨u1, x1, f1, c1, d1, g1⟩ := take_ok (by omega) hs (many := L) (by omega) (by omega)
    obtain ⟨u2, x2, f2, c2, d2, g2⟩ := take_ok (by omega) g1 (many := 2) (by decide) (by decide)
    have hu : u2 = 0 ∨ u2 = 1 := by omega
    have hmul : mulO (1 + u1) (1 - 2 * u2) = some ((1 + u1) * (1 - 2 * u2)) := by
      refine if_pos ?_
      have z1 : (1 + u1).natAbs.log2 < 3 := log2_int (by omega) (by omega) (by decide)
      have z2 : (1 - 2 * u2).natAbs.log2 < 2 := by
        rcases hu with rfl | rfl <;> decide
      omega
    refine ⟨(1 + u1) * (1 - 2 * u2), x2, ?_, ?_, ?_⟩
    · simp only [f1, f2, hmul, Option.bind_some]
    · rcases hu with rfl | rfl
      · exact ⟨by omega, by omega, by omega⟩
      · exact ⟨by omega, by omega, by omega⟩
    · exact g2.mono (by omega)) (s0 := w3) (k3.mono (by omega))
  simp only [e4, Option.bind_some]
  rw [hlr] at l4 k4
  have hw4 : WeOk (n + 2050) w4 := k4.mono (by omega)
  obtain ⟨zs, w5, e5, q5, l5, k5⟩ : ∃ zs w5, (if (decide (v1 = 1)) = true then ((takeM w4 4).bind fun t12 => (repO (cut ys none (some (1 + t12.1))) sz).bind fun t13 => some ((cut t13 none (some sz)), t12.2)) else some (ys, w4) : Option ((List Int) × (List Int))) = some (zs, w5) ∧ (∀ x ∈ zs, Sok L x) ∧ (zs.length : Int) ≤ sz ∧ WeOk (n + 2051) w5 := by
    by_cases hv : v1 = 1
    · rw [if_pos (decide_eq_true hv)]
      obtain ⟨u1, x1, f1, c1, d1, g1⟩ := take_ok (by omega) hw4 (many := 4) (by decide) (by decide)
      have hrep : repO (cut ys none (some (1 + u1))) sz = some (List.replicate sz.toNat (ys.take (1 + u1).toNat)).flatten := by
        rw [cut_to _ (by omega)]
        refine if_pos ⟨by omega, by omega, ?_⟩
        have z1 : (ys.take (1 + u1).toNat).length ≤ 4 := by rw [List.length_take]; omega
        have z2 : (ys.take (1 + u1).toNat).length * sz.toNat ≤ 4 * 1000 := Nat.mul_le_mul z1 (by omega)
        exact Nat.le_trans z2 (by decide)
      simp only [f1, hrep, Option.bind_some]
      refine ⟨_, _, rfl, fun x hx => ?_, ?_, g1⟩
      · rw [cut_to _ s0] at hx
        exact q4 x (List.mem_of_mem_take (flat_mem (List.mem_of_mem_take hx)))
      · rw [cut_to _ s0, List.length_take]
        omega
    · rw [if_neg (by simpa using hv)]
      exact ⟨_, _, rfl, q4, by omega, hw4.mono (by omega)⟩
  simp only [e5, Option.bind_some]
  have hz1000 : zs.length < sizeLine := Nat.lt_of_le_of_lt (show zs.length ≤ 1000 by omega) (by decide)
  obtain ⟨us, e6, q6, l6⟩ : ∃ us, (if (decide (v1 = 2)) = true then ((lcT (fun (step15 : Int) => (-step15)) ((cut zs none (some (sz / 3))).reverse)).bind fun t17 => (catO (α := Int) (cut zs none (some (sz - (sz / 3)))) t17).bind fun t18 => some t18) else some zs : Option (List Int)) = some us ∧ (∀ x ∈ us, Sok L x) ∧ (us.length : Int) ≤ sz := by
    by_cases hv : v1 = 2
    · rw [if_pos (decide_eq_true hv), cut_to _ (show 0 ≤ sz / 3 by omega), cut_to _ (show 0 ≤ sz - sz / 3 by omega), lcT_some _ (by rw [List.length_reverse, List.length_take]; omega)]
      simp only [Option.bind_some]
      rw [cat_ok (by rw [List.length_map, List.length_reverse, List.length_take, List.length_take]; exact Nat.le_trans (m := 2000) (by omega) (by decide))]
      refine ⟨_, rfl, fun x hx => ?_, ?_⟩
      · rcases List.mem_append.mp hx with hx | hx
        · exact q5 x (List.mem_of_mem_take hx)
        · obtain ⟨y, hy, rfl⟩ := List.mem_map.mp hx
          exact (q5 y (List.mem_of_mem_take (List.mem_reverse.mp hy))).neg
      · rw [List.length_append, List.length_map, List.length_reverse, List.length_take, List.length_take]
        omega
    · rw [if_neg (by simpa using hv)]
      exact ⟨_, rfl, q5, l5⟩
  simp only [e6, Option.bind_some]
  have hu1000 : us.length < sizeLine := Nat.lt_of_le_of_lt (show us.length ≤ 1000 by omega) (by decide)
  by_cases hv : v1 = 3
  · rw [if_pos (decide_eq_true hv), lcT_some _ hu1000]
    refine ⟨_, _, rfl, fun x hx => ?_, ?_, k5.mono (by omega)⟩
    · obtain ⟨y, hy, rfl⟩ := List.mem_map.mp hx
      exact (q6 y hy).abs
    · rw [List.length_map]
      omega
  · rw [if_neg (by simpa using hv)]
    exact ⟨_, _, rfl, q6, by omega, k5.mono (by omega)⟩
end Z
/-! Y, part D: the wells of the laws about petals and what follows them, and the walks drawn of them; texts of data. -/
namespace Z
open PySem PySem.Spec L2

theorem bindS {α β : Type} {m : Option α} {k : α → Option β} {a : α} {r : Option β} (h : m = some a) (h2 : k a = r) : m.bind k = r := by
  rw [h]
  exact h2
def wellC (script : (List Int)) (k_ : Int) : Option (List Int) :=
  ((if (decide (k_ < (script.length : Int))) = true then ((idx script k_).bind fun t1 => some t1) else some ((7 * k_) + 3)).bind fun t2 => ((lp (fun (s3 : Int) (x4 : (Int × Int)) => ((mulW x4.2 (x4.1 + 3)).bind fun t8 => (some (((s3 * 31) + t8) % 10000000000000000000000000000000000000121)).bind fun total9 => some total9)) (enum script) 0).bind fun f5 => some [(maxI 0 (t2 - 1000000000000000000)), ((((t2 * 8191) + f5) + (524287 * k_)) % 100000000000000000000000000000000000000011), 0]))
def takeC (w_well_here : (List Int)) (many : Int) : Option (Int × (List Int)) :=
  ((idx w_well_here 0).bind fun t1 => (if (decide (0 < t1)) = true then ((idx w_well_here 0).bind fun t2 => (modO t2 many).bind fun t3 => ((idx w_well_here 0).bind fun t4 => (fdivO t4 many).bind fun t5 => (setO w_well_here 0 t5).bind fun t6 => some (t3, t6))) else ((idx w_well_here 2).bind fun t7 => (setO w_well_here 2 (t7 + 1)).bind fun t8 => ((idx t8 1).bind fun t9 => (idx t8 2).bind fun t10 => (powO (t9 + (86028121 * t10)) 3).bind fun t11 => ((idx t8 2).bind fun t12 => (powO ((t11 % 10000000000000000000000000000000000000000057) + (6700417 * t12)) 2).bind fun t13 => (some ((t13 + (t11 % 10000000000000000000000000000000000000000057)) % 1000000000000000000000000000000000000000063)).bind fun mixed14 => ((modO (mixed14 / 999983) many).bind fun t16 => some (t16, t8)))))))
def stepsC (letters : Int) : Option (List Int) :=
  ((rngO 1 (letters + 1)).bind fun t1 => ((lp (fun (s2 : (List Int)) (letter3 : Int) => ((catO (α := Int) s2 ([letter3, (0 - letter3)])).bind fun t7 => some t7)) t1 ([] : (List Int))).bind fun f4 => some f4))
def walkC (w_well_here : (List Int)) (letters : Int) (most : Int) : Option ((List Int) × (List Int)) :=
  ((stepsC letters).bind fun t1 => ((takeC w_well_here 4).bind fun t3 => ((takeC t3.2 (most + 1)).bind fun t4 => (rngO 0 t4.1).bind fun t5 => ((lp (fun (s6 : ((List Int) × (List Int))) (turn7 : Int) => ((takeC s6.1 (t1.length : Int)).bind fun t11 => (idx t1 t11.1).bind fun t12 => ((if (!(decide (t3.1 = 0))) = true then ((if (!decide (s6.2 = ([] : (List Int)))) = true then ((idx s6.2 (-1)).bind fun t13 => some (decide (t13 = (0 - t12)))) else some false).bind fun t14 => some t14) else some false).bind fun t15 => ((if t15 = true then some (0 - t12) else some t12 : Option Int).bind fun s16 => ((appO s6.2 s16).bind fun t17 => some (t11.2, t17)))))) t5 (t4.2, ([] : (List Int)))).bind fun f8 => some (f8.2, f8.1)))))
def straightC (walk_here : (List Int)) : Option (List Int) :=
  ((lp (fun (s1 : (List Int)) (step2 : Int) => ((if (!decide (s1 = ([] : (List Int)))) = true then ((idx s1 (-1)).bind fun t6 => some (decide (t6 = (0 - step2)))) else some false).bind fun t7 => ((if t7 = true then ((popO s1).bind fun t8 => some t8.2) else ((appO s1 step2).bind fun t9 => some t9) : Option (List Int)).bind fun s10 => some s10))) walk_here ([] : (List Int))).bind fun f3 => some f3)
/-- three cells, of which so many draws were made at most -/
def WeC (n : Nat) (w : List Int) : Prop := ∃ a b c : Int, w = [a, b, c] ∧ 0 ≤ a ∧ 0 ≤ b ∧ b < 2 ^ 140 ∧ 0 ≤ c ∧ c ≤ n
theorem WeC.mono {n m : Nat} {w : List Int} (h : WeC n w) (hm : n ≤ m) : WeC m w := by
  obtain ⟨a, b, c, e, h1, h2, h3, h4, h5⟩ := h
  exact ⟨a, b, c, e, h1, h2, h3, h4, by omega⟩
theorem enum_get {α : Type} {xs : List α} {i : Nat} {x : Int × α} (h : (enum xs)[i]? = some x) : x.1 = (i : Int) ∧ xs[i]? = some x.2 := by
  unfold enum at h
  rw [List.getElem?_map, List.getElem?_zipIdx] at h
  cases e : xs[i]? with
  | none => rw [e] at h; cases h
  | some y =>
    rw [e] at h
    simp only [Option.map_some, Option.some.injEq] at h
    subst h
    exact ⟨by simp, rfl⟩
theorem mulW_small {i j : Int} (h : -(2 ^ 64) < j ∧ j < 2 ^ 64) : mulW i j = some (i * j) := if_pos (.inr (.inl h))
theorem cell_ok {ns : List Int} {k d : Int} (h0 : 0 ≤ k) : ∃ s, (if (decide (k < (ns.length : Int))) = true then ((idx ns k).bind fun t1 => some t1) else some d : Option Int) = some s := by
  by_cases hk : k < (ns.length : Int)
  · rw [if_pos (decide_eq_true hk)]
    have hk2 : k.toNat < ns.length := by omega
    exact ⟨ns[k.toNat], by rw [idx_of h0 (List.getElem?_eq_getElem hk2)]; rfl⟩
  · rw [if_neg (by simpa using hk)]
    exact ⟨_, rfl⟩
theorem wellC_ok {ns : List Int} {k : Int} (hl : ns.length < 2 ^ 62) (h0 : 0 ≤ k) : ∃ w, wellC ns k = some w ∧ WeC 0 w := by
  unfold wellC
  obtain ⟨s, e⟩ := cell_ok (ns := ns) (d := (7 * k) + 3) h0
  obtain ⟨f, e2, _⟩ := lp_goN (f := fun (s3 : Int) (x4 : (Int × Int)) => ((mulW x4.2 (x4.1 + 3)).bind fun t8 => (some (((s3 * 31) + t8) % 10000000000000000000000000000000000000121)).bind fun total9 => some total9)) (xs := enum ns) (fun _ _ => True) (fun i x s hx _ => by
    have h1 := (enum_get hx).1
    have h2 := (List.getElem?_eq_some_iff.mp (enum_get hx).2).1
    exact ⟨_, bindS (mulW_small (by omega)) rfl, trivial⟩) (s0 := 0) trivial
  refine ⟨_, bindS e (bindS e2 rfl), _, _, _, rfl, ?_, Int.emod_nonneg _ (by decide), ?_, Int.le_refl 0, Int.le_refl 0⟩
  · unfold maxI
    split <;> omega
  · exact Int.lt_trans (Int.emod_lt_of_pos _ (by decide)) (by decide)
theorem pow_two {i : Int} (h0 : 0 ≤ i) (h : i < 2 ^ 200) : powO i 2 = some (i ^ 2) := by
  unfold powO
  rw [if_pos]
  · rfl
  refine ⟨by decide, ?_⟩
  have hb : Builtin.Int.intBits i ≤ 200 := by
    unfold Builtin.Int.intBits
    split
    · omega
    · have := log2_int h0 h (by decide)
      omega
  omega
theorem takeC_big {n : Nat} (hn : n < 2 ^ 60) {w : List Int} (h : WeC n w) {many : Int} (h0 : 0 < many) (hbl : many.natAbs.log2 < 9000) : ∃ v w', takeC w many = some (v, w') ∧ 0 ≤ v ∧ v < many ∧ WeC (n + 1) w' := by
  obtain ⟨a, b, c, rfl, ha, hb0, hb1, hc0, hc1⟩ := h
  unfold takeC
  have i0 : idx [a, b, c] 0 = some a := rfl
  have i2 : idx [a, b, c] 2 = some c := rfl
  have j1 : idx [a, b, c + 1] 1 = some b := rfl
  have j2 : idx [a, b, c + 1] 2 = some (c + 1) := rfl
  have m0 : setO [a, b, c] 2 (c + 1) = some [a, b, c + 1] := rfl
  have m1 : modO a many = some (a % many) := if_pos h0
  have m2 : fdivO a many = some (a / many) := if_pos ⟨h0, hbl⟩
  have m3 : setO [a, b, c] 0 (a / many) = some [a / many, b, c] := rfl
  have m4 : powO (b + (86028121 * (c + 1))) 3 = some ((b + (86028121 * (c + 1))) ^ 3) := pow_three (by omega) (by omega)
  simp only [i0, i2, j1, j2, m0, m1, m2, m3, m4, Option.bind_some]
  by_cases hp : 0 < a
  · rw [if_pos (decide_eq_true hp)]
    exact ⟨a % many, [a / many, b, c], rfl, Int.emod_nonneg _ (by omega), Int.emod_lt_of_pos _ h0, _, _, _, rfl, Int.ediv_nonneg ha (by omega), hb0, hb1, hc0, by omega⟩
  · rw [if_neg (by simpa using hp)]
    generalize (b + (86028121 * (c + 1))) ^ 3 = t11
    have q0 : 0 ≤ t11 % 10000000000000000000000000000000000000000057 := Int.emod_nonneg _ (by decide)
    have q1 : t11 % 10000000000000000000000000000000000000000057 < 10000000000000000000000000000000000000000057 := Int.emod_lt_of_pos _ (by decide)
    generalize t11 % 10000000000000000000000000000000000000000057 = x at q0 q1
    have m5 : powO (x + (6700417 * (c + 1))) 2 = some ((x + (6700417 * (c + 1))) ^ 2) := pow_two (by omega) (by omega)
    have m6 : modO (((x + (6700417 * (c + 1))) ^ 2 + x) % 1000000000000000000000000000000000000000063 / 999983) many = some (((x + (6700417 * (c + 1))) ^ 2 + x) % 1000000000000000000000000000000000000000063 / 999983 % many) := if_pos h0
    simp only [m5, m6, Option.bind_some]
    exact ⟨_, _, rfl, Int.emod_nonneg _ (by omega), Int.emod_lt_of_pos _ h0, _, _, _, rfl, ha, hb0, hb1, by omega, by omega⟩
theorem takeC_ok {n : Nat} (hn : n < 2 ^ 60) {w : List Int} (h : WeC n w) {many : Int} (h0 : 0 < many) (hb : many < 2 ^ 64) : ∃ v w', takeC w many = some (v, w') ∧ 0 ≤ v ∧ v < many ∧ WeC (n + 1) w' :=
  takeC_big hn h h0 (Nat.lt_trans (log2_int (by omega) hb (by decide)) (by decide))

/-! ### drawn steps and walks -/
theorem stepsC_ok {L : Int} (h1 : 1 ≤ L) (h4 : L ≤ 4) : ∃ ss, stepsC L = some ss ∧ ss ≠ [] ∧ ss.length ≤ 8 ∧ ∀ x ∈ ss, Sok L x := by
  have : L = 1 ∨ L = 2 ∨ L = 3 ∨ L = 4 := by omega
  rcases this with rfl | rfl | rfl | rfl
  · exact ⟨[1, -1], by decide, by decide, by decide, by unfold Sok; decide⟩
  · exact ⟨[1, -1, 2, -2], by decide, by decide, by decide, by unfold Sok; decide⟩
  · exact ⟨[1, -1, 2, -2, 3, -3], by decide, by decide, by decide, by unfold Sok; decide⟩
  · exact ⟨[1, -1, 2, -2, 3, -3, 4, -4], by decide, by decide, by decide, by unfold Sok; decide⟩
theorem idx_mem {α : Type} {xs : List α} {i : Int} (h0 : 0 ≤ i) (h : i < xs.length) : ∃ x, idx xs i = some x ∧ x ∈ xs := by
  have hl : i.toNat < xs.length := by omega
  exact ⟨xs[i.toNat], idx_of h0 (List.getElem?_eq_getElem hl), List.getElem_mem hl⟩
theorem nonempty_last {α : Type} {xs : List α} (h : xs ≠ []) : ∃ x, idx xs (-1) = some x ∧ x ∈ xs := by
  have hp : 0 < xs.length := List.length_pos_iff.mpr h
  have hl : xs.length - 1 < xs.length := by omega
  exact ⟨xs[xs.length - 1], idx_last (List.getElem?_eq_getElem hl), List.getElem_mem hl⟩
theorem walkC_ok {n : Nat} {L most : Int} (hn : n + 3000 < 2 ^ 60) {w : List Int} (h : WeC n w) (h1 : 1 ≤ L) (h4 : L ≤ 4) (hm0 : 0 ≤ most) (hm1 : most ≤ 1000) :
    ∃ ws w', walkC w L most = some (ws, w') ∧ (∀ x ∈ ws, Sok L x) ∧ (ws.length : Int) ≤ most ∧ WeC (n + 1100) w' := by
  unfold walkC
  obtain ⟨ss, es, s1, s2, s3⟩ := stepsC_ok h1 h4
  obtain ⟨v1, w1, e1, a1, b1, k1⟩ := takeC_ok (by omega) h (many := 4) (by decide) (by decide)
  obtain ⟨v2, w2, e2, a2, b2, k2⟩ := takeC_ok (by omega) k1 (many := most + 1) (by omega) (by omega)
  have hlr : (range' 0 v2).length = v2.toNat := by rw [rng_len, Int.sub_zero]
  have hp : 0 < ss.length := List.length_pos_iff.mpr s1
  obtain ⟨s', e3, k3⟩ := lp_goN (f := (fun (s6 : ((List Int) × (List Int))) (turn7 : Int) => ((takeC s6.1 (ss.length : Int)).bind fun t11 => (idx ss t11.1).bind fun t12 => ((if (!(decide (v1 = 0))) = true then ((if (!decide (s6.2 = ([] : (List Int)))) = true then ((idx s6.2 (-1)).bind fun t13 => some (decide (t13 = (0 - t12)))) else some false).bind fun t14 => some t14) else some false).bind fun t15 => ((if t15 = true then some (0 - t12) else some t12 : Option Int).bind fun s16 => ((appO s6.2 s16).bind fun t17 => some (t11.2, t17))))))) (xs := range' 0 v2) (fun i s => WeC (n + 2 + i) s.1 ∧ s.2.length = i ∧ ∀ x ∈ s.2, Sok L x) (fun i x s hx hs => by
    have hi : i < v2.toNat := by
      have := (List.getElem?_eq_some_iff.mp hx).1
      omega
    obtain ⟨g1, g2, g3⟩ := hs
    obtain ⟨u1, x1, f1, c1, d1, g4⟩ := takeC_ok (by omega) g1 (many := (ss.length : Int)) (by omega) (by omega)
    obtain ⟨y, f2, g5⟩ := idx_mem c1 d1
    obtain ⟨b, f3⟩ : ∃ b, (if (!(decide (v1 = 0))) = true then ((if (!decide (s.2 = ([] : (List Int)))) = true then ((idx s.2 (-1)).bind fun t13 => some (decide (t13 = (0 - y)))) else some false).bind fun t14 => some t14) else some false : Option Bool) = some b := by
      by_cases hv : v1 = 0
      · exact ⟨false, if_neg (by simp [hv])⟩
      · rw [if_pos (by simp [hv])]
        by_cases hz : s.2 = []
        · exact ⟨false, by rw [if_neg (by simp [hz])]; rfl⟩
        · obtain ⟨z, ez, _⟩ := nonempty_last hz
          rw [if_pos (by simp [hz]), ez]
          exact ⟨_, rfl⟩
    obtain ⟨y', f4, g6⟩ : ∃ y', (if b = true then some (0 - y) else some y : Option Int) = some y' ∧ Sok L y' := by
      have := s3 y g5
      cases b
      · exact ⟨y, rfl, this⟩
      · exact ⟨0 - y, rfl, by have := this.neg; rwa [show (0 : Int) - y = -y by omega]⟩
    have f5 : appO s.2 y' = some (s.2 ++ [y']) := app_ok (by rw [g2]; exact Nat.lt_of_lt_of_le (show i < 1001 by omega) (by decide))
    refine ⟨_, bindS f1 (bindS f2 (bindS f3 (bindS f4 (bindS f5 rfl)))), g4.mono (by omega), by rw [List.length_append, g2]; rfl, fun z hz => ?_⟩
    rcases List.mem_append.mp hz with hz | hz
    · exact g3 z hz
    · exact List.mem_singleton.mp hz ▸ g6) (s0 := (w2, [])) ⟨k2.mono (by omega), rfl, (fun _ z => nomatch z)⟩
  rw [hlr] at k3
  refine ⟨_, _, bindS es (bindS e1 (bindS e2 (bindS (rngO_ok (show -(2 ^ 62) ≤ (0 : Int) ∧ (0 : Int) < 2 ^ 62 ∧ -(2 ^ 62) ≤ v2 ∧ v2 < 2 ^ 62 by omega)) (bindS e3 rfl)))), k3.2.2, by rw [k3.2.1]; omega, k3.1.mono (by omega)⟩

/-! ### straightened, as these laws write it -/
theorem straightC_lp : ∀ (w t : List Int), t.length + w.length ≤ sizeLine → lp (fun (s1 : (List Int)) (step2 : Int) => ((if (!decide (s1 = ([] : (List Int)))) = true then ((idx s1 (-1)).bind fun t6 => some (decide (t6 = (0 - step2)))) else some false).bind fun t7 => ((if t7 = true then ((popO s1).bind fun t8 => some t8.2) else ((appO s1 step2).bind fun t9 => some t9) : Option (List Int)).bind fun s10 => some s10))) w t.reverse = some (fl t w).reverse
  | [], _, _ => rfl
  | x :: w, t, h => by
    rw [List.length_cons] at h
    have h2 := psh_len t x
    have ih := straightC_lp w (psh t x) (by omega)
    unfold lp
    refine Eq.trans (congrArg (fun z => Option.bind z _) (?_ : _ = some (psh t x).reverse)) ih
    cases t with
    | nil =>
      have : appO ([] : List Int) x = some [x] := app_ok (by decide)
      simp [this, psh]
    | cons y t =>
      have hpos : (!decide ((y :: t).reverse = [])) = true := by simp
      rw [hpos, if_pos rfl, last_rev]
      by_cases hy : y = -x
      · have e : psh (y :: t) x = t := if_pos hy
        simp only [Option.bind_some, hy, show (-x : Int) = 0 - x by omega, decide_true, if_true]
        rw [show (0 : Int) - x = y by omega, pop_rev, e]
        rfl
      · have e : psh (y :: t) x = x :: y :: t := if_neg hy
        have hy' : ¬ y = 0 - x := by omega
        simp only [Option.bind_some, hy', decide_false, Bool.false_eq_true, if_false]
        rw [app_ok (by rw [List.length_reverse]; omega), e]
        simp
theorem straightC_ok {w : List Int} (h : w.length ≤ sizeLine) : straightC w = some (red w) := by
  unfold straightC
  exact bindS (straightC_lp w [] (by simpa using h)) rfl

/-! ### texts of data -/
theorem listText_le (ts : List Str) : (listText ts).length ≤ piled ts + 2 := by
  cases ts with
  | nil => decide
  | cons t r =>
    have h := textFrom_length_pos r 1 (("[" : Str) ++ (if (0 : Nat) > 0 then ", " else "" : String) ++ t) (Nat.succ_pos 0)
    have e : ((("[" : Str) ++ (if (0 : Nat) > 0 then ", " else "" : String) ++ t)).length = 1 + t.length := by
      rw [strLen_append, strLen_append]; rfl
    have hX : (listText (t :: r)).length = (textFrom 0 "[" (t :: r)).length + 1 := by
      show (textFrom 0 "[" (t :: r) ++ "]").length = _
      rw [strLen_append]; rfl
    have hY : (textFrom 0 "[" (t :: r)).length = (textFrom 1 (("[" : Str) ++ (if (0 : Nat) > 0 then ", " else "" : String) ++ t) r).length := rfl
    rw [hX, hY, h, e, piled_cons]; omega
theorem tupleText_le (ts : List Str) : (tupleText ts).length ≤ piled ts + 3 := by
  unfold tupleText
  rw [strLen_append, strLen_append]
  have e1 : ((("(" : String) : Str)).length = 1 := rfl
  have e3 : (((if ts.length == 1 then ",)" else ")" : String) : Str)).length ≤ 2 := by split <;> decide
  rw [e1]
  by_cases h : ts = []
  · subst h
    have : (Str.join ", " ([] : List Str)).length = 0 := rfl
    omega
  · have := join_length_add ts h
    omega
/-- what a datum needs so that its text can be asked for: no deeper than k, no longer than n -/
def Txt (k n : Nat) (d : PyData) : Prop := d.showable = true ∧ d.hasDict = false ∧ d.depth ≤ k ∧ d.shown.length ≤ n
theorem Txt.mono {k n k' n' : Nat} {d : PyData} (h : Txt k n d) (hk : k ≤ k') (hn : n ≤ n') : Txt k' n' d := ⟨h.1, h.2.1, Nat.le_trans h.2.2.1 hk, Nat.le_trans h.2.2.2 hn⟩
theorem Txt.repr {k n : Nat} {d : PyData} (h : Txt k n d) (hk : k ≤ 60) (hn : n ≤ sizeLine) : reprO d = some d.shown := if_pos ⟨h.1, h.2.1, Nat.le_trans h.2.2.1 hk, by
  unfold shortO
  rw [decide_eq_true (Nat.le_trans h.2.2.2 hn), Bool.or_true]⟩
theorem txt_int {i : Int} {k : Nat} (hk : 0 < k) (hk2 : k ≤ 1900) (h : i.natAbs < 2 ^ k) : Txt 0 (k + 1) (.int i) := by
  have hl := log2_small h hk
  refine ⟨by simp only [PyData.showable]; exact decide_eq_true (by omega), by simp only [PyData.hasDict], by simp only [PyData.depth]; omega, ?_⟩
  simp only [PyData.shown]
  have := int_text_length_le hk hl
  show (Str.ofString (toString i)).length ≤ k + 1
  rw [ofString_length]
  exact this
theorem txt_all {k n : Nat} : ∀ {ds : List PyData}, (∀ d ∈ ds, Txt k n d) → PyData.showableAll ds = true ∧ PyData.hasDictAll ds = false ∧ PyData.depthAll ds ≤ k ∧ piled (PyData.shownAll ds) ≤ ds.length * (n + 2)
  | [], _ => ⟨by simp only [PyData.showableAll], by simp only [PyData.hasDictAll], by simp only [PyData.depthAll]; omega, by simp [PyData.shownAll, piled]⟩
  | d :: ds, h => by
    obtain ⟨a1, a2, a3, a4⟩ := h d List.mem_cons_self
    obtain ⟨b1, b2, b3, b4⟩ := txt_all fun x hx => h x (List.mem_cons_of_mem _ hx)
    refine ⟨by simp only [PyData.showableAll, a1, b1, Bool.and_self], by simp only [PyData.hasDictAll, a2, b2, Bool.or_self], by simp only [PyData.depthAll]; omega, ?_⟩
    simp only [PyData.shownAll]
    rw [piled_cons, List.length_cons, Nat.add_mul]
    omega
theorem txt_list {k n : Nat} {ds : List PyData} (h : ∀ d ∈ ds, Txt k n d) : Txt (k + 1) (ds.length * (n + 2) + 2) (.list ds) := by
  obtain ⟨b1, b2, b3, b4⟩ := txt_all h
  refine ⟨by simp only [PyData.showable, b1], by simp only [PyData.hasDict, b2], by simp only [PyData.depth]; omega, ?_⟩
  simp only [PyData.shown]
  have := listText_le (PyData.shownAll ds)
  omega
theorem txt_tup {k n : Nat} {ds : List PyData} (h : ∀ d ∈ ds, Txt k n d) : Txt (k + 1) (ds.length * (n + 2) + 3) (.tuple ds) := by
  obtain ⟨b1, b2, b3, b4⟩ := txt_all h
  refine ⟨by simp only [PyData.showable, b1], by simp only [PyData.hasDict, b2], by simp only [PyData.depth]; omega, ?_⟩
  simp only [PyData.shown]
  have := tupleText_le (PyData.shownAll ds)
  omega
end Z
/-! Y, part E: stretches of steps that come again, and lists of them. -/
namespace Z
open PySem PySem.Spec L2

/-! ### what stands alike ahead -/
def cp : List Int → List Int → Nat
  | x :: u, y :: v => if x = y then cp u v + 1 else 0
  | _, _ => 0
theorem cp_le : ∀ u v : List Int, cp u v ≤ u.length ∧ cp u v ≤ v.length
  | [], _ => ⟨Nat.zero_le _, Nat.zero_le _⟩
  | _ :: _, [] => ⟨Nat.zero_le _, Nat.zero_le _⟩
  | x :: u, y :: v => by
    have := cp_le u v
    unfold cp
    rw [List.length_cons, List.length_cons]
    split <;> omega
theorem cp_at : ∀ {u v : List Int} {i : Nat}, i < cp u v → u.getD i 0 = v.getD i 0
  | [], _, _, h => absurd h (Nat.not_lt_zero _)
  | _ :: _, [], _, h => absurd h (Nat.not_lt_zero _)
  | x :: u, y :: v, i, h => by
    by_cases hx : x = y
    · cases i with
      | zero => exact hx
      | succ i =>
        have e : cp (x :: u) (y :: v) = cp u v + 1 := if_pos hx
        rw [e] at h
        exact cp_at (u := u) (v := v) (i := i) (by omega)
    · have e : cp (x :: u) (y :: v) = 0 := if_neg hx
      rw [e] at h
      exact absurd h (Nat.not_lt_zero _)
theorem cp_end : ∀ {u v : List Int}, cp u v < u.length → cp u v < v.length → u.getD (cp u v) 0 ≠ v.getD (cp u v) 0
  | [], _, h, _ => absurd h (Nat.not_lt_zero _)
  | _ :: _, [], _, h => absurd h (Nat.not_lt_zero _)
  | x :: u, y :: v, h1, h2 => by
    by_cases hx : x = y
    · have e : cp (x :: u) (y :: v) = cp u v + 1 := if_pos hx
      rw [e] at h1 h2 ⊢
      exact cp_end (u := u) (v := v) (by simpa using h1) (by simpa using h2)
    · have e : cp (x :: u) (y :: v) = 0 := if_neg hx
      rw [e]
      exact hx
theorem cp_take : ∀ {u v : List Int} {s : Nat}, s ≤ u.length → s ≤ v.length → (u.take s = v.take s ↔ s ≤ cp u v)
  | _, _, 0, _, _ => by simp
  | [], _, s + 1, h, _ => absurd h (Nat.not_succ_le_zero _)
  | _ :: _, [], s + 1, _, h => absurd h (Nat.not_succ_le_zero _)
  | x :: u, y :: v, s + 1, h1, h2 => by
    have ih := cp_take (u := u) (v := v) (s := s) (by simpa using h1) (by simpa using h2)
    rw [List.take_succ_cons, List.take_succ_cons, List.cons.injEq, ih]
    by_cases hx : x = y
    · have e : cp (x :: u) (y :: v) = cp u v + 1 := if_pos hx
      rw [e]
      constructor
      · intro z
        omega
      · intro z
        exact ⟨hx, by omega⟩
    · have e : cp (x :: u) (y :: v) = 0 := if_neg hx
      rw [e]
      constructor
      · intro z
        exact absurd z.1 hx
      · intro z
        omega
theorem iv_get {w : List Int} {i : Nat} (h : i < w.length) : (iv w).getD i 0 = -w.getD (w.length - 1 - i) 0 := by
  unfold iv
  have h2 : i < w.reverse.length := by rw [List.length_reverse]; exact h
  rw [List.getD_eq_getElem?_getD, List.getElem?_map, List.getElem?_reverse h, List.getD_eq_getElem?_getD, List.getElem?_eq_getElem (show w.length - 1 - i < w.length by omega)]
  rfl
theorem iv_take {w : List Int} {s : Nat} : iv (w.drop (w.length - s)) = (iv w).take s := by
  unfold iv
  rw [← List.map_take, List.take_reverse]
theorem idx_getD {w : List Int} {i : Int} (h0 : 0 ≤ i) (h : i < (w.length : Int)) : idx w i = some (w.getD i.toNat 0) := by
  have hl : i.toNat < w.length := by omega
  rw [idx_of h0 (List.getElem?_eq_getElem hl), List.getD_eq_getElem?_getD, List.getElem?_eq_getElem hl]
  rfl
/-- how many steps fall away at both ends -/
theorem cut_mid {α : Type} (xs : List α) {i j : Int} (h0 : 0 ≤ i) (h1 : i ≤ xs.length) (h2 : 0 ≤ j) (h3 : j ≤ xs.length) : cut xs (some i) (some j) = (xs.drop i.toNat).take (j.toNat - i.toNat) := by
  obtain ⟨n, rfl⟩ := Int.eq_ofNat_of_zero_le h0
  obtain ⟨m, rfl⟩ := Int.eq_ofNat_of_zero_le h2
  unfold cut
  rw [HT.sIx_nat, HT.sIx_nat, Nat.min_eq_left (by omega), Nat.min_eq_left (by omega), Int.toNat_natCast, Int.toNat_natCast]
theorem rng_at {a b x : Int} {i : Nat} (h : (range' a b)[i]? = some x) : x = a + i ∧ i < (b - a).toNat := by
  have hl := (List.getElem?_eq_some_iff.mp h).1
  rw [rng_len] at hl
  unfold range' at h
  rw [List.getElem?_map, List.getElem?_range hl] at h
  exact ⟨(Option.some.inj h).symm, hl⟩
theorem gd_at : ∀ {l : List Int} {i : Nat}, Gd l → i + 1 < l.length → l.getD i 0 ≠ -l.getD (i + 1) 0
  | [], _, _, h => absurd h (Nat.not_lt_zero _)
  | [_], i, _, h => by simp at h
  | x :: y :: t, 0, g, _ => by
    have := g.1
    show x ≠ -y
    omega
  | x :: y :: t, i + 1, g, h => gd_at (l := y :: t) (i := i) g.2 (by simpa using h)

def rep (w : List Int) (m : Nat) : List Int := (List.replicate m w).flatten
theorem rep_len (w : List Int) (m : Nat) : (rep w m).length = m * w.length := flat_len w m
theorem rep_succ (w : List Int) (m : Nat) : rep w (m + 1) = w ++ rep w m := by
  unfold rep
  rw [List.replicate_succ, List.flatten_cons]
theorem rep_zero (w : List Int) : rep w 0 = [] := rfl
theorem rep_one (w : List Int) : rep w 1 = w := by rw [rep_succ, rep_zero, List.append_nil]
theorem rep_succ' (w : List Int) : ∀ m : Nat, rep w (m + 1) = rep w m ++ w
  | 0 => by rw [rep_one, rep_zero, List.nil_append]
  | m + 1 => by rw [rep_succ, rep_succ' w m, ← List.append_assoc, ← rep_succ, rep_succ' w m]
theorem rep_ok {w : List Int} {m : Int} (h0 : 0 ≤ m) (h1 : m ≤ 1000) (h : w.length ≤ 1000) : repT w m = some (rep w m.toNat) := by
  unfold repT
  rw [if_pos ⟨by omega, h1, h⟩]
  rfl
/-! ### gluing -/
theorem gd_glue : ∀ {a b c : List Int}, b ≠ [] → Gd (a ++ b) → Gd (b ++ c) → Gd (a ++ b ++ c)
  | [], _, _, _, _, h => h
  | [x], y :: b, c, _, h1, h2 => ⟨h1.1, h2⟩
  | x :: y :: a, b, c, hb, h1, h2 => ⟨h1.1, gd_glue (a := y :: a) hb h1.2 h2⟩
theorem gd_two {c : List Int} (h : Gd c) (e : ∀ x y, c.head? = some x → c.getLast? = some y → x ≠ -y) : Gd (c ++ c) := by
  cases c with
  | nil => exact trivial
  | cons x t =>
    obtain ⟨y, hy⟩ : ∃ y, (x :: t).getLast? = some y := ⟨(x :: t).getLast (by simp), List.getLast?_eq_some_getLast (by simp)⟩
    obtain ⟨l, z⟩ := List.getLast?_eq_some_iff.mp hy
    have e1 := e x y rfl hy
    have h2 : Gd (l ++ [y]) := by rw [← z]; exact h
    have := gd_join (x := x) (y := y) (t := t) e1 h h2
    rw [show x :: t ++ x :: t = l ++ y :: x :: t by
      rw [show l ++ y :: x :: t = (l ++ [y]) ++ (x :: t) by simp, ← z]]
    exact this
theorem gd_rep {c : List Int} (hc : c ≠ []) (h : Gd (c ++ c)) : ∀ m : Nat, Gd (rep c m)
  | 0 => trivial
  | 1 => by rw [rep_one]; exact gd_pre h
  | m + 2 => by
    rw [rep_succ, rep_succ, ← List.append_assoc]
    refine gd_glue hc h ?_
    rw [← rep_succ]
    exact gd_rep hc h (m + 1)
theorem gd_lead {l c r : List Int} (hc : c ≠ []) (h : Gd (c ++ c)) (h1 : Gd (l ++ c)) (h2 : Gd (c ++ r)) (m : Nat) : Gd (l ++ rep c (m + 1) ++ r) := by
  have e1 : Gd (l ++ rep c (m + 1)) := by
    rw [rep_succ, ← List.append_assoc]
    refine gd_glue hc h1 ?_
    rw [← rep_succ]
    exact gd_rep hc h (m + 1)
  rw [rep_succ', ← List.append_assoc] at e1 ⊢
  exact gd_glue hc e1 h2
/-! ### the parts of a straight walk -/
def qk (w : List Int) : Nat := cp w (iv w)
def leadS (w : List Int) : List Int := w.take (qk w)
def midS (w : List Int) : List Int := (w.drop (qk w)).take (w.length - 2 * qk w)
theorem qk_lt {w : List Int} (g : Gd w) (h0 : ∀ x ∈ w, x ≠ 0) (hne : w ≠ []) : 2 * qk w < w.length := by
  have hp : 0 < w.length := List.length_pos_iff.mpr hne
  refine Nat.lt_of_not_le fun hle => ?_
  have at_ : ∀ i, i < qk w → w.getD i 0 = -w.getD (w.length - 1 - i) 0 := fun i hi => by
    have h1 := (cp_le w (iv w)).1
    unfold qk at hi
    rw [cp_at hi, iv_get (by omega)]
  have mem0 : ∀ i, i < w.length → w.getD i 0 ≠ 0 := fun i hi => by
    rw [List.getD_eq_getElem?_getD, List.getElem?_eq_getElem hi]
    exact h0 _ (List.getElem_mem hi)
  rcases Nat.mod_two_eq_zero_or_one w.length with hm | hm
  · have e := at_ (w.length / 2 - 1) (by omega)
    have e2 := gd_at g (i := w.length / 2 - 1) (by omega)
    rw [show w.length - 1 - (w.length / 2 - 1) = w.length / 2 - 1 + 1 by omega] at e
    exact e2 e
  · have e := at_ (w.length / 2) (by omega)
    rw [show w.length - 1 - w.length / 2 = w.length / 2 by omega] at e
    have := mem0 (w.length / 2) (by omega)
    omega
theorem parts_eq {w : List Int} (h : 2 * qk w < w.length) : w = leadS w ++ midS w ++ iv (leadS w) := by
  have e1 : iv (w.drop (w.length - qk w)) = leadS w := by
    rw [iv_take]
    exact ((cp_take (s := qk w) (by omega) (by rw [iv_len]; omega)).mpr (Nat.le_refl _)).symm
  have e2 : w.drop (w.length - qk w) = iv (leadS w) := by rw [← e1, iv_iv]
  rw [← e2]
  unfold leadS midS
  have e3 : w.drop (w.length - qk w) = (w.drop (qk w)).drop (w.length - 2 * qk w) := by
    rw [List.drop_drop]
    congr 1
    omega
  rw [List.append_assoc, e3, List.take_append_drop, List.take_append_drop]
theorem mid_two {w : List Int} (g : Gd w) (h : 2 * qk w < w.length) : midS w ≠ [] ∧ Gd (midS w ++ midS w) := by
  have hl : (midS w).length = w.length - 2 * qk w := by
    unfold midS
    rw [List.length_take, List.length_drop]
    omega
  have hne : midS w ≠ [] := List.length_pos_iff.mp (by omega)
  refine ⟨hne, ?_⟩
  have e := parts_eq h
  have g1 : Gd (midS w) := by
    rw [e] at g
    exact gd_suf (gd_pre g)
  refine gd_two g1 fun x y hx hy => ?_
  have q1 : (midS w).getD 0 0 = x := by
    rw [List.getD_eq_getElem?_getD, ← List.head?_eq_getElem?, hx]
    rfl
  have q2 : (midS w).getD (w.length - 2 * qk w - 1) 0 = y := by
    rw [List.getLast?_eq_getElem?, hl] at hy
    rw [List.getD_eq_getElem?_getD, hy]
    rfl
  have at_ : ∀ i, i < w.length - 2 * qk w → (midS w).getD i 0 = w.getD (qk w + i) 0 := fun i hi => by
    unfold midS
    rw [List.getD_eq_getElem?_getD, List.getElem?_take, if_pos hi, List.getElem?_drop, List.getD_eq_getElem?_getD]
  rw [at_ 0 (by omega)] at q1
  rw [at_ _ (by omega)] at q2
  have := cp_end (u := w) (v := iv w) (by show qk w < _; omega) (by rw [iv_len]; show qk w < _; omega)
  rw [show cp w (iv w) = qk w from rfl, iv_get (by omega)] at this
  rw [← q1, ← q2]
  rw [show qk w + (w.length - 2 * qk w - 1) = w.length - 1 - qk w by omega]
  exact this
theorem iv_app (u v : List Int) : iv (u ++ v) = iv v ++ iv u := by
  unfold iv
  rw [List.reverse_append, List.map_append]
theorem red_iv (w : List Int) : red (iv w) = iv (red w) := by
  have e1 : red (iv w ++ w ++ iv (red w)) = red (iv w) := by
    rw [List.append_assoc, ← red_appR, ← red_appL w, red_inv]
    rw [List.append_nil]
  have e2 : red (iv w ++ w ++ iv (red w)) = iv (red w) := by
    rw [← red_appL, red_inv', List.nil_append, red_of (gd_iv (red_gd w))]
  rw [← e1, e2]
theorem red_mid (a l b : List Int) : red (a ++ iv l ++ l ++ b) = red (a ++ b) := by
  rw [List.append_assoc a, ← red_appL, ← red_appR a, red_inv', List.append_nil, red_appL]
/-- a walk done again and again -/
theorem red_rep {w l c : List Int} (hw : red w = l ++ c ++ iv l) (hc : c ≠ []) (h : Gd (c ++ c)) : ∀ m : Nat, red (rep w (m + 1)) = l ++ rep c (m + 1) ++ iv l
  | 0 => by rw [rep_one, rep_one, hw]
  | m + 1 => by
    have g : Gd (l ++ c ++ iv l) := hw ▸ red_gd w
    rw [rep_succ, ← red_appL, ← red_appR, red_rep hw hc h m, hw]
    rw [show l ++ c ++ iv l ++ (l ++ rep c (m + 1) ++ iv l) = (l ++ c) ++ iv l ++ l ++ (rep c (m + 1) ++ iv l) by simp only [List.append_assoc], red_mid]
    rw [show l ++ c ++ (rep c (m + 1) ++ iv l) = l ++ (c ++ rep c (m + 1)) ++ iv l by simp only [List.append_assoc], ← rep_succ]
    refine red_of (gd_lead hc h (gd_pre g) ?_ (m + 1))
    rw [List.append_assoc] at g
    exact gd_suf g
/-! ### a period, begun anywhere -/
def pr (P : List Int) (i : Int) : Int := P.getD (i % (P.length : Int)).toNat 0
def dn (P : List Int) (b : Int) (n : Nat) : List Int := (List.range n).map fun (i : Nat) => pr P (b + (i : Int))
theorem dn_len (P : List Int) (b : Int) (n : Nat) : (dn P b n).length = n := by
  unfold dn
  rw [List.length_map, List.length_range]
theorem dn_get {P : List Int} {b : Int} {n i : Nat} (h : i < n) : (dn P b n)[i]? = some (pr P (b + (i : Int))) := by
  unfold dn
  rw [List.getElem?_map, List.getElem?_range h]
  rfl
theorem pr_mod (P : List Int) (i : Int) (k : Int) : pr P (i % (P.length : Int) + k) = pr P (i + k) := by
  unfold pr
  rw [Int.emod_add_emod]
theorem pr_turn (P : List Int) (i : Int) : pr P (i + (P.length : Int)) = pr P i := by
  unfold pr
  rw [Int.add_emod_right]
theorem dn_mod (P : List Int) (b : Int) (n : Nat) : dn P (b % (P.length : Int)) n = dn P b n := by
  unfold dn
  exact List.map_congr_left fun i _ => pr_mod P b i
theorem dn_ext {P Q : List Int} {b d : Int} {n : Nat} (h : ∀ i : Nat, i < n → pr P (b + (i : Int)) = pr Q (d + (i : Int))) : dn P b n = dn Q d n := by
  unfold dn
  exact List.map_congr_left fun i hi => h i (List.mem_range.mp hi)
theorem dn_add (P : List Int) (b : Int) (n m : Nat) : dn P b (n + m) = dn P b n ++ dn P (b + (n : Int)) m := by
  unfold dn
  rw [List.range_add, List.map_append, List.map_map]
  refine congrArg _ (List.map_congr_left fun i _ => ?_)
  show pr P (b + ((n + i : Nat) : Int)) = pr P (b + (n : Int) + (i : Int))
  congr 1
  omega
theorem dn_take {P : List Int} {b : Int} {n m : Nat} (h : m ≤ n) : (dn P b n).take m = dn P b m := by
  obtain ⟨k, rfl⟩ := Nat.exists_eq_add_of_le h
  rw [dn_add, List.take_append_of_le_length (by rw [dn_len]; exact Nat.le_refl _), List.take_of_length_le (by rw [dn_len]; exact Nat.le_refl _)]
theorem dn_drop {P : List Int} {b : Int} {n m : Nat} (h : m ≤ n) : (dn P b n).drop m = dn P (b + (m : Int)) (n - m) := by
  obtain ⟨k, rfl⟩ := Nat.exists_eq_add_of_le h
  rw [dn_add, List.drop_append_of_le_length (by rw [dn_len]; exact Nat.le_refl _), List.drop_of_length_le (by rw [dn_len]; exact Nat.le_refl _), Nat.add_sub_cancel_left, List.nil_append]
theorem dn_self (P : List Int) : dn P 0 P.length = P := by
  refine List.ext_getElem? fun i => ?_
  by_cases h : i < P.length
  · rw [dn_get h]
    unfold pr
    rw [Int.zero_add, Int.emod_eq_of_lt (by omega) (by omega), Int.toNat_natCast, List.getD_eq_getElem?_getD, List.getElem?_eq_getElem h]
    rfl
  · rw [List.getElem?_eq_none (by rw [dn_len]; omega), List.getElem?_eq_none (by omega)]
theorem dn_turn (P : List Int) (b : Int) (n : Nat) : dn P (b + (P.length : Int)) n = dn P b n := dn_ext fun i _ => by
  rw [show b + (P.length : Int) + (i : Int) = b + (i : Int) + (P.length : Int) by omega, pr_turn]
theorem dn_rep (P : List Int) : ∀ m : Nat, dn P 0 (m * P.length) = rep P m
  | 0 => by rw [Nat.zero_mul]; rfl
  | m + 1 => by
    rw [Nat.add_mul, Nat.one_mul, Nat.add_comm, dn_add, dn_self, dn_turn, dn_rep P m, rep_succ]
theorem pr_iv {P : List Int} (hp : P ≠ []) (i : Int) : pr (iv P) i = -pr P (-1 - i) := by
  have hl : 0 < P.length := List.length_pos_iff.mpr hp
  unfold pr
  rw [iv_len]
  have h0 := Int.emod_nonneg i (show (P.length : Int) ≠ 0 by omega)
  have h1 := Int.emod_lt_of_pos i (show (0 : Int) < P.length by omega)
  rw [iv_get (by omega)]
  have e : (-1 - i) % (P.length : Int) = (P.length : Int) - 1 - i % (P.length : Int) := by
    have e1 : -1 - i = ((P.length : Int) - 1 - i % (P.length : Int)) + (P.length : Int) * (-1 - i / (P.length : Int)) := by
      have := Int.emod_add_mul_ediv i (P.length : Int)
      have e2 : (P.length : Int) * (-1 - i / (P.length : Int)) = -(P.length : Int) - (P.length : Int) * (i / (P.length : Int)) := by
        rw [Int.mul_sub, Int.mul_neg, Int.mul_one]
      omega
    rw [e1, Int.add_mul_emod_self_left, Int.emod_eq_of_lt (by omega) (by omega)]
  rw [e]
  congr 2
  omega
theorem dn_iv {P : List Int} (hp : P ≠ []) (b : Int) (n : Nat) : dn (iv P) (-b - (n : Int)) n = iv (dn P b n) := by
  refine List.ext_getElem? fun i => ?_
  by_cases h : i < n
  · rw [dn_get h, pr_iv hp]
    unfold iv
    rw [List.getElem?_map, List.getElem?_reverse (by rw [dn_len]; exact h), dn_len, dn_get (by omega)]
    refine congrArg (fun z => some (-pr P z)) ?_
    omega
  · rw [List.getElem?_eq_none (by rw [dn_len]; omega), List.getElem?_eq_none (by rw [iv_len, dn_len]; omega)]
/-- two that come again and are alike as far as both periods together are alike -/
theorem pr_alike {P Q : List Int} {b d : Int} (h : ∀ i : Nat, i < P.length + Q.length → pr P (b + (i : Int)) = pr Q (d + (i : Int))) : ∀ i : Nat, pr P (b + (i : Int)) = pr Q (d + (i : Int)) := by
  intro i
  induction i using Nat.strongRecOn with
  | ind i ih =>
    by_cases hi : i < P.length + Q.length
    · exact h i hi
    · have hs : ∀ (R : List Int) (a : Int) (j : Nat), R.length ≤ j → pr R (a + (j : Int)) = pr R (a + ((j - R.length : Nat) : Int)) := fun R a j hj => by
        rw [← pr_turn R (a + ((j - R.length : Nat) : Int))]
        congr 1
        omega
      by_cases hp : P.length = 0
      · have : P = [] := List.length_eq_zero_iff.mp hp
        subst this
        by_cases hq : Q.length = 0
        · have : Q = [] := List.length_eq_zero_iff.mp hq
          subst this
          rfl
        · have e1 : ∀ j : Int, pr [] j = 0 := fun j => rfl
          rw [hs Q d i (by simp at hi; omega), ← ih (i - Q.length) (by simp at hi; omega), e1, e1]
      · by_cases hq : Q.length = 0
        · have : Q = [] := List.length_eq_zero_iff.mp hq
          subst this
          have e1 : ∀ j : Int, pr [] j = 0 := fun j => rfl
          rw [hs P b i (by simp at hi; omega), ih (i - P.length) (by simp at hi; omega), e1, e1]
        · rw [hs P b i (by omega), ih (i - P.length) (by omega), hs Q d (i - P.length) (by omega), hs Q d i (by omega), ← ih (i - Q.length) (by omega), hs P b (i - Q.length) (by omega), ih (i - Q.length - P.length) (by omega)]
          congr 2
          omega
/-! ### what two walks have in common -/
theorem cp_eq : ∀ {u v : List Int} {k : Nat}, (∀ i, i < k → u[i]? = v[i]? ∧ i < u.length) → (k = min u.length v.length ∨ ∃ x y, u[k]? = some x ∧ v[k]? = some y ∧ x ≠ y) → cp u v = k
  | [], v, 0, _, _ => rfl
  | [], _, k + 1, h, _ => absurd (h 0 (Nat.succ_pos k)).2 (Nat.not_lt_zero _)
  | x :: u, [], 0, _, _ => rfl
  | x :: u, [], k + 1, h, _ => by
    have := (h 0 (Nat.succ_pos k)).1
    simp at this
  | x :: u, y :: v, 0, _, h => by
    rcases h with h | ⟨a, b, ha, hb, hab⟩
    · simp at h
    · simp only [List.getElem?_cons_zero, Option.some.injEq] at ha hb
      subst ha
      subst hb
      exact if_neg hab
  | x :: u, y :: v, k + 1, h, h2 => by
    have h0 := (h 0 (Nat.succ_pos k)).1
    simp only [List.getElem?_cons_zero, Option.some.injEq] at h0
    have e : cp (x :: u) (y :: v) = cp u v + 1 := if_pos h0
    rw [e, cp_eq (u := u) (v := v) (k := k) (fun i hi => by
      have := h (i + 1) (by omega)
      simpa using this) (by
      rcases h2 with h2 | ⟨a, b, ha, hb, hab⟩
      · left
        simp only [List.length_cons] at h2
        omega
      · exact .inr ⟨a, b, by simpa using ha, by simpa using hb, hab⟩)]
theorem cp_app : ∀ (x u v : List Int), cp (x ++ u) (x ++ v) = x.length + cp u v
  | [], u, v => by simp
  | a :: x, u, v => by
    have e : cp (a :: (x ++ u)) (a :: (x ++ v)) = cp (x ++ u) (x ++ v) + 1 := if_pos rfl
    show cp (a :: (x ++ u)) (a :: (x ++ v)) = _
    rw [e, cp_app x u v, List.length_cons]
    omega
/-- the first places alone -/
theorem cp_lead : ∀ {u v a b : List Int}, cp u v < min u.length v.length → cp (u ++ a) (v ++ b) = cp u v ∧ u ++ a ≠ v ++ b
  | [], _, _, _, h => absurd h (by simp)
  | _ :: _, [], _, _, h => absurd h (by simp)
  | x :: u, y :: v, a, b, h => by
    by_cases hx : x = y
    · have e : cp (x :: u) (y :: v) = cp u v + 1 := if_pos hx
      have e2 : cp (x :: (u ++ a)) (y :: (v ++ b)) = cp (u ++ a) (v ++ b) + 1 := if_pos hx
      rw [e] at h ⊢
      simp only [List.length_cons] at h
      obtain ⟨i1, i2⟩ := cp_lead (u := u) (v := v) (a := a) (b := b) (by omega)
      refine ⟨by show cp (x :: (u ++ a)) (y :: (v ++ b)) = _; rw [e2, i1], fun z => i2 ?_⟩
      exact (List.cons.inj z).2
    · have e : cp (x :: u) (y :: v) = 0 := if_neg hx
      have e2 : cp (x :: (u ++ a)) (y :: (v ++ b)) = 0 := if_neg hx
      exact ⟨by rw [e]; exact e2, fun z => hx (List.cons.inj z).1⟩
theorem cp_all {u v : List Int} (h : cp u v = min u.length v.length) : u.take (min u.length v.length) = v.take (min u.length v.length) :=
  (cp_take (by omega) (by omega)).mpr (by omega)
theorem kk_cp : ∀ (u v : List Int), kk u v = cp (u.map fun x => -x) v
  | [], v => by cases v <;> rfl
  | _ :: _, [] => rfl
  | x :: u, y :: v => by
    show (if x = -y then kk u v + 1 else 0) = if -x = y then cp (u.map fun x => -x) v + 1 else 0
    rw [kk_cp u v]
    by_cases h : x = -y
    · rw [if_pos h, if_pos (by omega)]
    · rw [if_neg h, if_neg (by omega)]
theorem kk_iv (u v : List Int) : kk u.reverse v = cp (iv u) v := kk_cp u.reverse v
end Z
/-! Y, part F: what the functions of stretches compute. -/
namespace Z
open PySem PySem.Spec L2
abbrev Str3 := Tri (List Int) Int Int
def S_straightened (walk : (List Int)) : Option (List Int) :=
  ((lp (fun (s1 : (List Int)) (step2 : Int) => ((if (decide (0 < (s1.length : Int))) = true then ((idx s1 (-1)).bind fun t6 => some (decide (t6 = (-step2)))) else some false).bind fun t7 => ((if t7 = true then ((popO s1).bind fun t8 => some t8.2) else ((appO s1 step2).bind fun t9 => some t9) : Option (List Int)).bind fun s10 => some s10))) walk ([] : (List Int))).bind fun f3 => some f3)
def S_turned_back (walk : (List Int)) : Option (List Int) :=
  ((lcT (fun (step1 : Int) => (-step1)) walk.reverse).bind fun t3 => some t3)
def S_step_of (stretch : (Tri (List Int) Int Int)) (place : Int) : Option Int :=
  ((modO (stretch.b + place) (stretch.a.length : Int)).bind fun t1 => (idx stretch.a t1).bind fun t2 => some t2)
def S_first_of (stretch : (Tri (List Int) Int Int)) (many : Int) : Option (Tri (List Int) Int Int) :=
  some (Tri.mk stretch.a stretch.b many)
def S_rest_of (stretch : (Tri (List Int) Int Int)) (many : Int) : Option (Tri (List Int) Int Int) :=
  ((modO (stretch.b + many) (stretch.a.length : Int)).bind fun t1 => some (Tri.mk stretch.a t1 (stretch.c - many)))
def S_back_of (stretch : (Tri (List Int) Int Int)) : Option (Tri (List Int) Int Int) :=
  ((S_turned_back stretch.a).bind fun t1 => (modO ((-stretch.b) - stretch.c) (stretch.a.length : Int)).bind fun t2 => some (Tri.mk t1 t2 stretch.c))
def S_common_beginning (one : (Tri (List Int) Int Int)) (other : (Tri (List Int) Int Int)) : Option Int :=
  ((rngO 0 (minI (minI one.c other.c) ((one.a.length : Int) + (other.a.length : Int)))).bind fun t1 => ((lpR (fun (s2 : Unit) (place3 : Int) => (((S_step_of one place3).bind fun t7 => (S_step_of other place3).bind fun t8 => (if (!decide (t7 = t8)) = true then some (Step.ret place3) else some (Step.go ()))) : Option (Step Int Unit))) t1 ()).bind fun f4o => Sum.elim (fun r10 => some r10) (fun f4 => some (minI one.c other.c)) f4o))
def S_parted (walk : (List Int)) : Option ((List Int) × (List Int)) :=
  ((wh (fun (s1 : Int) => ((idx walk s1).bind fun t3 => (idx walk ((-1) - s1)).bind fun t4 => some (decide (t3 = (-t4))))) (fun (s1 : Int) => (some (Step.go (s1 + 1)) : Option (Step ((List Int) × (List Int)) Int))) 1000 0).bind fun f2o => Sum.elim (fun r7 => none) (fun f2 => some ((cut walk none (some f2)), (cut walk (some f2) (some ((walk.length : Int) - f2))))) f2o)
def S_stretches_of (walk : (List Int)) (times : Int) : Option (List (Tri (List Int) Int Int)) :=
  ((S_straightened walk).bind fun t1 => (if (decide (t1 = ([] : (List Int)))) = true then some ([] : (List (Tri (List Int) Int Int))) else ((S_parted t1).bind fun t2 => ((if (decide (times < 0)) = true then ((S_turned_back t2.2).bind fun t3 => some t3) else some t2.2 : Option (List Int)).bind fun s4 => ((mulW (absI times) (s4.length : Int)).bind fun t5 => ((if (!decide (t2.1 = ([] : (List Int)))) = true then ((idx ([(Tri.mk s4 0 t5)]) 0).bind fun t6 => (S_turned_back t2.1).bind fun t7 => (some ([(Tri.mk t2.1 0 (t2.1.length : Int)), t6, (Tri.mk t7 0 (t2.1.length : Int))])).bind fun found8 => some found8) else some [(Tri.mk s4 0 t5)] : Option (List (Tri (List Int) Int Int))).bind fun s10 => some s10))))))
def S_lay (w_done : (List (Tri (List Int) Int Int))) (stretch : (Tri (List Int) Int Int)) : Option (Unit × (List (Tri (List Int) Int Int))) :=
  ((wh (fun (s1 : ((Tri (List Int) Int Int) × (List (Tri (List Int) Int Int)))) => some ((decide (0 < s1.1.c)) && (decide (0 < (s1.2.length : Int))))) (fun (s1 : ((Tri (List Int) Int Int) × (List (Tri (List Int) Int Int)))) => (((popO s1.2).bind fun t5 => ((S_back_of t5.1).bind fun t6 => (S_common_beginning t6 s1.1).bind fun t7 => ((S_rest_of s1.1 t7).bind fun t8 => (if (decide (t7 < t5.1.c)) = true then ((S_first_of t5.1 (t5.1.c - t7)).bind fun t9 => (appO t5.2 t9).bind fun t10 => some (Step.brk (t8, t10))) else some (Step.go (t8, t5.2)))))) : Option (Step (Unit × (List (Tri (List Int) Int Int))) ((Tri (List Int) Int Int) × (List (Tri (List Int) Int Int)))))) 1000 (stretch, w_done)).bind fun f2o => Sum.elim (fun r13 => none) (fun f2 => ((if (decide (0 < f2.1.c)) = true then ((appO f2.2 f2.1).bind fun t11 => some t11) else some f2.2 : Option (List (Tri (List Int) Int Int))).bind fun s12 => some ((), s12))) f2o)
def S_straight_list (short : (List ((List Int) × Int))) : Option (List (Tri (List Int) Int Int)) :=
  ((lp (fun (s1 : (List (Tri (List Int) Int Int))) (x2 : ((List Int) × Int)) => ((S_stretches_of x2.1 x2.2).bind fun t6 => ((lp (fun (s7 : (List (Tri (List Int) Int Int))) (stretch8 : (Tri (List Int) Int Int)) => ((S_lay s7 stretch8).bind fun t12 => some t12.2)) t6 s1).bind fun f9 => some f9))) short ([] : (List (Tri (List Int) Int Int)))).bind fun f3 => some f3)
def S_steps_in (done : (List (Tri (List Int) Int Int))) : Option Int :=
  ((lcT (fun (stretch1 : (Tri (List Int) Int Int)) => stretch1.c) done).bind fun t3 => some t3.sum)
def S_cut_out (done : (List (Tri (List Int) Int Int))) (begin : Int) (end_ : Int) : Option (List (Tri (List Int) Int Int)) :=
  ((lp (fun (s2 : (Int × (List (Tri (List Int) Int Int)))) (stretch3 : (Tri (List Int) Int Int)) => ((if (decide ((maxI (begin - s2.1) 0) < (minI (end_ - s2.1) stretch3.c))) = true then ((S_rest_of stretch3 (maxI (begin - s2.1) 0)).bind fun t7 => (S_first_of t7 ((minI (end_ - s2.1) stretch3.c) - (maxI (begin - s2.1) 0))).bind fun t8 => (appO s2.2 t8).bind fun t9 => some t9) else some s2.2 : Option (List (Tri (List Int) Int Int))).bind fun s10 => some ((s2.1 + stretch3.c), s10))) done (0, ([] : (List (Tri (List Int) Int Int))))).bind fun f4 => some f4.2)
def S_parting_place (one : (List (Tri (List Int) Int Int))) (other : (List (Tri (List Int) Int Int))) : Option (Option Int) :=
  ((wh (fun (s3 : (Int × (List (Tri (List Int) Int Int)) × (List (Tri (List Int) Int Int)))) => some ((decide (0 < (s3.2.2.length : Int))) && (decide (0 < (s3.2.1.length : Int))))) (fun (s3 : (Int × (List (Tri (List Int) Int Int)) × (List (Tri (List Int) Int Int)))) => (((popO s3.2.2).bind fun t7 => (popO s3.2.1).bind fun t8 => ((S_common_beginning t7.1 t8.1).bind fun t9 => (if (decide (t9 < (minI t7.1.c t8.1.c))) = true then some (Step.ret (some (s3.1 + t9))) else ((if (decide ((minI t7.1.c t8.1.c) < t7.1.c)) = true then ((S_rest_of t7.1 (minI t7.1.c t8.1.c)).bind fun t10 => (appO t7.2 t10).bind fun t11 => some t11) else some t7.2 : Option (List (Tri (List Int) Int Int))).bind fun s12 => ((if (decide ((minI t7.1.c t8.1.c) < t8.1.c)) = true then ((S_rest_of t8.1 (minI t7.1.c t8.1.c)).bind fun t13 => (appO t8.2 t13).bind fun t14 => some t14) else some t8.2 : Option (List (Tri (List Int) Int Int))).bind fun s15 => some (Step.go ((s3.1 + (minI t7.1.c t8.1.c)), s15, s12))))))) : Option (Step (Option Int) (Int × (List (Tri (List Int) Int Int)) × (List (Tri (List Int) Int Int)))))) 1000 (0, other.reverse, one.reverse)).bind fun f4o => Sum.elim (fun r16 => some r16) (fun f4 => some (if (decide (0 < ((f4.2.2.length : Int) + (f4.2.1.length : Int)))) = true then (some f4.1) else none)) f4o)
theorem tback_okS {w : List Int} (h : w.length ≤ 100000) : S_turned_back w = some (iv w) := by
  unfold S_turned_back
  rw [lcT_some _ (by rw [List.length_reverse]; exact Nat.lt_of_le_of_lt h (by decide))]
  rfl
/-- the steps of a stretch, of a list of them -/
def den (s : Str3) : List Int := dn s.a s.b s.c.toNat
def denL (l : List Str3) : List Int := (l.map den).flatten
theorem denL_cons (s : Str3) (l : List Str3) : denL (s :: l) = den s ++ denL l := by simp [denL]
theorem denL_app (l m : List Str3) : denL (l ++ m) = denL l ++ denL m := by simp [denL]
theorem denL_one (s : Str3) : denL [s] = den s := by simp [denL]
theorem den_len (s : Str3) : (den s).length = s.c.toNat := dn_len _ _ _
/-- a stretch as it should be: a period of at most n steps, begun at one of its places -/
structure Stre (n : Nat) (s : Str3) : Prop where
  ne : s.a ≠ []
  le : s.a.length ≤ n
  b0 : 0 ≤ s.b
  b1 : s.b < s.a.length
  c0 : 0 < s.c
theorem Stre.mono {n m : Nat} {s : Str3} (h : Stre n s) (k : n ≤ m) : Stre m s := ⟨h.ne, Nat.le_trans h.le k, h.b0, h.b1, h.c0⟩
theorem Stre.pos {n : Nat} {s : Str3} (h : Stre n s) : 0 < s.a.length := List.length_pos_iff.mpr h.ne
theorem Stre.den_ne {n : Nat} {s : Str3} (h : Stre n s) : den s ≠ [] := List.length_pos_iff.mp (by
  rw [den_len]
  have := h.c0
  omega)
theorem idx_pr {P : List Int} (hp : 0 < P.length) (i : Int) : ((modO i (P.length : Int)).bind fun t1 => (idx P t1).bind fun t2 => some t2) = some (pr P i) := by
  have h0 := Int.emod_nonneg i (show (P.length : Int) ≠ 0 by omega)
  have h1 := Int.emod_lt_of_pos i (show (0 : Int) < P.length by omega)
  refine bindS (if_pos (by omega)) (bindS (idx_getD h0 h1) rfl)
theorem step_of_ok {n : Nat} {s : Str3} (h : s.a ≠ []) (p : Int) : S_step_of s p = some (pr s.a (s.b + p)) := idx_pr (List.length_pos_iff.mpr h) _
theorem den_first {s : Str3} {m : Int} (h1 : m ≤ s.c) : den ⟨s.a, s.b, m⟩ = (den s).take m.toNat := (dn_take (show m.toNat ≤ s.c.toNat by omega)).symm
theorem den_rest {s : Str3} {m : Int} (h0 : 0 ≤ m) (h1 : m ≤ s.c) : den ⟨s.a, (s.b + m) % (s.a.length : Int), s.c - m⟩ = (den s).drop m.toNat := by
  unfold den
  show dn s.a ((s.b + m) % (s.a.length : Int)) (s.c - m).toNat = _
  rw [dn_mod, dn_drop (by omega), show ((m.toNat : Nat) : Int) = m by omega, show (s.c - m).toNat = s.c.toNat - m.toNat by omega]
theorem rest_ok {s : Str3} (h : s.a ≠ []) (m : Int) : S_rest_of s m = some ⟨s.a, (s.b + m) % (s.a.length : Int), s.c - m⟩ := by
  have hp := List.length_pos_iff.mpr h
  exact bindS (if_pos (show (0 : Int) < (s.a.length : Int) by omega)) rfl
theorem Stre.rest {n : Nat} {s : Str3} (h : Stre n s) {m : Int} (h1 : m < s.c) : Stre n ⟨s.a, (s.b + m) % (s.a.length : Int), s.c - m⟩ := by
  have hp := h.pos
  exact ⟨h.ne, h.le, Int.emod_nonneg _ (by omega), Int.emod_lt_of_pos _ (by omega), by show 0 < s.c - m; omega⟩
theorem Stre.first {n : Nat} {s : Str3} (h : Stre n s) {m : Int} (h1 : 0 < m) : Stre n ⟨s.a, s.b, m⟩ := ⟨h.ne, h.le, h.b0, h.b1, h1⟩
theorem iv_ne {w : List Int} (h : w ≠ []) : iv w ≠ [] := List.length_pos_iff.mp (by rw [iv_len]; exact List.length_pos_iff.mpr h)
theorem back_ok {n : Nat} {s : Str3} (h : Stre n s) (hn : n ≤ 100000) : S_back_of s = some ⟨iv s.a, (-s.b - s.c) % (s.a.length : Int), s.c⟩ := by
  have hp := h.pos
  have hl := h.le
  exact bindS (tback_okS (by omega)) (bindS (if_pos (show (0 : Int) < (s.a.length : Int) by omega)) rfl)
theorem den_back {n : Nat} {s : Str3} (h : Stre n s) : den ⟨iv s.a, (-s.b - s.c) % (s.a.length : Int), s.c⟩ = iv (den s) := by
  unfold den
  have hc := h.c0
  show dn (iv s.a) ((-s.b - s.c) % (s.a.length : Int)) s.c.toNat = _
  rw [← iv_len s.a, dn_mod]
  have := dn_iv h.ne s.b s.c.toNat
  rw [show ((s.c.toNat : Nat) : Int) = s.c by omega] at this
  exact this
theorem common_ok {s t : Str3} (hs : s.a ≠ []) (ht : t.a ≠ []) (h1 : s.a.length ≤ 100000) (h2 : t.a.length ≤ 100000) (c1 : 0 ≤ s.c) (c2 : 0 ≤ t.c) : S_common_beginning s t = some (cp (den s) (den t) : Int) := by
  have e0 : minI (minI s.c t.c) ((s.a.length : Int) + (t.a.length : Int)) = min (min s.c t.c) ((s.a.length : Int) + (t.a.length : Int)) := by
    unfold minI
    (repeat' split) <;> omega
  have em : minI s.c t.c = min s.c t.c := by
    unfold minI
    split <;> omega
  unfold S_common_beginning
  rw [e0, em]
  generalize hm : min (min s.c t.c) ((s.a.length : Int) + (t.a.length : Int)) = m
  refine bindS (rngO_ok (by omega)) ?_
  have hlr : (range' 0 m).length = m.toNat := by rw [rng_len, Int.sub_zero]
  have ls := den_len s
  have lt := den_len t
  have dg : ∀ (r : Str3) (i : Nat), i < r.c.toNat → (den r)[i]? = some (pr r.a (r.b + (i : Int))) := fun r i hi => dn_get hi
  rcases lpR_mix (f := fun (s2 : Unit) (place3 : Int) => (((S_step_of s place3).bind fun t7 => (S_step_of t place3).bind fun t8 => (if (!decide (t7 = t8)) = true then some (Step.ret place3) else some (Step.go ()))) : Option (Step Int Unit)))
    (fun r : Int => ∃ k : Nat, r = (k : Int) ∧ k < m.toNat ∧ (∀ j : Nat, j < k → pr s.a (s.b + (j : Int)) = pr t.a (t.b + (j : Int))) ∧ pr s.a (s.b + (k : Int)) ≠ pr t.a (t.b + (k : Int)))
    (xs := range' 0 m) (fun i _ => ∀ j : Nat, j < i → pr s.a (s.b + (j : Int)) = pr t.a (t.b + (j : Int))) (fun i x st hx hP => by
      obtain ⟨rfl, hi⟩ := rng_at hx
      rw [Int.zero_add] at *
      by_cases he : pr s.a (s.b + (i : Int)) = pr t.a (t.b + (i : Int))
      · refine .inl ⟨(), bindS (step_of_ok (n := 0) hs _) (bindS (step_of_ok (n := 0) ht _) (if_neg (by simp [he]))), fun j hj => ?_⟩
        by_cases hji : j = i
        · exact hji ▸ he
        · exact hP j (by omega)
      · exact .inr ⟨_, bindS (step_of_ok (n := 0) hs _) (bindS (step_of_ok (n := 0) ht _) (if_pos (by simp [he]))), i, rfl, by omega, hP, he⟩) (s0 := ()) (fun j hj => absurd hj (Nat.not_lt_zero _)) with ⟨s', e, h⟩ | ⟨r, e, k, rfl, hk, h3, h4⟩
  · refine bindS e ?_
    rw [hlr] at h
    have hall : ∀ j : Nat, j < (min s.c t.c).toNat → pr s.a (s.b + (j : Int)) = pr t.a (t.b + (j : Int)) := fun j hj => by
      by_cases hlt : min s.c t.c ≤ (s.a.length : Int) + (t.a.length : Int)
      · exact h j (by omega)
      · exact pr_alike (fun i hi => h i (by omega)) j
    have : cp (den s) (den t) = (min s.c t.c).toNat := cp_eq (fun i hi => by
      rw [dg s i (by omega), dg t i (by omega), hall i hi, ls]
      exact ⟨rfl, by omega⟩) (.inl (by rw [ls, lt]; omega))
    rw [this]
    show some (min s.c t.c) = _
    refine congrArg some ?_
    omega
  · refine bindS e ?_
    have : cp (den s) (den t) = k := cp_eq (fun i hi => by
      rw [dg s i (by omega), dg t i (by omega), h3 i hi, ls]
      exact ⟨rfl, by omega⟩) (.inr ⟨_, _, dg s k (by omega), dg t k (by omega), h4⟩)
    rw [this]
    rfl
/-! ### the parts of a straight walk -/
theorem idx_back {w : List Int} {i : Nat} (h : i < w.length) : idx w ((-1) - (i : Int)) = some (w.getD (w.length - 1 - i) 0) := by
  unfold idx atI ixN
  rw [if_neg (by omega), if_pos (by omega)]
  show w[((-1 : Int) - (i : Int) + (w.length : Int)).toNat]? = _
  rw [show ((-1 : Int) - (i : Int) + (w.length : Int)).toNat = w.length - 1 - i by omega, List.getElem?_eq_getElem (show w.length - 1 - i < w.length by omega), List.getD_eq_getElem?_getD, List.getElem?_eq_getElem (show w.length - 1 - i < w.length by omega)]
  rfl
theorem parted_wh {w : List Int} (hq : 2 * qk w < w.length) : ∀ (n b : Nat), b ≤ qk w → qk w - b < n → wh (fun (s1 : Int) => ((idx w s1).bind fun t3 => (idx w ((-1) - s1)).bind fun t4 => some (decide (t3 = (-t4))))) (fun (s1 : Int) => (some (Step.go (s1 + 1)) : Option (Step ((List Int) × (List Int)) Int))) n (b : Int) = some (.inr (qk w : Int))
  | 0, _, _, h => absurd h (Nat.not_lt_zero _)
  | n + 1, b, hb, h => by
    have e1 : idx w (b : Int) = some (w.getD b 0) := idx_getD (by omega) (by omega)
    have e2 := idx_back (w := w) (i := b) (by omega)
    have hi : (iv w).getD b 0 = -w.getD (w.length - 1 - b) 0 := iv_get (by omega)
    unfold wh
    refine bindS (a := decide (b < qk w)) (bindS e1 (bindS e2 (congrArg some ?_))) ?_
    · by_cases hlt : b < qk w
      · rw [decide_eq_true hlt, decide_eq_true_eq, ← hi]
        exact cp_at hlt
      · have : b = qk w := by omega
        subst this
        rw [decide_eq_false hlt, decide_eq_false_iff_not, ← hi]
        exact cp_end (u := w) (v := iv w) (by show qk w < _; omega) (by rw [iv_len]; show qk w < _; omega)
    · by_cases hlt : b < qk w
      · rw [if_pos (decide_eq_true hlt)]
        have := parted_wh hq n (b + 1) (by omega) (by omega)
        rw [show ((b + 1 : Nat) : Int) = (b : Int) + 1 by omega] at this
        exact this
      · have : b = qk w := by omega
        subst this
        rw [if_neg (by simp)]
theorem parted_okS {w : List Int} (hq : 2 * qk w < w.length) (hl : w.length ≤ 1000) : S_parted w = some (leadS w, midS w) := by
  unfold S_parted
  have := parted_wh hq 1000 0 (Nat.zero_le _) (by omega)
  refine bindS this (congrArg some (Prod.ext ?_ ?_))
  · show cut w none (some (qk w : Int)) = _
    rw [cut_to _ (by omega), Int.toNat_natCast]
    rfl
  · show cut w (some (qk w : Int)) (some ((w.length : Int) - (qk w : Int))) = _
    rw [cut_mid w (by omega) (by omega) (by omega) (by omega), Int.toNat_natCast]
    unfold midS
    congr 1
    omega
/-! ### what a stretch laid behind others leaves -/
/-- a straight list of stretches -/
structure Lst (n : Nat) (l : List Str3) : Prop where
  ok : ∀ s ∈ l, Stre n s
  gd : Gd (denL l)
theorem Lst.nil {n : Nat} : Lst n [] := ⟨(fun _ z => nomatch z), trivial⟩
theorem Lst.app1 {n : Nat} {l : List Str3} {s : Str3} (h : ∀ s ∈ l, Stre n s) (k : Stre n s) : ∀ t ∈ l ++ [s], Stre n t := fun t ht => by
  rcases List.mem_append.mp ht with ht | ht
  · exact h t ht
  · exact List.mem_singleton.mp ht ▸ k
/-- what the loop of lay has to leave -/
def LayEnd (n m : Nat) (w : List Int) (s : Str3 × List Str3) : Prop := (s.1.a ≠ [] ∧ s.1.a.length ≤ n ∧ 0 ≤ s.1.b ∧ s.1.b < s.1.a.length ∧ 0 ≤ s.1.c) ∧ (∀ t ∈ s.2, Stre n t) ∧ s.2.length ≤ m ∧ denL s.2 ++ den s.1 = w
def layC : (Str3 × List Str3) → Option Bool := fun s1 => some ((decide (0 < s1.1.c)) && (decide (0 < (s1.2.length : Int))))
def layB : (Str3 × List Str3) → Option (Step (Unit × List Str3) (Str3 × List Str3)) := fun s1 => (((popO s1.2).bind fun t5 => ((S_back_of t5.1).bind fun t6 => (S_common_beginning t6 s1.1).bind fun t7 => ((S_rest_of s1.1 t7).bind fun t8 => (if (decide (t7 < t5.1.c)) = true then ((S_first_of t5.1 (t5.1.c - t7)).bind fun t9 => (appO t5.2 t9).bind fun t10 => some (Step.brk (t8, t10))) else some (Step.go (t8, t5.2)))))))
theorem pop_app {α : Type} (l : List α) (x : α) : popO (l ++ [x]) = some (x, l) := by
  unfold popO
  rw [List.getLast?_append]
  simp
theorem lay_wh {n : Nat} (hn : n ≤ 100000) : ∀ (k : Nat) (done : List Str3) (s : Str3), done.length < k → done.length ≤ 100000 → (s.a ≠ [] ∧ s.a.length ≤ n ∧ 0 ≤ s.b ∧ s.b < s.a.length ∧ 0 ≤ s.c) → Lst n done → Gd (den s) →
    ∃ r, wh layC layB k (s, done) = some (.inr r) ∧ LayEnd n done.length (red (denL done ++ den s)) r
  | 0, _, _, h, _, _, _, _ => absurd h (Nat.not_lt_zero _)
  | k + 1, done, s, h, hd, hs, hl, hg => by
    unfold wh
    by_cases hc : 0 < s.c
    · rcases List.eq_nil_or_concat done with rfl | ⟨ini, last, rfl⟩
      · refine ⟨(s, []), bindS (a := false) (by unfold layC; simp) rfl, hs, hl.ok, Nat.le_refl _, ?_⟩
        show denL [] ++ den s = red (denL [] ++ den s)
        exact (red_of hg).symm
      · have hst : Stre n last := hl.ok last (by simp)
        have hini : ∀ t ∈ ini, Stre n t := fun t ht => hl.ok t (by simp [ht])
        have hgd := hl.gd
        rw [List.concat_eq_append, denL_app, denL_one] at hgd ⊢
        have gT : Gd (den last) := gd_suf hgd
        have gD : Gd (denL ini) := gd_pre hgd
        obtain ⟨a1, a2, a3, a4, a5⟩ := hs
        have hll := hst.le
        have eb := back_ok hst hn
        have db := den_back hst
        have ec := common_ok (s := ⟨iv last.a, (-last.b - last.c) % (last.a.length : Int), last.c⟩) (t := s) (iv_ne hst.ne) a1 (by show (iv last.a).length ≤ _; rw [iv_len]; omega) (by omega) (by have := hst.c0; show 0 ≤ last.c; omega) a5
        rw [db, ← kk_iv] at ec
        generalize hq : kk (den last).reverse (den s) = q at ec
        have hk := kk_le (den last).reverse (den s)
        rw [List.length_reverse, den_len, den_len, hq] at hk
        have hj := jn_red gT hg
        unfold jn at hj
        rw [hq, den_len] at hj
        have ht : layC (s, ini ++ [last]) = some true := by
          unfold layC
          simp [hc]
        have hr := rest_ok a1 (q : Int)
        have hp : 0 < s.a.length := List.length_pos_iff.mpr a1
        have dr := den_rest (s := s) (m := (q : Int)) (by omega) (by omega)
        rw [Int.toNat_natCast] at dr
        have s8 : (s.a ≠ [] ∧ s.a.length ≤ n ∧ 0 ≤ (s.b + (q : Int)) % (s.a.length : Int) ∧ (s.b + (q : Int)) % (s.a.length : Int) < s.a.length ∧ 0 ≤ s.c - (q : Int)) := ⟨a1, a2, Int.emod_nonneg _ (by omega), Int.emod_lt_of_pos _ (by omega), by omega⟩
        rw [List.concat_eq_append, List.length_append] at h hd
        have hl1 : [last].length = 1 := rfl
        by_cases hlt : (q : Int) < last.c
        · have hfirst : Stre n ⟨last.a, last.b, last.c - (q : Int)⟩ := hst.first (by omega)
          have hb : layB (s, ini ++ [last]) = some (Step.brk (⟨s.a, (s.b + (q : Int)) % (s.a.length : Int), s.c - (q : Int)⟩, ini ++ [⟨last.a, last.b, last.c - (q : Int)⟩])) := by
            unfold layB
            refine bindS (pop_app ini last) (bindS eb (bindS ec (bindS hr ((if_pos (decide_eq_true hlt)).trans ?_))))
            exact bindS rfl (bindS (app_ok (Nat.lt_of_lt_of_le (show ini.length < 100000 by omega) (by decide))) rfl)
          have hbb : (layB (s, ini ++ [last])).bind (Step.aft (wh layC layB k)) = some (.inr (⟨s.a, (s.b + (q : Int)) % (s.a.length : Int), s.c - (q : Int)⟩, ini ++ [⟨last.a, last.b, last.c - (q : Int)⟩])) := bindS hb rfl
          refine ⟨_, bindS ht ((if_pos rfl).trans hbb), s8, Lst.app1 hini hfirst, by simp, ?_⟩
          show denL (ini ++ [⟨last.a, last.b, last.c - (q : Int)⟩]) ++ den ⟨s.a, (s.b + (q : Int)) % (s.a.length : Int), s.c - (q : Int)⟩ = _
          rw [denL_app, denL_one, den_first (by omega), dr, show (last.c - (q : Int)).toNat = last.c.toNat - q by omega, List.append_assoc (denL ini) (den last), ← red_appR, ← hj]
          have hne : (den last).take (last.c.toNat - q) ≠ [] := List.length_pos_iff.mp (by rw [List.length_take, den_len]; omega)
          have g1 : Gd (denL ini ++ (den last).take (last.c.toNat - q)) := by
            have : den last = (den last).take (last.c.toNat - q) ++ (den last).drop (last.c.toNat - q) := (List.take_append_drop _ _).symm
            rw [this, ← List.append_assoc] at hgd
            exact gd_pre hgd
          have g2 : Gd ((den last).take (last.c.toNat - q) ++ (den s).drop q) := by
            rw [hj]
            exact red_gd _
          rw [← List.append_assoc]
          exact (red_of (gd_glue hne g1 g2)).symm
        · have hb : layB (s, ini ++ [last]) = some (Step.go (⟨s.a, (s.b + (q : Int)) % (s.a.length : Int), s.c - (q : Int)⟩, ini)) := by
            unfold layB
            exact bindS (pop_app ini last) (bindS eb (bindS ec (bindS hr (if_neg (by simpa using hlt)))))
          have g8 : Gd (den ⟨s.a, (s.b + (q : Int)) % (s.a.length : Int), s.c - (q : Int)⟩) := by
            rw [dr]
            exact gd_suf (a := (den s).take q) (by rw [List.take_append_drop]; exact hg)
          obtain ⟨r, e, e1, e2, e3, e4⟩ := lay_wh hn k ini ⟨s.a, (s.b + (q : Int)) % (s.a.length : Int), s.c - (q : Int)⟩ (by omega) (by omega) s8 ⟨hini, gD⟩ g8
          have hbb : (layB (s, ini ++ [last])).bind (Step.aft (wh layC layB k)) = some (.inr r) := bindS hb e
          refine ⟨r, bindS ht ((if_pos rfl).trans hbb), e1, e2, by rw [List.length_append]; omega, ?_⟩
          rw [e4, dr, List.append_assoc (denL ini) (den last), ← red_appR (denL ini) (den last ++ den s), ← hj, show last.c.toNat - q = 0 by omega, List.take_zero, List.nil_append]
    · refine ⟨(s, done), bindS (a := false) (by unfold layC; simp [hc]) rfl, hs, hl.ok, Nat.le_refl _, ?_⟩
      have e : den s = [] := List.length_eq_zero_iff.mp (by rw [den_len]; omega)
      show denL done ++ den s = red (denL done ++ den s)
      rw [e, List.append_nil]
      exact (red_of hl.gd).symm
theorem lay_ok {n : Nat} (hn : n ≤ 100000) {done : List Str3} {s : Str3} (hd : done.length < 1000) (hl : Lst n done) (hs : Stre n s) (hg : Gd (den s)) :
    ∃ r, S_lay done s = some ((), r) ∧ Lst n r ∧ r.length ≤ done.length + 1 ∧ denL r = red (denL done ++ den s) := by
  obtain ⟨⟨f, r⟩, e, ⟨e1, e2, e3, e4, e5⟩, e6, e7, e8⟩ := lay_wh hn 1000 done s hd (by omega) ⟨hs.ne, hs.le, hs.b0, hs.b1, by have := hs.c0; omega⟩ hl hg
  have e7' : r.length ≤ done.length := e7
  unfold S_lay
  by_cases hc : 0 < f.c
  · have hst : Stre n f := ⟨e1, e2, e3, e4, hc⟩
    have e9 : denL (r ++ [f]) = red (denL done ++ den s) := by rw [denL_app, denL_one]; exact e8
    refine ⟨r ++ [f], bindS e (bindS (a := r ++ [f]) ((if_pos (decide_eq_true hc)).trans (bindS (app_ok (Nat.lt_of_le_of_lt (show r.length ≤ 1000 by omega) (by decide))) rfl)) rfl), ⟨Lst.app1 e6 hst, by rw [e9]; exact red_gd _⟩, by rw [List.length_append]; show r.length + 1 ≤ _; omega, e9⟩
  · have h0 : den f = [] := List.length_eq_zero_iff.mp (by rw [den_len]; omega)
    have e9 : denL r = red (denL done ++ den s) := by rw [← e8]; show denL r = denL r ++ den f; rw [h0, List.append_nil]
    exact ⟨r, bindS e (bindS (a := r) (if_neg (by simpa using hc)) rfl), ⟨e6, by rw [e9]; exact red_gd _⟩, by omega, e9⟩
end Z
/-! Y, part G: the straight list of a short writing; its steps, its cuts, where two part. -/
namespace Z
open PySem PySem.Spec L2
theorem mulW_nn {i j : Int} (h0 : 0 ≤ j) (h : j < 2 ^ 64) : mulW i j = some (i * j) := mulW_small (by omega)
theorem den_times {c : List Int} (m : Nat) : den ⟨c, 0, (m : Int) * (c.length : Int)⟩ = rep c m := by
  unfold den
  show dn c 0 ((m : Int) * (c.length : Int)).toNat = _
  rw [show ((m : Int) * (c.length : Int)).toNat = m * c.length by rw [← Int.natCast_mul, Int.toNat_natCast], dn_rep]
theorem den_whole {c : List Int} : den ⟨c, 0, (c.length : Int)⟩ = c := by
  unfold den
  show dn c 0 (c.length : Int).toNat = _
  rw [Int.toNat_natCast, dn_self]
/-- a walk as many times as t tells, turned back if t is below 0 -/
def timesW (w : List Int) (t : Int) : List Int := rep (if 0 < t then w else iv w) t.natAbs
theorem stretches_ok {n : Nat} {w : List Int} {t : Int} (hn : n ≤ 1000) (hw : w.length ≤ n) (h0 : ∀ x ∈ w, x ≠ 0) (ht : t ≠ 0) :
    ∃ l, S_stretches_of w t = some l ∧ (∀ s ∈ l, Stre n s ∧ Gd (den s)) ∧ l.length ≤ 3 ∧ ∀ a, red (a ++ denL l) = red (a ++ timesW w t) := by
  have hr := red_len w
  have hb : sizeLine = 16777216 := by decide
  have e1 : S_straightened w = some (red w) := straight_ok (by omega)
  by_cases hz : red w = []
  · refine ⟨[], bindS e1 (if_pos (by simp [hz])), (fun _ z => nomatch z), Nat.zero_le _, fun a => ?_⟩
    have : ∀ (u : List Int), red u = [] → ∀ m, red (rep u m) = [] := fun u hu m => by
      induction m with
      | zero => rfl
      | succ m ih => rw [rep_succ, ← red_appL, ← red_appR, ih, hu]; rfl
    have e2 : red (timesW w t) = [] := by
      unfold timesW
      split
      · exact this w hz _
      · exact this (iv w) (by rw [red_iv, hz]; rfl) _
    show red (a ++ []) = _
    rw [← red_appR a (timesW w t), e2]
  · have g := red_gd w
    have hq := qk_lt g (red_mem h0) hz
    obtain ⟨m1, m2⟩ := mid_two g hq
    have hp := parts_eq hq
    have e2 := parted_okS hq (by omega)
    have ll : (leadS (red w)).length = qk (red w) := by
      unfold leadS
      rw [List.length_take]
      omega
    have ml : (midS (red w)).length ≤ n := by
      unfold midS
      rw [List.length_take, List.length_drop]
      omega
    generalize leadS (red w) = l at hp e2 ll
    generalize midS (red w) = c at hp e2 m1 m2 ml
    have hpw : red w = l ++ c ++ iv l := hp
    have hpi : red (iv w) = l ++ iv c ++ iv l := by
      rw [red_iv, hpw, iv_app, iv_app, iv_iv, List.append_assoc]
    have m1' : iv c ≠ [] := iv_ne m1
    have m2' : Gd (iv c ++ iv c) := by rw [← iv_app]; exact gd_iv m2
    have ab : absI t = (t.natAbs : Int) := by
      unfold absI
      split <;> omega
    have e3 : (if (decide (t < 0)) = true then ((S_turned_back c).bind fun t3 => some t3) else some c : Option (List Int)) = some (if 0 < t then c else iv c) := by
      by_cases hneg : t < 0
      · rw [if_pos (decide_eq_true hneg), if_neg (by omega)]
        exact bindS (tback_okS (by omega)) rfl
      · rw [if_neg (by simpa using hneg), if_pos (by omega)]
    have hd : (if 0 < t then c else iv c) ≠ [] ∧ Gd ((if 0 < t then c else iv c) ++ (if 0 < t then c else iv c)) ∧ (if 0 < t then c else iv c).length ≤ n ∧ red (if 0 < t then w else iv w) = l ++ (if 0 < t then c else iv c) ++ iv l := by
      split
      · exact ⟨m1, m2, ml, hpw⟩
      · exact ⟨m1', m2', by rw [iv_len]; exact ml, hpi⟩
    generalize (if 0 < t then c else iv c) = d at e3 hd
    obtain ⟨d1, d2, d3, d4⟩ := hd
    have dl : 0 < d.length := List.length_pos_iff.mpr d1
    obtain ⟨m, hm⟩ : ∃ m, t.natAbs = m + 1 := ⟨t.natAbs - 1, by omega⟩
    have e4 : mulW (absI t) (d.length : Int) = some (absI t * (d.length : Int)) := mulW_nn (by omega) (by omega)
    have e5 : red (timesW w t) = l ++ rep d (m + 1) ++ iv l := by
      unfold timesW
      rw [hm]
      exact red_rep d4 d1 d2 m
    have dm : den ⟨d, 0, absI t * (d.length : Int)⟩ = rep d (m + 1) := by rw [ab, hm, den_times]
    have gw : Gd (l ++ rep d (m + 1) ++ iv l) := by rw [← e5]; exact red_gd _
    have gm : Gd (rep d (m + 1)) := gd_rep d1 d2 _
    have sm : Stre n ⟨d, 0, absI t * (d.length : Int)⟩ := ⟨d1, d3, Int.le_refl 0, by show (0 : Int) < d.length; omega, by
      show 0 < absI t * (d.length : Int)
      exact Int.mul_pos (by omega) (by omega)⟩
    by_cases hl : l = []
    · subst hl
      refine ⟨[⟨d, 0, absI t * (d.length : Int)⟩], bindS e1 ((if_neg (by simpa using hz)).trans (bindS e2 (bindS e3 (bindS e4 (bindS (if_neg (by simp)) rfl))))), fun s hs => ?_, by simp, fun a => ?_⟩
      · rw [List.mem_singleton.mp hs]
        exact ⟨sm, by rw [dm]; exact gm⟩
      · rw [denL_one, dm, ← red_appR a (timesW w t), e5]
        have : iv ([] : List Int) = [] := rfl
        rw [this, List.append_nil, List.nil_append]
    · have lp_ : 0 < l.length := List.length_pos_iff.mpr hl
      have sl_ : Stre n ⟨l, 0, (l.length : Int)⟩ := ⟨hl, by show l.length ≤ n; omega, Int.le_refl 0, by show (0 : Int) < l.length; omega, by show (0 : Int) < l.length; omega⟩
      have si_ : Stre n ⟨iv l, 0, (l.length : Int)⟩ := ⟨iv_ne hl, by show (iv l).length ≤ n; rw [iv_len]; omega, Int.le_refl 0, by show (0 : Int) < (iv l).length; rw [iv_len]; omega, by show (0 : Int) < l.length; omega⟩
      have di : den ⟨iv l, 0, (l.length : Int)⟩ = iv l := by
        rw [← iv_len l]
        exact den_whole
      refine ⟨[⟨l, 0, (l.length : Int)⟩, ⟨d, 0, absI t * (d.length : Int)⟩, ⟨iv l, 0, (l.length : Int)⟩], bindS e1 ((if_neg (by simpa using hz)).trans (bindS e2 (bindS e3 (bindS e4 (bindS ((if_pos (by simp [hl])).trans (bindS rfl (bindS (tback_okS (show l.length ≤ 100000 by omega)) (bindS rfl rfl)))) rfl))))), fun s hs => ?_, by simp, fun a => ?_⟩
      · rcases List.mem_cons.mp hs with rfl | hs
        · exact ⟨sl_, by rw [den_whole]; exact gd_pre (gd_pre gw)⟩
        rcases List.mem_cons.mp hs with rfl | hs
        · exact ⟨sm, by rw [dm]; exact gm⟩
        rw [List.mem_singleton.mp hs]
        exact ⟨si_, by rw [di]; exact gd_suf gw⟩
      · rw [denL_cons, denL_cons, denL_one, den_whole, dm, di, ← red_appR a (timesW w t), e5, List.append_assoc l]
/-- all steps of a short writing, written out -/
def outW : List (List Int × Int) → List Int
  | [] => []
  | p :: r => timesW p.1 p.2 ++ outW r
theorem outW_app : ∀ a b : List (List Int × Int), outW (a ++ b) = outW a ++ outW b
  | [], _ => rfl
  | p :: a, b => by
    show timesW p.1 p.2 ++ outW (a ++ b) = timesW p.1 p.2 ++ outW a ++ outW b
    rw [outW_app a b, List.append_assoc]
/-- a short writing whose walks are no longer than n -/
structure ShO (n : Nat) (sh : List (List Int × Int)) : Prop where
  len : ∀ p ∈ sh, p.1.length ≤ n
  nz : ∀ p ∈ sh, ∀ x ∈ p.1, x ≠ 0
  tz : ∀ p ∈ sh, p.2 ≠ 0
theorem lays_lp {n : Nat} (hn : n ≤ 1000) : ∀ (l : List Str3) (done : List Str3), (∀ s ∈ l, Stre n s ∧ Gd (den s)) → Lst n done → done.length + l.length ≤ 900 →
    ∃ r, lp (fun (s7 : List Str3) (stretch8 : Str3) => ((S_lay s7 stretch8).bind fun t12 => some t12.2)) l done = some r ∧ Lst n r ∧ r.length ≤ done.length + l.length ∧ denL r = red (denL done ++ denL l)
  | [], done, _, hd, _ => ⟨done, rfl, hd, Nat.le_refl _, by show denL done = red (denL done ++ []); rw [List.append_nil, red_of hd.gd]⟩
  | s :: l, done, h, hd, hk => by
    rw [List.length_cons] at hk
    obtain ⟨h1, h2⟩ := h s List.mem_cons_self
    obtain ⟨r1, e1, k1, q1, f1⟩ := lay_ok (by omega) (by omega) hd h1 h2
    obtain ⟨r2, e2, k2, q2, f2⟩ := lays_lp hn l r1 (fun t ht => h t (List.mem_cons_of_mem _ ht)) k1 (by omega)
    refine ⟨r2, bindS (bindS e1 rfl) e2, k2, by rw [List.length_cons]; omega, ?_⟩
    rw [f2, f1, red_appL, denL_cons, List.append_assoc]
theorem straight_lp2 {n : Nat} (hn : n ≤ 1000) : ∀ (sh : List (List Int × Int)) (done : List Str3), ShO n sh → Lst n done → done.length + 3 * sh.length ≤ 900 →
    ∃ r, lp (fun (s1 : List Str3) (x2 : ((List Int) × Int)) => ((S_stretches_of x2.1 x2.2).bind fun t6 => ((lp (fun (s7 : List Str3) (stretch8 : Str3) => ((S_lay s7 stretch8).bind fun t12 => some t12.2)) t6 s1).bind fun f9 => some f9))) sh done = some r ∧ Lst n r ∧ r.length ≤ done.length + 3 * sh.length ∧ denL r = red (denL done ++ outW sh)
  | [], done, _, hd, _ => ⟨done, rfl, hd, by simp, by show denL done = red (denL done ++ []); rw [List.append_nil, red_of hd.gd]⟩
  | p :: sh, done, h, hd, hk => by
    rw [List.length_cons] at hk
    obtain ⟨l, e1, k1, q1, f1⟩ := stretches_ok hn (h.len p List.mem_cons_self) (h.nz p List.mem_cons_self) (h.tz p List.mem_cons_self)
    obtain ⟨r1, e2, k2, q2, f2⟩ := lays_lp hn l done k1 hd (by omega)
    obtain ⟨r2, e3, k3, q3, f3⟩ := straight_lp2 hn sh r1 ⟨fun x hx => h.len x (List.mem_cons_of_mem _ hx), fun x hx => h.nz x (List.mem_cons_of_mem _ hx), fun x hx => h.tz x (List.mem_cons_of_mem _ hx)⟩ k2 (by omega)
    refine ⟨r2, bindS (bindS e1 (bindS e2 rfl)) e3, k3, by rw [List.length_cons]; omega, ?_⟩
    show denL r2 = red (denL done ++ (timesW p.1 p.2 ++ outW sh))
    rw [f3, f2, red_appL, ← List.append_assoc, ← red_appL, f1, red_appL]
theorem straight_list_ok {n : Nat} (hn : n ≤ 1000) {sh : List (List Int × Int)} (h : ShO n sh) (hl : sh.length ≤ 300) :
    ∃ r, S_straight_list sh = some r ∧ Lst n r ∧ r.length ≤ 3 * sh.length ∧ denL r = red (outW sh) := by
  obtain ⟨r, e, k, q, f⟩ := straight_lp2 hn sh [] h Lst.nil (by show 0 + _ ≤ _; omega)
  exact ⟨r, bindS e rfl, k, by simpa using q, f⟩
/-! ### steps -/
theorem steps_in_ok {n : Nat} {l : List Str3} (h : ∀ s ∈ l, Stre n s) (hl : l.length < 100000) : S_steps_in l = some ((denL l).length : Int) := by
  unfold S_steps_in
  rw [lcT_some _ (Nat.lt_of_lt_of_le hl (by decide))]
  refine congrArg some ?_
  induction l with
  | nil => rfl
  | cons s l ih =>
    have hc := (h s List.mem_cons_self).c0
    rw [List.length_cons] at hl
    rw [denL_cons, List.length_append, den_len, List.map_cons, List.sum_cons, ih (fun t ht => h t (List.mem_cons_of_mem _ ht)) (by omega)]
    omega
theorem cut_lp {n : Nat} {b e : Int} (hb : 0 ≤ b) (he : b ≤ e) : ∀ (l f : List Str3) (D : List Int), (∀ s ∈ l, Stre n s) → (∀ s ∈ f, Stre n s) → f.length + l.length ≤ 100000 → denL f = (D.take e.toNat).drop b.toNat →
    ∃ r, lp (fun (s2 : (Int × List Str3)) (stretch3 : Str3) => ((if (decide ((maxI (b - s2.1) 0) < (minI (e - s2.1) stretch3.c))) = true then ((S_rest_of stretch3 (maxI (b - s2.1) 0)).bind fun t7 => (S_first_of t7 ((minI (e - s2.1) stretch3.c) - (maxI (b - s2.1) 0))).bind fun t8 => (appO s2.2 t8).bind fun t9 => some t9) else some s2.2 : Option (List Str3)).bind fun s10 => some ((s2.1 + stretch3.c), s10))) l ((D.length : Int), f) = some r ∧ (∀ s ∈ r.2, Stre n s) ∧ r.2.length ≤ f.length + l.length ∧ denL r.2 = ((D ++ denL l).take e.toNat).drop b.toNat
  | [], f, D, _, hf, _, h => ⟨_, rfl, hf, Nat.le_refl _, by show denL f = ((D ++ []).take _).drop _; rw [List.append_nil]; exact h⟩
  | s :: l, f, D, hs, hf, hl, h => by
    rw [List.length_cons] at hl
    have h1 := hs s List.mem_cons_self
    have hc := h1.c0
    have hp := h1.pos
    have mx : maxI (b - (D.length : Int)) 0 = max (b - (D.length : Int)) 0 := by unfold maxI; split <;> omega
    have mn : minI (e - (D.length : Int)) s.c = min (e - (D.length : Int)) s.c := by unfold minI; split <;> omega
    have split_ : ((D ++ den s).take e.toNat).drop b.toNat = (D.take e.toNat).drop b.toNat ++ ((den s).take (e.toNat - D.length)).drop (b.toNat - D.length) := by
      rw [List.take_append, List.drop_append, List.length_take]
      by_cases hle : e.toNat ≤ D.length
      · rw [show e.toNat - D.length = 0 by omega, List.take_zero, List.drop_nil, List.drop_nil]
      · rw [Nat.min_eq_right (by omega)]
    obtain ⟨g, e1, g1, g2, g3⟩ : ∃ g, (if (decide ((maxI (b - (D.length : Int)) 0) < (minI (e - (D.length : Int)) s.c))) = true then ((S_rest_of s (maxI (b - (D.length : Int)) 0)).bind fun t7 => (S_first_of t7 ((minI (e - (D.length : Int)) s.c) - (maxI (b - (D.length : Int)) 0))).bind fun t8 => (appO f t8).bind fun t9 => some t9) else some f : Option (List Str3)) = some g ∧ (∀ t ∈ g, Stre n t) ∧ g.length ≤ f.length + 1 ∧ denL g = ((D ++ den s).take e.toNat).drop b.toNat := by
      rw [mx, mn]
      generalize hlo : max (b - (D.length : Int)) 0 = lo
      generalize hhi : min (e - (D.length : Int)) s.c = hi
      by_cases hlt : lo < hi
      · have k1 := h1.rest (m := lo) (by omega)
        have k2 := k1.first (m := hi - lo) (by omega)
        refine ⟨f ++ [⟨s.a, (s.b + lo) % (s.a.length : Int), hi - lo⟩], (if_pos (decide_eq_true hlt)).trans (bindS (rest_ok h1.ne lo) (bindS rfl (bindS (app_ok (Nat.lt_of_lt_of_le (show f.length < 100001 by omega) (by decide))) rfl))), Lst.app1 hf k2, by rw [List.length_append]; exact Nat.le_refl _, ?_⟩
        have d1 := den_first (s := ⟨s.a, (s.b + lo) % (s.a.length : Int), s.c - lo⟩) (m := hi - lo) (by show hi - lo ≤ s.c - lo; omega)
        rw [den_rest (by omega) (by omega)] at d1
        rw [denL_app, denL_one, h, split_]
        refine congrArg _ (d1.trans ?_)
        rw [List.drop_take, show b.toNat - D.length = lo.toNat by omega]
        by_cases h2 : e - (D.length : Int) ≤ s.c
        · rw [show (hi - lo).toNat = e.toNat - D.length - lo.toNat by omega]
        · rw [List.take_of_length_le (by rw [List.length_drop, den_len]; omega), List.take_of_length_le (by rw [List.length_drop, den_len]; omega)]
      · refine ⟨f, if_neg (by simpa using hlt), hf, Nat.le_succ _, ?_⟩
        have : ((den s).take (e.toNat - D.length)).drop (b.toNat - D.length) = [] := List.drop_eq_nil_of_le (by rw [List.length_take, den_len]; omega)
        rw [h, split_, this, List.append_nil]
    obtain ⟨r, e2, r1, r2, r3⟩ := cut_lp hb he l g (D ++ den s) (fun t ht => hs t (List.mem_cons_of_mem _ ht)) g1 (by omega) g3
    refine ⟨r, bindS (bindS e1 rfl) ?_, r1, by rw [List.length_cons]; omega, by rw [r3, denL_cons, List.append_assoc]⟩
    rw [List.length_append, den_len, show ((D.length + s.c.toNat : Nat) : Int) = (D.length : Int) + s.c by omega] at e2
    exact e2
theorem cut_out_ok {n : Nat} {l : List Str3} {b e : Int} (h : ∀ s ∈ l, Stre n s) (hl : l.length ≤ 100000) (hb : 0 ≤ b) (he : b ≤ e) :
    ∃ r, S_cut_out l b e = some r ∧ (∀ s ∈ r, Stre n s) ∧ r.length ≤ l.length ∧ denL r = ((denL l).take e.toNat).drop b.toNat := by
  obtain ⟨r, e1, r1, r2, r3⟩ := cut_lp hb he l [] [] h (fun _ z => nomatch z) (by simpa using hl) (by simp [denL])
  exact ⟨r.2, bindS e1 rfl, r1, by simpa using r2, by rw [r3, List.nil_append]⟩
/-! ### where two walks part -/
def unl (u v : List Int) : Option Int := if u = v then none else some (cp u v : Int)
def parC : (Int × List Str3 × List Str3) → Option Bool := fun s3 => some ((decide (0 < (s3.2.2.length : Int))) && (decide (0 < (s3.2.1.length : Int))))
def parB : (Int × List Str3 × List Str3) → Option (Step (Option Int) (Int × List Str3 × List Str3)) := fun s3 => (((popO s3.2.2).bind fun t7 => (popO s3.2.1).bind fun t8 => ((S_common_beginning t7.1 t8.1).bind fun t9 => (if (decide (t9 < (minI t7.1.c t8.1.c))) = true then some (Step.ret (some (s3.1 + t9))) else ((if (decide ((minI t7.1.c t8.1.c) < t7.1.c)) = true then ((S_rest_of t7.1 (minI t7.1.c t8.1.c)).bind fun t10 => (appO t7.2 t10).bind fun t11 => some t11) else some t7.2 : Option (List Str3)).bind fun s12 => ((if (decide ((minI t7.1.c t8.1.c) < t8.1.c)) = true then ((S_rest_of t8.1 (minI t7.1.c t8.1.c)).bind fun t13 => (appO t8.2 t13).bind fun t14 => some t14) else some t8.2 : Option (List Str3)).bind fun s15 => some (Step.go ((s3.1 + (minI t7.1.c t8.1.c)), s15, s12))))))))
def parE (o : Sum (Option Int) (Int × List Str3 × List Str3)) : Option (Option Int) := Sum.elim (fun r16 => some r16) (fun f4 => some (if (decide (0 < ((f4.2.2.length : Int) + (f4.2.1.length : Int)))) = true then (some f4.1) else none)) o
theorem rest_list {n : Nat} {l : List Str3} {s : Str3} {m : Int} (hl : ∀ t ∈ l ++ [s], Stre n t) (h0 : 0 ≤ m) (h1 : m ≤ s.c) (hk : l.length ≤ 100000) :
    ∃ l', (if (decide (m < s.c)) = true then ((S_rest_of s m).bind fun t10 => (appO l t10).bind fun t11 => some t11) else some l : Option (List Str3)) = some l' ∧ (∀ t ∈ l', Stre n t) ∧ denL l'.reverse = (den s).drop m.toNat ++ denL l.reverse ∧ l'.length ≤ l.length + (if m < s.c then 1 else 0) := by
  have hs : Stre n s := hl s (by simp)
  have hll : ∀ t ∈ l, Stre n t := fun t ht => hl t (by simp [ht])
  by_cases h : m < s.c
  · refine ⟨l ++ [⟨s.a, (s.b + m) % (s.a.length : Int), s.c - m⟩], (if_pos (decide_eq_true h)).trans (bindS (rest_ok hs.ne m) (bindS (app_ok (Nat.lt_of_le_of_lt hk (by decide))) rfl)), Lst.app1 hll (hs.rest h), ?_, by rw [List.length_append, if_pos h]; exact Nat.le_refl _⟩
    rw [List.reverse_append]
    show denL (_ :: l.reverse) = _
    rw [denL_cons, den_rest h0 h1]
  · refine ⟨l, if_neg (by simpa using h), hll, ?_, by rw [if_neg h]; exact Nat.le_refl _⟩
    rw [List.drop_of_length_le (by rw [den_len]; omega), List.nil_append]
theorem par_wh {n : Nat} (hn : n ≤ 100000) : ∀ (k : Nat) (a : Int) (s f : List Str3), f.length + s.length < k → k ≤ 100000 → (∀ t ∈ f, Stre n t) → (∀ t ∈ s, Stre n t) →
    ∃ o, wh parC parB k (a, s, f) = some o ∧ parE o = some ((unl (denL f.reverse) (denL s.reverse)).map fun x => a + x)
  | 0, _, _, _, h, _, _, _ => absurd h (Nat.not_lt_zero _)
  | k + 1, a, s, f, h, hk, hf, hs => by
    unfold wh
    rcases List.eq_nil_or_concat f with rfl | ⟨fi, u, rfl⟩
    · refine ⟨.inr (a, s, []), bindS (a := false) (by unfold parC; simp) rfl, ?_⟩
      unfold parE unl
      show some _ = some _
      refine congrArg some ?_
      rcases List.eq_nil_or_concat s with rfl | ⟨si, v, rfl⟩
      · rfl
      · rw [if_pos (by simp), if_neg]
        · show some a = some (a + ((cp (denL []) _ : Nat) : Int))
          rw [show cp (denL []) (denL (si.concat v).reverse) = 0 from rfl]
          simp
        · rw [List.concat_eq_append, List.reverse_append]
          show ¬ denL [] = denL (v :: si.reverse)
          rw [denL_cons]
          have := (hs v (by simp)).den_ne
          intro z
          have z2 : [] = den v ++ denL si.reverse := z
          exact this (List.append_eq_nil_iff.mp z2.symm).1
    · rcases List.eq_nil_or_concat s with rfl | ⟨si, v, rfl⟩
      · refine ⟨.inr (a, [], fi.concat u), bindS (a := false) (by unfold parC; simp) rfl, ?_⟩
        unfold parE unl
        show some _ = some _
        refine congrArg some ?_
        rw [if_pos (by simp), if_neg]
        · show some a = some (a + ((cp _ (denL []) : Nat) : Int))
          have : ∀ z : List Int, cp z [] = 0 := fun z => by cases z <;> rfl
          rw [show denL [] = [] from rfl, this]
          simp
        · rw [List.concat_eq_append, List.reverse_append]
          show ¬ denL (u :: fi.reverse) = denL []
          rw [denL_cons]
          have := (hf u (by simp)).den_ne
          intro z
          have z2 : den u ++ denL fi.reverse = [] := z
          exact this (List.append_eq_nil_iff.mp z2).1
      · rw [List.concat_eq_append] at *
        rw [List.concat_eq_append] at *
        have hu : Stre n u := hf u (by simp)
        have hv : Stre n v := hs v (by simp)
        have ht : parC (a, si ++ [v], fi ++ [u]) = some true := by
          unfold parC
          simp
        have uc := hu.c0
        have vc := hv.c0
        have ul := hu.le
        have vl := hv.le
        have ec := common_ok hu.ne hv.ne (by omega) (by omega) (by omega) (by omega)
        have mn : minI u.c v.c = min u.c v.c := by unfold minI; split <;> omega
        rw [List.reverse_append, List.reverse_append]
        show ∃ o, _ ∧ parE o = some ((unl (denL (u :: fi.reverse)) (denL (v :: si.reverse))).map fun x => a + x)
        rw [denL_cons, denL_cons]
        rw [List.length_append, List.length_append] at h
        have l1 : [u].length = 1 := rfl
        have l2 : [v].length = 1 := rfl
        have du := den_len u
        have dv := den_len v
        by_cases hlt : (cp (den u) (den v) : Int) < min u.c v.c
        · have hb : parB (a, si ++ [v], fi ++ [u]) = some (Step.ret (some (a + (cp (den u) (den v) : Int)))) := by
            unfold parB
            refine bindS (pop_app fi u) (bindS (pop_app si v) (bindS ec ?_))
            rw [mn]
            exact if_pos (decide_eq_true hlt)
          have hbb : (parB (a, si ++ [v], fi ++ [u])).bind (Step.aft (wh parC parB k)) = some (.inl (some (a + (cp (den u) (den v) : Int)))) := bindS hb rfl
          refine ⟨_, bindS ht ((if_pos rfl).trans hbb), ?_⟩
          obtain ⟨q1, q2⟩ := cp_lead (u := den u) (v := den v) (a := denL fi.reverse) (b := denL si.reverse) (by rw [du, dv]; omega)
          unfold unl parE
          rw [if_neg q2, q1]
          rfl
        · have hcp := cp_le (den u) (den v)
          have hq : cp (den u) (den v) = min (den u).length (den v).length := by rw [du, dv] at *; omega
          have htk := cp_all hq
          rw [du, dv] at htk
          obtain ⟨f', e1, f1, f2, f3⟩ := rest_list (m := min u.c v.c) hf (by omega) (by omega) (by omega)
          obtain ⟨s', e2, s1, s2, s3⟩ := rest_list (m := min u.c v.c) hs (by omega) (by omega) (by omega)
          have hb : parB (a, si ++ [v], fi ++ [u]) = some (Step.go (a + min u.c v.c, s', f')) := by
            unfold parB
            refine bindS (pop_app fi u) (bindS (pop_app si v) (bindS ec ?_))
            rw [mn]
            exact (if_neg (by simpa using hlt)).trans (bindS e1 (bindS e2 rfl))
          have hle : f'.length + s'.length < k := by
            by_cases huv : u.c ≤ v.c
            · rw [if_neg (by omega)] at f3
              split at s3 <;> omega
            · rw [if_neg (by omega)] at s3
              split at f3 <;> omega
          obtain ⟨o, e3, e4⟩ := par_wh hn k (a + min u.c v.c) s' f' hle (by omega) f1 s1
          have hbb : (parB (a, si ++ [v], fi ++ [u])).bind (Step.aft (wh parC parB k)) = some o := bindS hb e3
          refine ⟨o, bindS ht ((if_pos rfl).trans hbb), ?_⟩
          rw [e4, f2, s2]
          have x1 : den u ++ denL fi.reverse = (den u).take (min u.c v.c).toNat ++ ((den u).drop (min u.c v.c).toNat ++ denL fi.reverse) := by rw [← List.append_assoc, List.take_append_drop]
          have x2 : den v ++ denL si.reverse = (den v).take (min u.c v.c).toNat ++ ((den v).drop (min u.c v.c).toNat ++ denL si.reverse) := by rw [← List.append_assoc, List.take_append_drop]
          rw [x1, x2]
          have htk2 : (den u).take (min u.c v.c).toNat = (den v).take (min u.c v.c).toNat := by
            rw [show (min u.c v.c).toNat = min u.c.toNat v.c.toNat by omega]
            exact htk
          rw [htk2]
          generalize (den u).drop (min u.c v.c).toNat ++ denL fi.reverse = A
          generalize (den v).drop (min u.c v.c).toNat ++ denL si.reverse = B
          have hlen : ((den v).take (min u.c v.c).toNat).length = (min u.c v.c).toNat := by rw [List.length_take, dv]; omega
          unfold unl
          by_cases hAB : A = B
          · rw [if_pos hAB, if_pos (by rw [hAB])]
            rfl
          · rw [if_neg hAB, if_neg (fun z => hAB (List.append_cancel_left z)), cp_app, hlen]
            show some (some (a + min u.c v.c + (cp A B : Int))) = some (some (a + (((min u.c v.c).toNat + cp A B : Nat) : Int)))
            congr 2
            omega
theorem parting_ok {n : Nat} (hn : n ≤ 100000) {l m : List Str3} (hl : ∀ s ∈ l, Stre n s) (hm : ∀ s ∈ m, Stre n s) (hk : l.length + m.length < 1000) : S_parting_place l m = some (unl (denL l) (denL m)) := by
  obtain ⟨o, e, e1⟩ := par_wh hn 1000 0 m.reverse l.reverse (by rw [List.length_reverse, List.length_reverse]; exact hk) (by decide) (fun t ht => hl t (List.mem_reverse.mp ht)) (fun t ht => hm t (List.mem_reverse.mp ht))
  rw [List.reverse_reverse, List.reverse_reverse] at e1
  unfold S_parting_place
  refine bindS e (e1.trans (congrArg some ?_))
  cases unl (denL l) (denL m) with
  | none => rfl
  | some x => exact congrArg some (Int.zero_add x)
end Z
/-! Y, part H: the wells of the laws about short writings, and the walks drawn of them. -/
namespace Z
open PySem PySem.Spec L2
def wellB (script : (List Int)) (k_ : Int) : Option (List Int) :=
  ((if (decide (k_ < (script.length : Int))) = true then ((idx script k_).bind fun t1 => some t1) else some (((43 * k_) + 29) + (7 * (script.length : Int))) : Option Int).bind fun s2 => ((lcT (fun (other3 : Int) => (other3 % 1000000000000000000000007)) script).bind fun t5 => ((some ((((((absI s2) * 60013) + (11 * (if (decide (s2 < 0)) = true then 1 else 0))) + (t5.sum * 1327217)) + (97 * k_)) % 1000000000000000000000000000057)).bind fun seed6 => some [(maxI 0 (s2 - 1000000000000000000)), seed6, 0])))
def pickB (w_well_here : (List Int)) (many : Int) : Option (Int × (List Int)) :=
  ((idx w_well_here 0).bind fun t1 => (if (decide (0 < t1)) = true then ((idx w_well_here 0).bind fun t2 => (modO t2 many).bind fun t3 => ((idx w_well_here 0).bind fun t4 => (fdivO t4 many).bind fun t5 => (setO w_well_here 0 t5).bind fun t6 => some (t3, t6))) else ((idx w_well_here 2).bind fun t7 => (setO w_well_here 2 (t7 + 1)).bind fun t8 => ((idx t8 1).bind fun t9 => (idx t8 2).bind fun t10 => (powO (t9 + (161803398 * t10)) 3).bind fun t11 => (idx t8 2).bind fun t12 => ((idx t8 2).bind fun t13 => (mulW ((t11 + (29 * t12)) % 10000000000000000000000000000033) (((t11 + (29 * t12)) % 10000000000000000000000000000033) + (5113 * t13))).bind fun t14 => ((modO ((t14 % 100000000000000000000000000319) / 12289) many).bind fun t15 => some (t15, t8)))))))
def walkB (w_well_here : (List Int)) (letters : Int) (most : Int) : Option ((List Int) × (List Int)) :=
  ((pickB w_well_here (most + 1)).bind fun t1 => (rngO 0 t1.1).bind fun t2 => ((lp (fun (s3 : ((List Int) × (List Int))) (turn4 : Int) => ((pickB s3.1 letters).bind fun t8 => ((pickB t8.2 2).bind fun t9 => (appO s3.2 (if (decide (t9.1 = 0)) = true then (1 + t8.1) else (-(1 + t8.1)))).bind fun t10 => some (t9.2, t10)))) t2 (t1.2, ([] : (List Int)))).bind fun f5 => some (f5.2, f5.1)))
/-- three cells, of which so many draws were made at most -/
def WeB (n : Nat) (w : List Int) : Prop := ∃ a b c : Int, w = [a, b, c] ∧ 0 ≤ a ∧ 0 ≤ b ∧ b < 2 ^ 104 ∧ 0 ≤ c ∧ c ≤ n
theorem WeB.mono {n m : Nat} {w : List Int} (h : WeB n w) (hm : n ≤ m) : WeB m w := by
  obtain ⟨a, b, c, e, h1, h2, h3, h4, h5⟩ := h
  exact ⟨a, b, c, e, h1, h2, h3, h4, by omega⟩
theorem wellB_ok {ns : List Int} {k : Int} (hl : ns.length < sizeLine) (h0 : 0 ≤ k) : ∃ w, wellB ns k = some w ∧ WeB 0 w := by
  unfold wellB
  obtain ⟨s, e⟩ := cell_ok (ns := ns) (d := ((43 * k) + 29) + (7 * (ns.length : Int))) h0
  refine ⟨_, bindS e (bindS (lcT_some _ hl) rfl), _, _, _, rfl, ?_, Int.emod_nonneg _ (by decide), ?_, Int.le_refl 0, Int.le_refl 0⟩
  · unfold maxI
    split <;> omega
  · exact Int.lt_trans (Int.emod_lt_of_pos _ (by decide)) (by decide)
theorem pickB_big {n : Nat} (hn : n < 2 ^ 60) {w : List Int} (h : WeB n w) {many : Int} (h0 : 0 < many) (hbl : many.natAbs.log2 < 9000) : ∃ v w', pickB w many = some (v, w') ∧ 0 ≤ v ∧ v < many ∧ WeB (n + 1) w' := by
  obtain ⟨a, b, c, rfl, ha, hb0, hb1, hc0, hc1⟩ := h
  unfold pickB
  have i0 : idx [a, b, c] 0 = some a := rfl
  have i2 : idx [a, b, c] 2 = some c := rfl
  have j1 : idx [a, b, c + 1] 1 = some b := rfl
  have j2 : idx [a, b, c + 1] 2 = some (c + 1) := rfl
  have m0 : setO [a, b, c] 2 (c + 1) = some [a, b, c + 1] := rfl
  have m1 : modO a many = some (a % many) := if_pos h0
  have m2 : fdivO a many = some (a / many) := if_pos ⟨h0, hbl⟩
  have m3 : setO [a, b, c] 0 (a / many) = some [a / many, b, c] := rfl
  have m4 : powO (b + (161803398 * (c + 1))) 3 = some ((b + (161803398 * (c + 1))) ^ 3) := pow_three (by omega) (by omega)
  simp only [i0, i2, j1, j2, m0, m1, m2, m3, m4, Option.bind_some]
  by_cases hp : 0 < a
  · rw [if_pos (decide_eq_true hp)]
    exact ⟨a % many, [a / many, b, c], rfl, Int.emod_nonneg _ (by omega), Int.emod_lt_of_pos _ h0, _, _, _, rfl, Int.ediv_nonneg ha (by omega), hb0, hb1, hc0, by omega⟩
  · rw [if_neg (by simpa using hp)]
    generalize (b + (161803398 * (c + 1))) ^ 3 = t11
    have q0 : 0 ≤ (t11 + 29 * (c + 1)) % 10000000000000000000000000000033 := Int.emod_nonneg _ (by decide)
    have q1 : (t11 + 29 * (c + 1)) % 10000000000000000000000000000033 < 10000000000000000000000000000033 := Int.emod_lt_of_pos _ (by decide)
    generalize (t11 + 29 * (c + 1)) % 10000000000000000000000000000033 = x at q0 q1
    have m5 : mulW x (x + 5113 * (c + 1)) = some (x * (x + 5113 * (c + 1))) := by
      refine if_pos (.inr (.inr ?_))
      have e1 : x.natAbs.log2 < 110 := log2_int q0 (by omega) (by decide)
      have e2 : (x + 5113 * (c + 1)).natAbs.log2 < 111 := log2_int (by omega) (by omega) (by decide)
      omega
    have m6 : modO (x * (x + 5113 * (c + 1)) % 100000000000000000000000000319 / 12289) many = some (x * (x + 5113 * (c + 1)) % 100000000000000000000000000319 / 12289 % many) := if_pos h0
    simp only [m5, m6, Option.bind_some]
    exact ⟨_, _, rfl, Int.emod_nonneg _ (by omega), Int.emod_lt_of_pos _ h0, _, _, _, rfl, ha, hb0, hb1, by omega, by omega⟩
theorem pickB_ok {n : Nat} (hn : n < 2 ^ 60) {w : List Int} (h : WeB n w) {many : Int} (h0 : 0 < many) (hb : many < 2 ^ 64) : ∃ v w', pickB w many = some (v, w') ∧ 0 ≤ v ∧ v < many ∧ WeB (n + 1) w' :=
  pickB_big hn h h0 (Nat.lt_trans (log2_int (by omega) hb (by decide)) (by decide))
theorem walkB_ok {n : Nat} {L most : Int} (hn : n + 3000 < 2 ^ 60) {w : List Int} (h : WeB n w) (h1 : 1 ≤ L) (h4 : L ≤ 4) (hm0 : 0 ≤ most) (hm1 : most ≤ 1000) :
    ∃ ws w', walkB w L most = some (ws, w') ∧ (∀ x ∈ ws, Sok L x) ∧ (ws.length : Int) ≤ most ∧ WeB (n + 2100) w' := by
  unfold walkB
  obtain ⟨v2, w2, e2, a2, b2, k2⟩ := pickB_ok (by omega) h (many := most + 1) (by omega) (by omega)
  have hlr : (range' 0 v2).length = v2.toNat := by rw [rng_len, Int.sub_zero]
  obtain ⟨s', e3, k3⟩ := lp_goN (f := (fun (s3 : ((List Int) × (List Int))) (turn4 : Int) => ((pickB s3.1 L).bind fun t8 => ((pickB t8.2 2).bind fun t9 => (appO s3.2 (if (decide (t9.1 = 0)) = true then (1 + t8.1) else (-(1 + t8.1)))).bind fun t10 => some (t9.2, t10))))) (xs := range' 0 v2) (fun i s => WeB (n + 1 + 2 * i) s.1 ∧ s.2.length = i ∧ ∀ x ∈ s.2, Sok L x) (fun i x s hx hs => by
    have hi : i < v2.toNat := by
      have := (List.getElem?_eq_some_iff.mp hx).1
      omega
    obtain ⟨g1, g2, g3⟩ := hs
    obtain ⟨u1, x1, f1, c1, d1, g4⟩ := pickB_ok (by omega) g1 (many := L) (by omega) (by omega)
    obtain ⟨u2, x2, f2, c2, d2, g5⟩ := pickB_ok (by omega) g4 (many := 2) (by decide) (by decide)
    have hy : Sok L (if (decide (u2 = 0)) = true then (1 + u1) else (-(1 + u1))) := by
      split <;> exact ⟨by omega, by omega, by omega⟩
    refine ⟨_, bindS f1 (bindS f2 (bindS (app_ok (by rw [g2]; exact Nat.lt_of_lt_of_le (show i < 1001 by omega) (by decide))) rfl)), g5.mono (by omega), by rw [List.length_append, g2]; rfl, fun z hz => ?_⟩
    rcases List.mem_append.mp hz with hz | hz
    · exact g3 z hz
    · exact List.mem_singleton.mp hz ▸ hy) (s0 := (w2, [])) ⟨k2.mono (by omega), rfl, (fun _ z => nomatch z)⟩
  rw [hlr] at k3
  exact ⟨_, _, bindS e2 (bindS (rngO_ok (show -(2 ^ 62) ≤ (0 : Int) ∧ (0 : Int) < 2 ^ 62 ∧ -(2 ^ 62) ≤ v2 ∧ v2 < 2 ^ 62 by omega)) (bindS e3 rfl)), k3.2.2, by rw [k3.2.1]; omega, k3.1.mono (by omega)⟩
/-! ### short writings of letters -/
/-- of the letters to L, no more than m walks, none longer than n, none oftener than t -/
structure Shw (L : Int) (m n : Nat) (t : Int) (sh : List (List Int × Int)) : Prop where
  ok : ∀ p ∈ sh, ∀ x ∈ p.1, Sok L x
  len : ∀ p ∈ sh, p.1.length ≤ n
  tim : ∀ p ∈ sh, p.2 ≠ 0 ∧ -t ≤ p.2 ∧ p.2 ≤ t
  num : sh.length ≤ m
theorem Shw.mono {L : Int} {m n m' n' : Nat} {t t' : Int} {sh : List (List Int × Int)} (h : Shw L m n t sh) (hm : m ≤ m') (hn : n ≤ n') (ht : t ≤ t') : Shw L m' n' t' sh := ⟨h.ok, fun p hp => Nat.le_trans (h.len p hp) hn, fun p hp => by have := h.tim p hp; omega, Nat.le_trans h.num hm⟩
theorem Shw.sho {L : Int} {m n : Nat} {t : Int} {sh : List (List Int × Int)} (h : Shw L m n t sh) : ShO n sh := ⟨h.len, fun p hp x hx => (h.ok p hp x hx).1, fun p hp => (h.tim p hp).1⟩
theorem Shw.nil {L : Int} {m n : Nat} {t : Int} : Shw L m n t [] := ⟨(fun _ z => nomatch z), (fun _ z => nomatch z), (fun _ z => nomatch z), Nat.zero_le _⟩
theorem Shw.sub {L : Int} {m n : Nat} {t : Int} {sh u : List (List Int × Int)} (h : Shw L m n t sh) (hu : ∀ p ∈ u, p ∈ sh) (hl : u.length ≤ sh.length) : Shw L m n t u := ⟨fun p hp => h.ok p (hu p hp), fun p hp => h.len p (hu p hp), fun p hp => h.tim p (hu p hp), Nat.le_trans hl h.num⟩
theorem Shw.app {L : Int} {m m' n : Nat} {t : Int} {a b : List (List Int × Int)} (h : Shw L m n t a) (k : Shw L m' n t b) : Shw L (m + m') n t (a ++ b) := ⟨fun p hp => (List.mem_append.mp hp).elim (h.ok p) (k.ok p), fun p hp => (List.mem_append.mp hp).elim (h.len p) (k.len p), fun p hp => (List.mem_append.mp hp).elim (h.tim p) (k.tim p), by
  have := h.num
  have := k.num
  rw [List.length_append]
  omega⟩
theorem Shw.one {L : Int} {n : Nat} {t : Int} {p : List Int × Int} (h1 : ∀ x ∈ p.1, Sok L x) (h2 : p.1.length ≤ n) (h3 : p.2 ≠ 0) (h4 : -t ≤ p.2) (h5 : p.2 ≤ t) : Shw L 1 n t [p] := ⟨fun q hq => List.mem_singleton.mp hq ▸ h1, fun q hq => List.mem_singleton.mp hq ▸ h2, fun q hq => List.mem_singleton.mp hq ▸ ⟨h3, h4, h5⟩, Nat.le_refl _⟩
theorem Shw.num' {L : Int} {m m' n : Nat} {t : Int} {sh : List (List Int × Int)} (h : Shw L m n t sh) (k : sh.length ≤ m') : Shw L m' n t sh := ⟨h.ok, h.len, h.tim, k⟩
end Z
namespace L26
open PySem PySem.Spec L2 Z
/-- straightened -/
def m_p_straightened (walk : (List Int)) : Option (List Int) :=
  ((lp (fun (s1 : (List Int)) (step2 : Int) => ((if (decide (0 < (s1.length : Int))) = true then ((idx s1 (-1)).bind fun t6 => some (decide (t6 = (-step2)))) else some false).bind fun t7 => ((if t7 = true then ((popO s1).bind fun t8 => some t8.2) else ((appO s1 step2).bind fun t9 => some t9) : Option (List Int)).bind fun s10 => some s10))) walk ([] : (List Int))).bind fun f3 => some f3)
/-- turned_back -/
def m_p_turned_back (walk : (List Int)) : Option (List Int) :=
  ((lcT (fun (step1 : Int) => (-step1)) walk.reverse).bind fun t3 => some t3)
/-- is_integer -/
def m_p_is_integer (value : Int) : Option Bool :=
  some (true && true)
/-- is_letters -/
def m_p_is_letters (value : Int) : Option Bool :=
  ((m_p_is_integer value).bind fun t1 => some (t1 && (decide (1 ≤ value) && decide (value ≤ 4))))
/-- is_step -/
def m_p_is_step (value : Int) (letters : Int) : Option Bool :=
  ((m_p_is_integer value).bind fun t1 => some (t1 && (decide (1 ≤ (absI value)) && decide ((absI value) ≤ letters))))
/-- is_a_walk -/
def m_p_is_a_walk (value : (List Int)) (letters : Int) : Option Bool :=
  ((if true = true then ((lcO (β := Bool) (fun (step1 : Int) => ((m_p_is_step step1 letters).bind fun t3 => some t3)) value).bind fun t4 => some (t4.all id)) else some false).bind fun t5 => some t5)
/-- need_letters -/
def m_p_need_letters (letters : Int) : Option Unit :=
  ((m_p_is_letters letters).bind fun t1 => (if (!t1) = true then none else some ()))
/-- need_number -/
def m_p_need_number (number : Int) (low : Int) (high : Int) : Option Unit :=
  (if ((decide (number < low)) || (true && (decide (high < number)))) = true then none else some ())
/-- step_of -/
def m_p_step_of (stretch : (Tri (List Int) Int Int)) (place : Int) : Option Int :=
  ((modO (stretch.b + place) (stretch.a.length : Int)).bind fun t1 => (idx stretch.a t1).bind fun t2 => some t2)
/-- first_of -/
def m_p_first_of (stretch : (Tri (List Int) Int Int)) (many : Int) : Option (Tri (List Int) Int Int) :=
  some (Tri.mk stretch.a stretch.b many)
/-- rest_of -/
def m_p_rest_of (stretch : (Tri (List Int) Int Int)) (many : Int) : Option (Tri (List Int) Int Int) :=
  ((modO (stretch.b + many) (stretch.a.length : Int)).bind fun t1 => some (Tri.mk stretch.a t1 (stretch.c - many)))
/-- back_of -/
def m_p_back_of (stretch : (Tri (List Int) Int Int)) : Option (Tri (List Int) Int Int) :=
  ((m_p_turned_back stretch.a).bind fun t1 => (modO ((-stretch.b) - stretch.c) (stretch.a.length : Int)).bind fun t2 => some (Tri.mk t1 t2 stretch.c))
/-- common_beginning -/
def m_p_common_beginning (one : (Tri (List Int) Int Int)) (other : (Tri (List Int) Int Int)) : Option Int :=
  ((rngO 0 (minI (minI one.c other.c) ((one.a.length : Int) + (other.a.length : Int)))).bind fun t1 => ((lpR (fun (s2 : Unit) (place3 : Int) => (((m_p_step_of one place3).bind fun t7 => (m_p_step_of other place3).bind fun t8 => (if (!decide (t7 = t8)) = true then some (Step.ret place3) else some (Step.go ()))) : Option (Step Int Unit))) t1 ()).bind fun f4o => Sum.elim (fun r10 => some r10) (fun f4 => some (minI one.c other.c)) f4o))
/-- parted -/
def m_p_parted (walk : (List Int)) : Option ((List Int) × (List Int)) :=
  ((wh (fun (s1 : Int) => ((idx walk s1).bind fun t3 => (idx walk ((-1) - s1)).bind fun t4 => some (decide (t3 = (-t4))))) (fun (s1 : Int) => (some (Step.go (s1 + 1)) : Option (Step ((List Int) × (List Int)) Int))) 1000 0).bind fun f2o => Sum.elim (fun r7 => none) (fun f2 => some ((cut walk none (some f2)), (cut walk (some f2) (some ((walk.length : Int) - f2))))) f2o)
/-- stretches_of -/
def m_p_stretches_of (walk : (List Int)) (times : Int) : Option (List (Tri (List Int) Int Int)) :=
  ((m_p_straightened walk).bind fun t1 => (if (decide (t1 = ([] : (List Int)))) = true then some ([] : (List (Tri (List Int) Int Int))) else ((m_p_parted t1).bind fun t2 => ((if (decide (times < 0)) = true then ((m_p_turned_back t2.2).bind fun t3 => some t3) else some t2.2 : Option (List Int)).bind fun s4 => ((mulW (absI times) (s4.length : Int)).bind fun t5 => ((if (!decide (t2.1 = ([] : (List Int)))) = true then ((idx ([(Tri.mk s4 0 t5)]) 0).bind fun t6 => (m_p_turned_back t2.1).bind fun t7 => (some ([(Tri.mk t2.1 0 (t2.1.length : Int)), t6, (Tri.mk t7 0 (t2.1.length : Int))])).bind fun found8 => some found8) else some [(Tri.mk s4 0 t5)] : Option (List (Tri (List Int) Int Int))).bind fun s10 => some s10))))))
/-- lay -/
def m_p_lay (w_done : (List (Tri (List Int) Int Int))) (stretch : (Tri (List Int) Int Int)) : Option (Unit × (List (Tri (List Int) Int Int))) :=
  ((wh (fun (s1 : ((Tri (List Int) Int Int) × (List (Tri (List Int) Int Int)))) => some ((decide (0 < s1.1.c)) && (decide (0 < (s1.2.length : Int))))) (fun (s1 : ((Tri (List Int) Int Int) × (List (Tri (List Int) Int Int)))) => (((popO s1.2).bind fun t5 => ((m_p_back_of t5.1).bind fun t6 => (m_p_common_beginning t6 s1.1).bind fun t7 => ((m_p_rest_of s1.1 t7).bind fun t8 => (if (decide (t7 < t5.1.c)) = true then ((m_p_first_of t5.1 (t5.1.c - t7)).bind fun t9 => (appO t5.2 t9).bind fun t10 => some (Step.brk (t8, t10))) else some (Step.go (t8, t5.2)))))) : Option (Step (Unit × (List (Tri (List Int) Int Int))) ((Tri (List Int) Int Int) × (List (Tri (List Int) Int Int)))))) 1000 (stretch, w_done)).bind fun f2o => Sum.elim (fun r13 => none) (fun f2 => ((if (decide (0 < f2.1.c)) = true then ((appO f2.2 f2.1).bind fun t11 => some t11) else some f2.2 : Option (List (Tri (List Int) Int Int))).bind fun s12 => some ((), s12))) f2o)
/-- straight_list -/
def m_p_straight_list (short : (List ((List Int) × Int))) : Option (List (Tri (List Int) Int Int)) :=
  ((lp (fun (s1 : (List (Tri (List Int) Int Int))) (x2 : ((List Int) × Int)) => ((m_p_stretches_of x2.1 x2.2).bind fun t6 => ((lp (fun (s7 : (List (Tri (List Int) Int Int))) (stretch8 : (Tri (List Int) Int Int)) => ((m_p_lay s7 stretch8).bind fun t12 => some t12.2)) t6 s1).bind fun f9 => some f9))) short ([] : (List (Tri (List Int) Int Int)))).bind fun f3 => some f3)
/-- steps_in -/
def m_p_steps_in (done : (List (Tri (List Int) Int Int))) : Option Int :=
  ((lcT (fun (stretch1 : (Tri (List Int) Int Int)) => stretch1.c) done).bind fun t3 => some t3.sum)
/-- cut_out -/
def m_p_cut_out (done : (List (Tri (List Int) Int Int))) (begin : Int) (end_ : Int) : Option (List (Tri (List Int) Int Int)) :=
  ((lp (fun (s2 : (Int × (List (Tri (List Int) Int Int)))) (stretch3 : (Tri (List Int) Int Int)) => ((if (decide ((maxI (begin - s2.1) 0) < (minI (end_ - s2.1) stretch3.c))) = true then ((m_p_rest_of stretch3 (maxI (begin - s2.1) 0)).bind fun t7 => (m_p_first_of t7 ((minI (end_ - s2.1) stretch3.c) - (maxI (begin - s2.1) 0))).bind fun t8 => (appO s2.2 t8).bind fun t9 => some t9) else some s2.2 : Option (List (Tri (List Int) Int Int))).bind fun s10 => some ((s2.1 + stretch3.c), s10))) done (0, ([] : (List (Tri (List Int) Int Int))))).bind fun f4 => some f4.2)
/-- is_a_part -/
def m_p_is_a_part (value : ((List Int) × Int)) (letters : Int) : Option Bool :=
  ((if false = true then some true else ((if (!decide (2 = 2)) = true then some true else ((m_p_is_a_walk value.1 letters).bind fun t1 => some (!t1))).bind fun t2 => some t2)).bind fun t3 => (if t3 = true then some false else ((m_p_is_integer value.2).bind fun t4 => some (t4 && (decide (1 ≤ (absI value.2)) && decide ((absI value.2) ≤ 1000000000000000000000000000000))))))
/-- is_a_short -/
def m_p_is_a_short (value : (List ((List Int) × Int))) (letters : Int) : Option Bool :=
  (if (false || (decide (60 < (value.length : Int)))) = true then some false else ((lcO (β := Bool) (fun (part_1 : ((List Int) × Int)) => ((m_p_is_a_part part_1 letters).bind fun t3 => some t3)) value).bind fun t4 => some (t4.all id)))
/-- need_short -/
def m_p_need_short (short : (List ((List Int) × Int))) (letters : Int) : Option Unit :=
  ((m_p_is_a_short short letters).bind fun t1 => (if (!t1) = true then none else some ()))
/-- need_letters_and_short -/
def m_p_need_letters_and_short (letters : Int) (short : (List ((List Int) × Int))) : Option Unit :=
  ((m_p_need_letters letters).bind fun t1 => ((m_p_need_short short letters).bind fun t2 => some ()))
/-- is_short -/
def m_p_is_short (letters : Int) (value : (List ((List Int) × Int))) : Option Bool :=
  ((m_p_need_letters letters).bind fun t1 => ((m_p_is_a_short value letters).bind fun t2 => some t2))
/-- short_length -/
def m_p_short_length (letters : Int) (short : (List ((List Int) × Int))) : Option Int :=
  ((m_p_need_letters_and_short letters short).bind fun t1 => ((m_p_straight_list short).bind fun t2 => (m_p_steps_in t2).bind fun t3 => some t3))
/-- short_steps -/
def m_p_short_steps (letters : Int) (short : (List ((List Int) × Int))) (place : Int) (count : Int) : Option (List Int) :=
  ((m_p_need_letters_and_short letters short).bind fun t1 => ((m_p_straight_list short).bind fun t2 => ((m_p_steps_in t2).bind fun t3 => ((m_p_need_number place 0 (t3 - 1)).bind fun t4 => ((m_p_need_number count 1 (minI 60 (t3 - place))).bind fun t5 => ((m_p_cut_out t2 place (place + count)).bind fun t6 => ((lp (fun (s7 : (List Int)) (stretch8 : (Tri (List Int) Int Int)) => ((rngO 0 stretch8.c).bind fun t12 => (lcO (β := Int) (fun (at_13 : Int) => ((m_p_step_of stretch8 at_13).bind fun t15 => some t15)) t12).bind fun t16 => (catO (α := Int) s7 t16).bind fun t17 => some t17)) t6 ([] : (List Int))).bind fun f9 => some f9)))))))
/-- parting_place -/
def m_p_parting_place (one : (List (Tri (List Int) Int Int))) (other : (List (Tri (List Int) Int Int))) : Option (Option Int) :=
  ((wh (fun (s3 : (Int × (List (Tri (List Int) Int Int)) × (List (Tri (List Int) Int Int)))) => some ((decide (0 < (s3.2.2.length : Int))) && (decide (0 < (s3.2.1.length : Int))))) (fun (s3 : (Int × (List (Tri (List Int) Int Int)) × (List (Tri (List Int) Int Int)))) => (((popO s3.2.2).bind fun t7 => (popO s3.2.1).bind fun t8 => ((m_p_common_beginning t7.1 t8.1).bind fun t9 => (if (decide (t9 < (minI t7.1.c t8.1.c))) = true then some (Step.ret (some (s3.1 + t9))) else ((if (decide ((minI t7.1.c t8.1.c) < t7.1.c)) = true then ((m_p_rest_of t7.1 (minI t7.1.c t8.1.c)).bind fun t10 => (appO t7.2 t10).bind fun t11 => some t11) else some t7.2 : Option (List (Tri (List Int) Int Int))).bind fun s12 => ((if (decide ((minI t7.1.c t8.1.c) < t8.1.c)) = true then ((m_p_rest_of t8.1 (minI t7.1.c t8.1.c)).bind fun t13 => (appO t8.2 t13).bind fun t14 => some t14) else some t8.2 : Option (List (Tri (List Int) Int Int))).bind fun s15 => some (Step.go ((s3.1 + (minI t7.1.c t8.1.c)), s15, s12))))))) : Option (Step (Option Int) (Int × (List (Tri (List Int) Int Int)) × (List (Tri (List Int) Int Int)))))) 1000 (0, other.reverse, one.reverse)).bind fun f4o => Sum.elim (fun r16 => some r16) (fun f4 => some (if (decide (0 < ((f4.2.2.length : Int) + (f4.2.1.length : Int)))) = true then (some f4.1) else none)) f4o)
/-- first_unlike -/
def m_p_first_unlike (letters : Int) (one : (List ((List Int) × Int))) (other : (List ((List Int) × Int))) : Option (Option Int) :=
  ((m_p_need_letters_and_short letters one).bind fun t1 => ((m_p_need_short other letters).bind fun t2 => ((m_p_straight_list one).bind fun t3 => (m_p_straight_list other).bind fun t4 => (m_p_parting_place t3 t4).bind fun t5 => some t5)))
/-- same_walk -/
def m_p_same_walk (letters : Int) (one : (List ((List Int) × Int))) (other : (List ((List Int) × Int))) : Option Bool :=
  ((m_p_first_unlike letters one other).bind fun t1 => some t1.isNone)
/-- _law_well -/
def m_l_well (script : (List Int)) (k_ : Int) : Option (List Int) :=
  ((if (decide (k_ < (script.length : Int))) = true then ((idx script k_).bind fun t1 => some t1) else some (((43 * k_) + 29) + (7 * (script.length : Int))) : Option Int).bind fun s2 => ((lcT (fun (other3 : Int) => (other3 % 1000000000000000000000007)) script).bind fun t5 => ((some ((((((absI s2) * 60013) + (11 * (if (decide (s2 < 0)) = true then 1 else 0))) + (t5.sum * 1327217)) + (97 * k_)) % 1000000000000000000000000000057)).bind fun seed6 => some [(maxI 0 (s2 - 1000000000000000000)), seed6, 0])))
/-- _law_pick -/
def m_l_pick (w_well_here : (List Int)) (many : Int) : Option (Int × (List Int)) :=
  ((idx w_well_here 0).bind fun t1 => (if (decide (0 < t1)) = true then ((idx w_well_here 0).bind fun t2 => (modO t2 many).bind fun t3 => ((idx w_well_here 0).bind fun t4 => (fdivO t4 many).bind fun t5 => (setO w_well_here 0 t5).bind fun t6 => some (t3, t6))) else ((idx w_well_here 2).bind fun t7 => (setO w_well_here 2 (t7 + 1)).bind fun t8 => ((idx t8 1).bind fun t9 => (idx t8 2).bind fun t10 => (powO (t9 + (161803398 * t10)) 3).bind fun t11 => (idx t8 2).bind fun t12 => ((idx t8 2).bind fun t13 => (mulW ((t11 + (29 * t12)) % 10000000000000000000000000000033) (((t11 + (29 * t12)) % 10000000000000000000000000000033) + (5113 * t13))).bind fun t14 => ((modO ((t14 % 100000000000000000000000000319) / 12289) many).bind fun t15 => some (t15, t8)))))))
/-- _law_back -/
def m_l_back (walk_here : (List Int)) : Option (List Int) :=
  ((lcT (fun (step1 : Int) => (-step1)) walk_here.reverse).bind fun t3 => some t3)
/-- _law_straight -/
def m_l_straight (walk_here : (List Int)) : Option (List Int) :=
  ((lp (fun (s1 : (List Int)) (step2 : Int) => ((if (decide (0 < (s1.length : Int))) = true then ((idx s1 (-1)).bind fun t6 => some (decide (t6 = (-step2)))) else some false).bind fun t7 => ((if t7 = true then ((popO s1).bind fun t8 => some t8.2) else ((appO s1 step2).bind fun t9 => some t9) : Option (List Int)).bind fun s10 => some s10))) walk_here ([] : (List Int))).bind fun f3 => some f3)
/-- _law_walk -/
def m_l_walk (w_well_here : (List Int)) (letters : Int) (most : Int) : Option ((List Int) × (List Int)) :=
  ((m_l_pick w_well_here (most + 1)).bind fun t1 => (rngO 0 t1.1).bind fun t2 => ((lp (fun (s3 : ((List Int) × (List Int))) (turn4 : Int) => ((m_l_pick s3.1 letters).bind fun t8 => ((m_l_pick t8.2 2).bind fun t9 => (appO s3.2 (if (decide (t9.1 = 0)) = true then (1 + t8.1) else (-(1 + t8.1)))).bind fun t10 => some (t9.2, t10)))) t2 (t1.2, ([] : (List Int)))).bind fun f5 => some (f5.2, f5.1)))
/-- _law_part -/
def m_l_part (w_well_here : (List Int)) (letters : Int) (w_ahead : (List ((List Int) × Int))) : Option (((List Int) × Int) × (List Int) × (List ((List Int) × Int))) :=
  ((m_l_pick w_well_here 6).bind fun t1 => (m_l_pick t1.2 12).bind fun t2 => ((m_l_pick t2.2 2).bind fun t3 => (some (if (decide (t3.1 = 0)) = true then (1 + t2.1) else (-(1 + t2.1)))).bind fun times4 => (if ((decide (2 < t1.1)) && (decide (0 < (w_ahead.length : Int)))) = true then ((m_l_pick t3.2 (w_ahead.length : Int)).bind fun t6 => (idx w_ahead t6.1).bind fun t7 => (if (decide (t1.1 = 3)) = true then some ((t7.1, (-t7.2)), t6.2, w_ahead) else ((m_l_pick t6.2 ((t7.1.length : Int) + 1)).bind fun t8 => ((if (decide (t1.1 = 4)) = true then ((catO (α := Int) (cut t7.1 (some t8.1) none) (cut t7.1 none (some t8.1))).bind fun t9 => some t9) else some t7.1).bind fun t10 => some ((t10, times4), t8.2, w_ahead))))) else ((m_l_walk t3.2 letters 6).bind fun t11 => ((if (decide (t1.1 = 1)) = true then ((m_l_walk t11.2 letters 3).bind fun t12 => ((catO (α := Int) t12.1 t11.1).bind fun t13 => (m_l_back t12.1).bind fun t14 => (catO (α := Int) t13 t14).bind fun t15 => some (t15, t12.2))) else some (t11.1, t11.2) : Option ((List Int) × (List Int))).bind fun s16 => some ((s16.1, times4), s16.2, w_ahead))))))
/-- _law_short -/
def m_l_short (w_well_here : (List Int)) (letters : Int) (most : Int) : Option ((List ((List Int) × Int)) × (List Int)) :=
  ((m_l_pick w_well_here (most + 1)).bind fun t1 => (rngO 0 t1.1).bind fun t2 => ((lp (fun (s3 : ((List Int) × (List ((List Int) × Int)))) (turn4 : Int) => ((m_l_part s3.1 letters s3.2).bind fun t8 => (appO t8.2.2 t8.1).bind fun t9 => some (t8.2.1, t9))) t2 (t1.2, ([] : (List ((List Int) × Int))))).bind fun f5 => some (f5.2, f5.1)))
/-- _law_out -/
def m_l_out (short_here : (List ((List Int) × Int))) : Option (List Int) :=
  ((lp (fun (s1 : (List Int)) (x2 : ((List Int) × Int)) => ((if (decide (0 < x2.2)) = true then some x2.1 else ((m_l_back x2.1).bind fun t6 => some t6)).bind fun t7 => (repT t7 (absI x2.2)).bind fun t8 => (catO (α := Int) s1 t8).bind fun t9 => some t9)) short_here ([] : (List Int))).bind fun f3 => ((m_l_straight f3).bind fun t11 => some t11))
/-- _law_long -/
def m_l_long (w_well_here : (List Int)) (letters : Int) : Option ((List ((List Int) × Int)) × (List Int)) :=
  ((m_l_walk w_well_here letters 60).bind fun t1 => ((m_l_back t1.1).bind fun t2 => (m_l_pick t1.2 60).bind fun t3 => ((m_l_walk t3.2 letters (60 - t3.1)).bind fun t4 => (catO (α := Int) (cut t2 none (some t3.1)) t4.1).bind fun t5 => ((m_l_pick t4.2 3).bind fun t6 => (m_l_pick t6.2 3).bind fun t7 => ((m_l_pick t7.2 2).bind fun t8 => ((if (decide (t8.1 = 0)) = true then ((m_l_walk t8.2 letters 10).bind fun t9 => (catO (α := Int) (cut t1.1 none (some 25)) t9.1).bind fun t10 => (m_l_back (cut t1.1 none (some 25))).bind fun t11 => (catO (α := Int) t10 t11).bind fun t12 => (m_l_pick t9.2 3).bind fun t13 => (catO (α := ((List Int) × Int)) ([(t12, (1 + t13.1))]) ([(t1.1, (1 + t6.1)), (t5, (1 + t7.1))])).bind fun t14 => some (t14, t13.2)) else some ([(t1.1, (1 + t6.1)), (t5, (1 + t7.1))], t8.2) : Option ((List ((List Int) × Int)) × (List Int))).bind fun s15 => ((lcE (β := ((List Int) × Int)) (fun (s17 : (List Int)) (x16 : ((List Int) × Int)) => ((m_l_pick s17 4).bind fun t18 => some (some (x16.1, (if (decide (0 < t18.1)) = true then x16.2 else (-x16.2))), t18.2))) s15.1 s15.2).bind fun t19 => some (t19.1, t19.2))))))))
/-- _law_beside -/
def m_l_beside (w_well_here : (List Int)) (letters : Int) (short_here : (List ((List Int) × Int))) : Option ((List ((List Int) × Int)) × (List Int)) :=
  ((m_l_pick w_well_here 7).bind fun t1 => (if ((decide (t1.1 = 0)) || (decide ((short_here.length : Int) = 0))) = true then ((m_l_short t1.2 letters 6).bind fun t2 => some (t2.1, t2.2)) else ((m_l_pick t1.2 (short_here.length : Int)).bind fun t3 => ((idx short_here t3.1).bind fun t4 => (if (decide (t1.1 = 1)) = true then ((m_l_pick t3.2 9).bind fun t5 => ((lcF (fun (often6 : Int) => (!decide (often6 = 0))) (fun (often6 : Int) => (t4.1, often6)) ([((t5.1 - 4), (t4.2 - (t5.1 - 4))).1, ((t5.1 - 4), (t4.2 - (t5.1 - 4))).2])).bind fun t8 => ((catO (α := ((List Int) × Int)) (cut short_here none (some t3.1)) t8).bind fun t9 => (catO (α := ((List Int) × Int)) t9 (cut short_here (some (t3.1 + 1)) none)).bind fun t10 => some (t10, t5.2)))) else (if (decide (t1.1 = 2)) = true then ((lcO (β := ((List Int) × Int)) (fun (x11 : ((List Int) × Int)) => ((m_l_back x11.1).bind fun t13 => some (t13, (-x11.2)))) short_here).bind fun t14 => some (t14, t3.2)) else (if (decide (t1.1 = 3)) = true then ((m_l_walk t3.2 letters 5).bind fun t15 => (m_l_pick t15.2 9).bind fun t16 => ((catO (α := ((List Int) × Int)) (cut short_here none (some t3.1)) ([(t15.1, (1 + t16.1)), (t15.1, (-(1 + t16.1)))])).bind fun t17 => (catO (α := ((List Int) × Int)) t17 (cut short_here (some t3.1) none)).bind fun t18 => some (t18, t16.2))) else (if (decide (t1.1 = 4)) = true then ((catO (α := ((List Int) × Int)) (cut short_here none (some t3.1)) ([(t4.1, (if (!decide (t4.2 = (-1))) = true then (t4.2 + 1) else 1))])).bind fun t19 => (catO (α := ((List Int) × Int)) t19 (cut short_here (some (t3.1 + 1)) none)).bind fun t20 => some (t20, t3.2)) else (if (decide (t1.1 = 5)) = true then ((m_l_pick t3.2 letters).bind fun t21 => (m_l_pick t21.2 2).bind fun t22 => (catO (α := ((List Int) × Int)) short_here ([([(1 + t21.1)], (1 - (2 * t22.1)))])).bind fun t23 => some (t23, t22.2)) else ((catO (α := ((List Int) × Int)) (cut short_here none (some t3.1)) (cut short_here (some (t3.1 + 1)) none)).bind fun t24 => some (t24, t3.2)))))))))))
/-- _law_unlike -/
def m_l_unlike (one : (List Int)) (other : (List Int)) : Option (Option Int) :=
  (if (decide (one = other)) = true then some none else ((rngO 0 (minI (one.length : Int) (other.length : Int))).bind fun t1 => ((lpR (fun (s2 : Unit) (place3 : Int) => (((idx one place3).bind fun t7 => (idx other place3).bind fun t8 => (if (!decide (t7 = t8)) = true then some (Step.ret (some place3)) else some (Step.go ()))) : Option (Step (Option Int) Unit))) t1 ()).bind fun f4o => Sum.elim (fun r10 => some r10) (fun f4 => some (some (minI (one.length : Int) (other.length : Int)))) f4o)))
/-- _law_steps_right -/
def m_l_steps_right (w_well_here : (List Int)) (letters : Int) (short_here : (List ((List Int) × Int))) (plain : (List Int)) : Option (Bool × (List Int)) :=
  ((m_l_pick w_well_here (plain.length : Int)).bind fun t1 => (m_l_pick t1.2 (plain.length : Int)).bind fun t2 => ((lpR (fun (s3 : (List Int)) (place4 : Int) => (((m_l_pick s3 (minI 60 ((plain.length : Int) - place4))).bind fun t8 => ((lpR (fun (s9 : Unit) (count10 : Int) => (((reprO (PyData.tuple (List.map PyData.int (cut plain (some place4) (some (place4 + count10)))))).bind fun t14 => ((m_p_short_steps letters short_here place4 count10).bind fun t15 => (reprO (PyData.tuple (List.map PyData.int t15))).bind fun t16 => (if (!decide (t16 = t14)) = true then some (Step.ret (false, t8.2)) else ((m_p_short_steps letters short_here place4 count10).bind fun t17 => (reprO (PyData.tuple (List.map PyData.int t17))).bind fun t18 => (if (!decide (t18 = t14)) = true then some (Step.ret (false, t8.2)) else some (Step.go ())))))) : Option (Step (Bool × (List Int)) Unit))) ([1, (minI 60 ((plain.length : Int) - place4)), (1 + t8.1)]) ()).bind fun f11o => Sum.elim (fun r20 => some (Step.ret r20)) (fun f11 => some (Step.go t8.2)) f11o)) : Option (Step (Bool × (List Int)) (List Int)))) ([0, ((plain.length : Int) - 1), t1.1, t2.1]) t2.2).bind fun f5o => Sum.elim (fun r23 => some r23) (fun f5 => some (true, f5)) f5o))
/-- _law_pair_right -/
def m_l_pair_right (letters : Int) (one : (List ((List Int) × Int))) (other : (List ((List Int) × Int))) (due : (Option Int)) : Option Bool :=
  ((m_p_first_unlike letters one other).bind fun t1 => (reprO ((eO PyData.int) t1)).bind fun t2 => (reprO ((eO PyData.int) due)).bind fun t3 => (if (!decide (t2 = t3)) = true then some false else (match due with | none => ((m_p_same_walk letters one other).bind fun t4 => (reprO (PyData.bool t4)).bind fun t5 => (reprO (PyData.bool true)).bind fun t6 => (if (!decide (t5 = t6)) = true then some false else ((m_p_first_unlike letters other one).bind fun t7 => (reprO ((eO PyData.int) t7)).bind fun t8 => (reprO PyData.none).bind fun t9 => (if (!decide (t8 = t9)) = true then some false else ((m_p_same_walk letters other one).bind fun t10 => (reprO (PyData.bool t10)).bind fun t11 => (reprO (PyData.bool true)).bind fun t12 => some (decide (t11 = t12))))))) | some due13 => ((m_p_same_walk letters one other).bind fun t14 => (reprO (PyData.bool t14)).bind fun t15 => (reprO (PyData.bool false)).bind fun t16 => (if (!decide (t15 = t16)) = true then some false else ((m_p_first_unlike letters other one).bind fun t17 => (reprO ((eO PyData.int) t17)).bind fun t18 => (reprO (PyData.int due13)).bind fun t19 => (if (!decide (t18 = t19)) = true then some false else ((m_p_same_walk letters other one).bind fun t20 => (reprO (PyData.bool t20)).bind fun t21 => (reprO (PyData.bool false)).bind fun t22 => some (decide (t21 = t22))))))))))
/-- law -/
def m_l_law (script : (List Int)) : Option Bool :=
  ((rngO 0 (maxI 1 (minI 3 (script.length : Int)))).bind fun t1 => ((lpR (fun (s2 : Unit) (k_3 : Int) => (((m_l_well script k_3).bind fun t7 => ((m_l_pick t7 4).bind fun t8 => ((rngO 0 2).bind fun t10 => ((lp (fun (s11 : ((List (List ((List Int) × Int))) × (List Int))) (turn12 : Int) => ((m_l_pick s11.2 4).bind fun t16 => (if (decide (t16.1 = 0)) = true then ((m_l_long t16.2 (1 + t8.1)).bind fun t17 => some (t17.1, t17.2)) else ((m_l_short t16.2 (1 + t8.1) 6).bind fun t18 => some (t18.1, t18.2))).bind fun t19 => (appO s11.1 t19.1).bind fun t20 => ((idx t20 (-1)).bind fun t21 => (m_l_beside t19.2 (1 + t8.1) t21).bind fun t22 => (appO t20 t22.1).bind fun t23 => some (t23, t22.2)))) t10 (([] : (List (List ((List Int) × Int)))), t8.2)).bind fun f13 => ((lcO (β := (List Int)) (fun (short_here25 : (List ((List Int) × Int))) => ((m_l_out short_here25).bind fun t27 => some t27)) f13.1).bind fun t28 => ((lpR (fun (s29 : (List Int)) (x30 : (Int × (List ((List Int) × Int)))) => (((idx t28 x30.1).bind fun t34 => ((m_p_is_short (1 + t8.1) x30.2).bind fun t35 => (if (!decide (t35 = true)) = true then some true else ((m_p_is_short (1 + t8.1) x30.2).bind fun t36 => some (!decide (t36 = true)))).bind fun t37 => (if t37 = true then some (Step.ret false) else ((m_p_short_length (1 + t8.1) x30.2).bind fun t38 => (reprO (PyData.int t38)).bind fun t39 => (reprO (PyData.int (t34.length : Int))).bind fun t40 => (if (!decide (t39 = t40)) = true then some (Step.ret false) else ((if (decide (0 < (t34.length : Int))) = true then ((m_l_steps_right s29 (1 + t8.1) x30.2 t34).bind fun t41 => some ((!t41.1), t41.2)) else some (false, s29)).bind fun t42 => (if t42.1 = true then some (Step.ret false) else ((m_l_pair_right (1 + t8.1) x30.2 x30.2 none).bind fun t43 => (if (!t43) = true then some (Step.ret false) else ((idx f13.1 (maxI 0 (x30.1 - 1))).bind fun t44 => (idx t28 (maxI 0 (x30.1 - 1))).bind fun t45 => (m_l_unlike t45 t34).bind fun t46 => (m_l_pair_right (1 + t8.1) t44 x30.2 t46).bind fun t47 => (if (!t47) = true then some (Step.ret false) else some (Step.go t42.2)))))))))))) : Option (Step Bool (List Int)))) (enum f13.1) f13.2).bind fun f31o => Sum.elim (fun r60 => some (Step.ret r60)) (fun f31 => ((lpR (fun (s49 : Unit) (x50 : ((List ((List Int) × Int)) × (List Int))) => (((m_p_short_length (1 + t8.1) x50.1).bind fun t54 => (reprO (PyData.int t54)).bind fun t55 => (reprO (PyData.int (x50.2.length : Int))).bind fun t56 => (if (!decide (t55 = t56)) = true then some (Step.ret false) else some (Step.go ()))) : Option (Step Bool Unit))) (List.zip f13.1 t28) ()).bind fun f51o => Sum.elim (fun r58 => some (Step.ret r58)) (fun f51 => some (Step.go ())) f51o)) f31o)))))) : Option (Step Bool Unit))) t1 ()).bind fun f4o => Sum.elim (fun r64 => some r64) (fun f4 => some true) f4o))
end L26
namespace L26
open PySem PySem.Spec PyProof.Rows L2 Z
def top (i : Nat) : Stmt := PySem.Challenge.pw_walkclubs_k26_short_writings_written_out.main.body.getD i (.Pass ⟨0, 0, 0, 0⟩)
/-! ### straightened -/
abbrev s_p_straightened : Stmt := top 6
def N_p_straightened : List Str := ["walk", "found", "step"]
def V_p_straightened : List Str := ["walk", "found", "step"]
def G_p_straightened : List Str := ["len", "tuple"]
theorem sc_p_straightened : FnScope N_p_straightened ["walk"] (defScope s_p_straightened) := ⟨rfl, rfl, rfl, by decide +kernel, rfl, by decide +kernel, by decide +kernel⟩
abbrev sp_p_straightened (K : PySem.W.Frag) : Sp := spZ (α := (List Int)) (β := (List Int)) (fun a => [(dat (PyData.tuple (List.map PyData.int a)))]) (fun a => []) (fun a => m_p_straightened a) (fun a b => (dat (PyData.tuple (List.map PyData.int b)))) (fun a b => [])
set_option maxHeartbeats 4000000 in
theorem body_p_straightened {X : Cx} (hsc : X.env.scope = defScope s_p_straightened) (B : Bd X N_p_straightened V_p_straightened G_p_straightened 0) (T : Bt X V_p_straightened) (g_len : X.mg "len" = none) (g_tuple : X.mg "tuple" = none) (walk : (List Int)) (b : (List Int)) (F0 : Hp) (os : Os) (D : Ends) (hm : m_p_straightened walk = some b) (R : RetZ F0 (os) (dat (PyData.tuple (List.map PyData.int b))) D) :
    SX X [sl (dat (PyData.tuple (List.map PyData.int walk))), un, un] (os) F0 (defBody s_p_straightened) D := by
  unfold m_p_straightened at hm
  refine sx_asgN (i := 1) (vi := 1) (n := ol (List.map PyData.int ([] : (List Int)))) B T rfl rfl (en_lst (ds := []) ax_nil) (fun q_found0 => ?_)
  obtain ⟨f3, h11, hm⟩ := bnd hm
  refine sx_for (c := anyOs) (fun (s1 : (List Int)) (step2 : Int) => ((if (decide (0 < (s1.length : Int))) = true then ((idx s1 (-1)).bind fun t6 => some (decide (t6 = (-step2)))) else some false).bind fun t7 => ((if t7 = true then ((popO s1).bind fun t8 => some t8.2) else ((appO s1 step2).bind fun t9 => some t9) : Option (List Int)).bind fun s10 => some s10))) (fun (s1 : (List Int)) (_ : Unit) => [sl (dat (PyData.tuple (List.map PyData.int walk))), sl (own q_found0), un]) (fun (s1 : (List Int)) (_ : Unit) => (q_found0, ol (List.map PyData.int s1)) :: os) B T (fun step2 => gx_name (i := 2) (vi := 2) (φ := (dat (PyData.int step2))) B T rfl rfl) ([] : (List Int)) () f3 h11 (ix_tup (enc := PyData.int) (ex_v (i := 0) (j := 0) B rfl rfl rfl) rdt_dat) ⟨.inl rfl, .inl rfl, .inl rfl, trivial⟩ (fun _ _ => trivial) (fun F5 e4 s1 _ step2 z12 hx hm => ?_) (fun _ => ?_)
  · clear h11
    obtain ⟨t7, h7, hm⟩ := bnd hm
    obtain ⟨s10, h_s10, hm⟩ := bnd hm
    refine sx_join [sl (dat (PyData.tuple (List.map PyData.int walk))), sl (own q_found0), sl (dat (PyData.int step2))] ((q_found0, ol (List.map PyData.int s10)) :: os) (?_) (fun Q => ?_)
    · clear h_s10
      obtain rfl := som hm
      exact sx_nil fun σ H a => ⟨(), (a.weak ⟨.inl rfl, .inl rfl, .inr rfl, trivial⟩)⟩
    · have hm := h_s10
      refine sx_if (WX.tx (wx_and (l := t7) (os2 := (q_found0, ol (List.map PyData.int s1)) :: os) (tx_cmp op_gt r2_gt (nomark _) (EX.to (ex_fn (j := 0) B rfl g_len (by decide +kernel) call_len_seq (rc_lenL (ds := List.map PyData.int s1) (rdl_own 0 rfl)) (ax_cons (ex_v (i := 1) (j := 1) B rfl rfl rfl) ax_nil)) (by rw [List.length_map])) ex_int) (fun hk => by (have hm := ifT h7 hk; obtain ⟨t6, h6, hm⟩ := bnd hm; obtain rfl := som hm; exact (wx_and1 (tx_cmp op_eq r2_eqI (nomark _) (ex_idxL (enc := PyData.int) h6 (rdl_own 0 rfl) (ex_v (i := 1) (j := 1) B rfl rfl rfl) (ex_neg ex_int)) (ex_neg (ex_v (i := 2) (j := 2) B rfl rfl rfl)))))) (fun hk => by (have hm := ifF h7 hk; obtain rfl := som hm; rfl)) (and_fix (fun hk => by (have hm := ifF h7 hk; obtain rfl := som hm; rfl))))) (fun hk => ?_) (fun hk => ?_)
      · have hm := ifT hm hk
        obtain ⟨t8, h8, hm⟩ := bnd hm
        refine sx_expr (ex_popO (enc := PyData.int) (j := 0) h8 (ex_v (i := 1) (j := 1) B rfl rfl rfl) rfl) ?_
        obtain rfl := som hm
        exact sx_fall Q rfl
      · have hm := ifF hm hk
        obtain ⟨t9, h9, hm⟩ := bnd hm
        refine sx_expr (ex_app (enc := PyData.int) (j := 0) (xs0 := s1) (xs := s1) (y := step2) h9 (ex_v (i := 1) (j := 1) B rfl rfl rfl) rfl (ex_v (i := 2) (j := 2) B rfl rfl rfl) rfl) ?_
        obtain rfl := som hm
        exact sx_fall Q rfl
  · skip
    refine sx_frz (j := 0) (i := 1) rfl rfl ?_
    obtain rfl := som hm
    exact sx_ret (ex_ty (j := 1) B rfl g_tuple (by decide +kernel) call_tuple_of (rc_tupL (ds := List.map PyData.int f3) rdl_dat) (ax_cons (ex_v (i := 1) (j := 1) B rfl rfl rfl) ax_nil)) (fun F H v e o c => R.rt F H v e o c)
theorem cal_p_straightened {P : Program} {w : World} {K : PySem.W.Frag} {mg : Str → Option Value} {base : Heap} {f : Addr} {fd : FuncData} (Fn : Fun K "straightened" "straightened" s_p_straightened f fd) (hmg : mg "straightened" = some (.ref f)) (hb : Binds K fd ["walk"] []) (g_len : mg "len" = none) (g_tuple : mg "tuple" = none) : Cal P w K mg base 1 "straightened" s_p_straightened ["walk"] (sp_p_straightened K) :=
  cal_Z (V := V_p_straightened) (Gs := G_p_straightened) (nl := 2) Fn sc_p_straightened (by decide +kernel) (by decide +kernel) hmg hb (fun _ => rfl) rfl fun _ _ _ _ _ _ _ a b F0 os D B T hm R => body_p_straightened rfl B T g_len g_tuple a b F0 os D hm R
/-! ### turned_back -/
abbrev s_p_turned_back : Stmt := top 7
def N_p_turned_back : List Str := ["walk", "step"]
def V_p_turned_back : List Str := ["walk"]
def G_p_turned_back : List Str := ["tuple"]
theorem sc_p_turned_back : FnScope N_p_turned_back ["walk"] (defScope s_p_turned_back) := ⟨rfl, rfl, rfl, by decide +kernel, rfl, by decide +kernel, by decide +kernel⟩
abbrev sp_p_turned_back (K : PySem.W.Frag) : Sp := spZ (α := (List Int)) (β := (List Int)) (fun a => [(dat (PyData.tuple (List.map PyData.int a)))]) (fun a => []) (fun a => m_p_turned_back a) (fun a b => (dat (PyData.tuple (List.map PyData.int b)))) (fun a b => [])
set_option maxHeartbeats 4000000 in
theorem body_p_turned_back {X : Cx} (hsc : X.env.scope = defScope s_p_turned_back) (B : Bd X N_p_turned_back V_p_turned_back G_p_turned_back 0) (T : Bt X V_p_turned_back) (g_tuple : X.mg "tuple" = none) (walk : (List Int)) (b : (List Int)) (F0 : Hp) (os : Os) (D : Ends) (hm : m_p_turned_back walk = some b) (R : RetZ F0 (os) (dat (PyData.tuple (List.map PyData.int b))) D) :
    SX X [sl (dat (PyData.tuple (List.map PyData.int walk))), un] (os) F0 (defBody s_p_turned_back) D := by
  unfold m_p_turned_back at hm
  obtain ⟨t3, h3, hm⟩ := bnd hm
  obtain rfl := som hm
  exact sx_ret (ex_ty (j := 0) B rfl g_tuple (by decide +kernel) call_tuple_of (rc_tupL (ds := List.map PyData.int t3) rdl_dat) (ax_cons (EN.ex (en_lc (lc_mk1 (j := 1) (vp := fun step1 => (dat (PyData.int step1))) (c := anyOs) (enc := PyData.int) (fun (_ : Unit) (step1 : Int) => some (some (-step1), ())) (fun (_ : Unit) (tl1 : Os) => tl1) () (t3) () B rfl rfl (by rw [B.hN, hsc]; decide +kernel) (by rw [hsc]; decide +kernel) (by decide) (lcT_ok h3) (ix_tup (enc := PyData.int) (ex_revT (enc := PyData.int) rdt_dat (ex_v (i := 0) (j := 0) B rfl rfl rfl)) rdt_dat) (fun _ _ => trivial) (fun _ _ _ => List.Perm.refl _) (fun _ step1 t tl1 hx hf => by (obtain rfl := som hf; exact ⟨true, _, fun X1 hX => by (have B1 := Bd.fam (W' := ["step"]) (G' := []) B hX (by (try rw [hsc]); decide +kernel); exact ⟨.nil, fun _ => ⟨_, rfl, (ex_neg (ex_v (i := 1) (j := 0) B1 rfl rfl rfl))⟩, fun h => Bool.noConfusion h⟩)⟩))))) ax_nil)) (fun F H v e o c => R.rt F H v e o c)
theorem cal_p_turned_back {P : Program} {w : World} {K : PySem.W.Frag} {mg : Str → Option Value} {base : Heap} {f : Addr} {fd : FuncData} (Fn : Fun K "turned_back" "turned_back" s_p_turned_back f fd) (hmg : mg "turned_back" = some (.ref f)) (hb : Binds K fd ["walk"] []) (g_tuple : mg "tuple" = none) : Cal P w K mg base 1 "turned_back" s_p_turned_back ["walk"] (sp_p_turned_back K) :=
  cal_Z (V := V_p_turned_back) (Gs := G_p_turned_back) (nl := 1) Fn sc_p_turned_back (by decide +kernel) (by decide +kernel) hmg hb (fun _ => rfl) rfl fun _ _ _ _ _ _ _ a b F0 os D B T hm R => body_p_turned_back rfl B T g_tuple a b F0 os D hm R
/-! ### is_integer -/
abbrev s_p_is_integer : Stmt := top 10
def N_p_is_integer : List Str := ["value"]
def V_p_is_integer : List Str := ["value"]
def G_p_is_integer : List Str := ["isinstance", "int", "bool"]
theorem sc_p_is_integer : FnScope N_p_is_integer ["value"] (defScope s_p_is_integer) := ⟨rfl, rfl, rfl, by decide +kernel, rfl, by decide +kernel, by decide +kernel⟩
abbrev sp_p_is_integer (K : PySem.W.Frag) : Sp := spZ (α := Int) (β := Bool) (fun a => [(dat (PyData.int a))]) (fun a => []) (fun a => m_p_is_integer a) (fun a b => (dat (PyData.bool b))) (fun a b => [])
set_option maxHeartbeats 4000000 in
theorem body_p_is_integer {X : Cx} (hsc : X.env.scope = defScope s_p_is_integer) (B : Bd X N_p_is_integer V_p_is_integer G_p_is_integer 0) (T : Bt X V_p_is_integer) (g_isinstance : X.mg "isinstance" = none) (g_int : X.mg "int" = none) (g_bool : X.mg "bool" = none) (value : Int) (b : Bool) (F0 : Hp) (os : Os) (D : Ends) (hm : m_p_is_integer value = some b) (R : RetZ F0 (os) (dat (PyData.bool b)) D) :
    SX X [sl (dat (PyData.int value))] (os) F0 (defBody s_p_is_integer) D := by
  unfold m_p_is_integer at hm
  obtain rfl := som hm
  exact sx_ret (ex_and (ex_fn (j := 0) B rfl g_isinstance (by decide +kernel) call_isi (rc_isi (d := (PyData.int value)) (T := "int") (show kitB "int" "int" = some true by decide +kernel)) (ax_cons (ex_v (i := 0) (j := 0) B rfl rfl rfl) (ax_cons (ex_tyname (T := "int") (gi := 1) B rfl g_int (by decide +kernel)) ax_nil))) (fun _ => (ex_one (ex_not (ex_fn (j := 0) B rfl g_isinstance (by decide +kernel) call_isi (rc_isi (d := (PyData.int value)) (T := "bool") (show kitB "int" "bool" = some false by decide +kernel)) (ax_cons (ex_v (i := 0) (j := 0) B rfl rfl rfl) (ax_cons (ex_tyname (T := "bool") (gi := 2) B rfl g_bool (by decide +kernel)) ax_nil)))))) (fun _ => rfl) rfl) (fun F H v e o c => R.rt F H v e o c)
theorem cal_p_is_integer {P : Program} {w : World} {K : PySem.W.Frag} {mg : Str → Option Value} {base : Heap} {f : Addr} {fd : FuncData} (Fn : Fun K "is_integer" "is_integer" s_p_is_integer f fd) (hmg : mg "is_integer" = some (.ref f)) (hb : Binds K fd ["value"] []) (g_isinstance : mg "isinstance" = none) (g_int : mg "int" = none) (g_bool : mg "bool" = none) : Cal P w K mg base 1 "is_integer" s_p_is_integer ["value"] (sp_p_is_integer K) :=
  cal_Z (V := V_p_is_integer) (Gs := G_p_is_integer) (nl := 0) Fn sc_p_is_integer (by decide +kernel) (by decide +kernel) hmg hb (fun _ => rfl) rfl fun _ _ _ _ _ _ _ a b F0 os D B T hm R => body_p_is_integer rfl B T g_isinstance g_int g_bool a b F0 os D hm R
/-! ### is_letters -/
abbrev s_p_is_letters : Stmt := top 12
def N_p_is_letters : List Str := ["value"]
def V_p_is_letters : List Str := ["value"]
def G_p_is_letters : List Str := ["is_integer", "MOST_LETTERS"]
theorem sc_p_is_letters : FnScope N_p_is_letters ["value"] (defScope s_p_is_letters) := ⟨rfl, rfl, rfl, by decide +kernel, rfl, by decide +kernel, by decide +kernel⟩
abbrev sp_p_is_letters (K : PySem.W.Frag) : Sp := spZ (α := Int) (β := Bool) (fun a => [(dat (PyData.int a))]) (fun a => []) (fun a => m_p_is_letters a) (fun a b => (dat (PyData.bool b))) (fun a b => [])
set_option maxHeartbeats 4000000 in
theorem body_p_is_letters {X : Cx} (hsc : X.env.scope = defScope s_p_is_letters) (B : Bd X N_p_is_letters V_p_is_letters G_p_is_letters 1) (T : Bt X V_p_is_letters) {tk_MOST_LETTERS : Tok} (c_p_is_integer : Cal X.prog X.w X.K X.mg X.base 1 "is_integer" s_p_is_integer ["value"] (sp_p_is_integer X.K)) (g_MOST_LETTERS : X.mg "MOST_LETTERS" = some (.int 4 tk_MOST_LETTERS)) (value : Int) (b : Bool) (F0 : Hp) (os : Os) (D : Ends) (hm : m_p_is_letters value = some b) (R : RetZ F0 (os) (dat (PyData.bool b)) D) :
    SX X [sl (dat (PyData.int value))] (os) F0 (defBody s_p_is_letters) D := by
  unfold m_p_is_letters at hm
  obtain ⟨t1, h1, hm⟩ := bnd hm
  obtain rfl := som hm
  exact sx_ret (ex_and (ex_call (a := value) (b := t1) (gi := 0) (rest := os) B rfl c_p_is_integer (by decide) h1 (ax_cons (ex_v (i := 0) (j := 0) B rfl rfl rfl) ax_nil)) (fun _ => (ex_one (ex_chain op_le op_le r2_le r2_le (fun _ => rfl) ex_int (ex_v (i := 0) (j := 0) B rfl rfl rfl) (fun _ => (ex_g (j := 1) B rfl g_MOST_LETTERS))))) (fun _ => rfl) rfl) (fun F H v e o c => R.rt F H v e o c)
theorem cal_p_is_letters {P : Program} {w : World} {K : PySem.W.Frag} {mg : Str → Option Value} {base : Heap} {f : Addr} {fd : FuncData} (Fn : Fun K "is_letters" "is_letters" s_p_is_letters f fd) (hmg : mg "is_letters" = some (.ref f)) (hb : Binds K fd ["value"] []) {tk_MOST_LETTERS : Tok} (c_p_is_integer : Cal P w K mg base 1 "is_integer" s_p_is_integer ["value"] (sp_p_is_integer K)) (g_MOST_LETTERS : mg "MOST_LETTERS" = some (.int 4 tk_MOST_LETTERS)) : Cal P w K mg base 2 "is_letters" s_p_is_letters ["value"] (sp_p_is_letters K) :=
  cal_Z (V := V_p_is_letters) (Gs := G_p_is_letters) (nl := 0) Fn sc_p_is_letters (by decide +kernel) (by decide +kernel) hmg hb (fun _ => rfl) rfl fun _ _ _ _ _ _ _ a b F0 os D B T hm R => body_p_is_letters rfl B T c_p_is_integer g_MOST_LETTERS a b F0 os D hm R
/-! ### is_step -/
abbrev s_p_is_step : Stmt := top 13
def N_p_is_step : List Str := ["value", "letters"]
def V_p_is_step : List Str := ["value", "letters"]
def G_p_is_step : List Str := ["is_integer", "abs"]
theorem sc_p_is_step : FnScope N_p_is_step ["value", "letters"] (defScope s_p_is_step) := ⟨rfl, rfl, rfl, by decide +kernel, rfl, by decide +kernel, by decide +kernel⟩
abbrev sp_p_is_step (K : PySem.W.Frag) : Sp := spZ (α := (Int × Int)) (β := Bool) (fun a => [(dat (PyData.int a.1)), (dat (PyData.int a.2))]) (fun a => []) (fun a => m_p_is_step a.1 a.2) (fun a b => (dat (PyData.bool b))) (fun a b => [])
set_option maxHeartbeats 4000000 in
theorem body_p_is_step {X : Cx} (hsc : X.env.scope = defScope s_p_is_step) (B : Bd X N_p_is_step V_p_is_step G_p_is_step 1) (T : Bt X V_p_is_step) (c_p_is_integer : Cal X.prog X.w X.K X.mg X.base 1 "is_integer" s_p_is_integer ["value"] (sp_p_is_integer X.K)) (g_abs : X.mg "abs" = none) (value : Int) (letters : Int) (b : Bool) (F0 : Hp) (os : Os) (D : Ends) (hm : m_p_is_step value letters = some b) (R : RetZ F0 (os) (dat (PyData.bool b)) D) :
    SX X [sl (dat (PyData.int value)), sl (dat (PyData.int letters))] (os) F0 (defBody s_p_is_step) D := by
  unfold m_p_is_step at hm
  obtain ⟨t1, h1, hm⟩ := bnd hm
  obtain rfl := som hm
  exact sx_ret (ex_and (ex_call (a := value) (b := t1) (gi := 0) (rest := os) B rfl c_p_is_integer (by decide) h1 (ax_cons (ex_v (i := 0) (j := 0) B rfl rfl rfl) ax_nil)) (fun _ => (ex_one (ex_chain op_le op_le r2_le r2_le (fun _ => rfl) ex_int (ex_fn (j := 1) B rfl g_abs (by decide +kernel) call_abs rc_abs (ax_cons (ex_v (i := 0) (j := 0) B rfl rfl rfl) ax_nil)) (fun _ => (ex_v (i := 1) (j := 1) B rfl rfl rfl))))) (fun _ => rfl) rfl) (fun F H v e o c => R.rt F H v e o c)
theorem cal_p_is_step {P : Program} {w : World} {K : PySem.W.Frag} {mg : Str → Option Value} {base : Heap} {f : Addr} {fd : FuncData} (Fn : Fun K "is_step" "is_step" s_p_is_step f fd) (hmg : mg "is_step" = some (.ref f)) (hb : Binds K fd ["value", "letters"] []) (c_p_is_integer : Cal P w K mg base 1 "is_integer" s_p_is_integer ["value"] (sp_p_is_integer K)) (g_abs : mg "abs" = none) : Cal P w K mg base 2 "is_step" s_p_is_step ["value", "letters"] (sp_p_is_step K) :=
  cal_Z (V := V_p_is_step) (Gs := G_p_is_step) (nl := 0) Fn sc_p_is_step (by decide +kernel) (by decide +kernel) hmg hb (fun _ => rfl) rfl fun _ _ _ _ _ _ _ a b F0 os D B T hm R => body_p_is_step rfl B T c_p_is_integer g_abs a.1 a.2 b F0 os D hm R
/-! ### is_a_walk -/
abbrev s_p_is_a_walk : Stmt := top 14
def N_p_is_a_walk : List Str := ["value", "letters", "step"]
def V_p_is_a_walk : List Str := ["value", "letters"]
def G_p_is_a_walk : List Str := ["isinstance", "tuple", "all"]
theorem sc_p_is_a_walk : FnScope N_p_is_a_walk ["value", "letters"] (defScope s_p_is_a_walk) := ⟨rfl, rfl, rfl, by decide +kernel, rfl, by decide +kernel, by decide +kernel⟩
abbrev sp_p_is_a_walk (K : PySem.W.Frag) : Sp := spZ (α := ((List Int) × Int)) (β := Bool) (fun a => [(dat (PyData.tuple (List.map PyData.int a.1))), (dat (PyData.int a.2))]) (fun a => []) (fun a => m_p_is_a_walk a.1 a.2) (fun a b => (dat (PyData.bool b))) (fun a b => [])
set_option maxHeartbeats 4000000 in
theorem body_p_is_a_walk {X : Cx} (hsc : X.env.scope = defScope s_p_is_a_walk) (B : Bd X N_p_is_a_walk V_p_is_a_walk G_p_is_a_walk 2) (T : Bt X V_p_is_a_walk) (g_isinstance : X.mg "isinstance" = none) (g_tuple : X.mg "tuple" = none) (g_all : X.mg "all" = none) (c_p_is_step : Cal X.prog X.w X.K X.mg X.base 2 "is_step" s_p_is_step ["value", "letters"] (sp_p_is_step X.K)) (value : (List Int)) (letters : Int) (b : Bool) (F0 : Hp) (os : Os) (D : Ends) (hm : m_p_is_a_walk value letters = some b) (R : RetZ F0 (os) (dat (PyData.bool b)) D) :
    SX X [sl (dat (PyData.tuple (List.map PyData.int value))), sl (dat (PyData.int letters)), un] (os) F0 (defBody s_p_is_a_walk) D := by
  unfold m_p_is_a_walk at hm
  obtain ⟨t5, h5, hm⟩ := bnd hm
  obtain rfl := som hm
  exact sx_ret (ex_and (l := t5) (os2 := os) (ex_fn (j := 0) B rfl g_isinstance (by decide +kernel) call_isi (rc_isi (d := (PyData.tuple (List.map PyData.int value))) (T := "tuple") (show kitB "tuple" "tuple" = some true by decide +kernel)) (ax_cons (ex_v (i := 0) (j := 0) B rfl rfl rfl) (ax_cons (ex_tyname (T := "tuple") (gi := 1) B rfl g_tuple (by decide +kernel)) ax_nil))) (fun hk => by (have hm := ifT h5 hk; obtain ⟨t4, h4, hm⟩ := bnd hm; obtain rfl := som hm; exact (ex_one (ex_fn (j := 2) B rfl g_all (by decide +kernel) (cr_all B.calm) (rc_all rdl_dat) (ax_cons (EN.ex (en_lc (lc_mk1 (j := 2) (vp := fun step1 => (dat (PyData.int step1))) (c := anyOs) (enc := PyData.bool) (fun (_ : Unit) (step1 : Int) => ((fun (step1 : Int) => ((m_p_is_step step1 letters).bind fun t3 => some t3)) step1).map fun y => (some y, ())) (fun (_ : Unit) (tl1 : Os) => tl1) () (t4) () B rfl rfl (by rw [B.hN, hsc]; decide +kernel) (by rw [hsc]; decide +kernel) (by decide) (lcO_ok h4) (ix_tup (enc := PyData.int) (ex_v (i := 0) (j := 0) B rfl rfl rfl) rdt_dat) (fun _ _ => trivial) (fun _ _ _ => List.Perm.refl _) (fun _ step1 t tl1 hx hf => by (obtain ⟨y, hy, rfl⟩ := Option.map_eq_some_iff.mp hf; obtain ⟨t3, h3, hy⟩ := bnd hy; obtain rfl := som hy; exact ⟨true, _, fun X1 hX => by (have B1 := Bd.fam (W' := ["letters", "step"]) (G' := ["is_step"]) B hX (by (try rw [hsc]); decide +kernel); have c_p_is_step' := fam_cal hX c_p_is_step; exact ⟨.nil, fun _ => ⟨_, rfl, (ex_call (a := (step1, letters)) (b := t3) (gi := 0) (rest := tl1) B1 rfl c_p_is_step' (by decide) h3 (ax_cons (ex_v (i := 2) (j := 1) B1 rfl rfl rfl) (ax_cons (ex_v (i := 1) (j := 0) B1 rfl rfl rfl) ax_nil)))⟩, fun h => Bool.noConfusion h⟩)⟩))))) ax_nil))))) (fun hk => by (have hm := ifF h5 hk; obtain rfl := som hm; rfl)) (and_fix (fun hk => by (have hm := ifF h5 hk; obtain rfl := som hm; rfl)))) (fun F H v e o c => R.rt F H v e o c)
theorem cal_p_is_a_walk {P : Program} {w : World} {K : PySem.W.Frag} {mg : Str → Option Value} {base : Heap} {f : Addr} {fd : FuncData} (Fn : Fun K "is_a_walk" "is_a_walk" s_p_is_a_walk f fd) (hmg : mg "is_a_walk" = some (.ref f)) (hb : Binds K fd ["value", "letters"] []) (g_isinstance : mg "isinstance" = none) (g_tuple : mg "tuple" = none) (g_all : mg "all" = none) (c_p_is_step : Cal P w K mg base 2 "is_step" s_p_is_step ["value", "letters"] (sp_p_is_step K)) : Cal P w K mg base 3 "is_a_walk" s_p_is_a_walk ["value", "letters"] (sp_p_is_a_walk K) :=
  cal_Z (V := V_p_is_a_walk) (Gs := G_p_is_a_walk) (nl := 1) Fn sc_p_is_a_walk (by decide +kernel) (by decide +kernel) hmg hb (fun _ => rfl) rfl fun _ _ _ _ _ _ _ a b F0 os D B T hm R => body_p_is_a_walk rfl B T g_isinstance g_tuple g_all c_p_is_step a.1 a.2 b F0 os D hm R
/-! ### need_letters -/
abbrev s_p_need_letters : Stmt := top 15
def N_p_need_letters : List Str := ["letters"]
def V_p_need_letters : List Str := ["letters"]
def G_p_need_letters : List Str := ["is_letters", "InvalidLetters"]
theorem sc_p_need_letters : FnScope N_p_need_letters ["letters"] (defScope s_p_need_letters) := ⟨rfl, rfl, rfl, by decide +kernel, rfl, by decide +kernel, by decide +kernel⟩
abbrev sp_p_need_letters (K : PySem.W.Frag) : Sp := spZ (α := Int) (β := Unit) (fun a => [(dat (PyData.int a))]) (fun a => []) (fun a => m_p_need_letters a) (fun a b => (dat PyData.none)) (fun a b => [])
set_option maxHeartbeats 4000000 in
theorem body_p_need_letters {X : Cx} (hsc : X.env.scope = defScope s_p_need_letters) (B : Bd X N_p_need_letters V_p_need_letters G_p_need_letters 2) (T : Bt X V_p_need_letters) (c_p_is_letters : Cal X.prog X.w X.K X.mg X.base 2 "is_letters" s_p_is_letters ["value"] (sp_p_is_letters X.K)) (letters : Int) (b : Unit) (F0 : Hp) (os : Os) (D : Ends) (hm : m_p_need_letters letters = some b) (R : RetZ F0 (os) (dat PyData.none) D) :
    SX X [sl (dat (PyData.int letters))] (os) F0 (defBody s_p_need_letters) D := by
  unfold m_p_need_letters at hm
  obtain ⟨t1, h1, hm⟩ := bnd hm
  refine sx_if (tx_not (tx_val (ex_call (a := letters) (b := t1) (gi := 0) (rest := os) B rfl c_p_is_letters (by decide) h1 (ax_cons (ex_v (i := 0) (j := 0) B rfl rfl rfl) ax_nil)) (by intro _; rfl))) (fun hk => ?_) (fun hk => ?_)
  · have hm := ifT hm hk
    exact nomatch hm
  · have hm := ifF hm hk
    refine sx_fall ?_ rfl
    obtain rfl := som hm
    exact sx_end fun F σ H e o => R.nx σ H (R.rt F H .non e o (cl_dat .non))
theorem cal_p_need_letters {P : Program} {w : World} {K : PySem.W.Frag} {mg : Str → Option Value} {base : Heap} {f : Addr} {fd : FuncData} (Fn : Fun K "need_letters" "need_letters" s_p_need_letters f fd) (hmg : mg "need_letters" = some (.ref f)) (hb : Binds K fd ["letters"] []) (c_p_is_letters : Cal P w K mg base 2 "is_letters" s_p_is_letters ["value"] (sp_p_is_letters K)) : Cal P w K mg base 3 "need_letters" s_p_need_letters ["letters"] (sp_p_need_letters K) :=
  cal_Z (V := V_p_need_letters) (Gs := G_p_need_letters) (nl := 0) Fn sc_p_need_letters (by decide +kernel) (by decide +kernel) hmg hb (fun _ => rfl) rfl fun _ _ _ _ _ _ _ a b F0 os D B T hm R => body_p_need_letters rfl B T c_p_is_letters a b F0 os D hm R
/-! ### need_number -/
abbrev s_p_need_number : Stmt := top 16
def N_p_need_number : List Str := ["number", "low", "high"]
def V_p_need_number : List Str := ["number", "low", "high"]
def G_p_need_number : List Str := ["InvalidNumber"]
theorem sc_p_need_number : FnScope N_p_need_number ["number", "low", "high"] (defScope s_p_need_number) := ⟨rfl, rfl, rfl, by decide +kernel, rfl, by decide +kernel, by decide +kernel⟩
abbrev sp_p_need_number (K : PySem.W.Frag) : Sp := spZ (α := (Int × Int × Int)) (β := Unit) (fun a => [(dat (PyData.int a.1)), (dat (PyData.int a.2.1)), (dat (PyData.int a.2.2))]) (fun a => []) (fun a => m_p_need_number a.1 a.2.1 a.2.2) (fun a b => (dat PyData.none)) (fun a b => [])
set_option maxHeartbeats 4000000 in
theorem body_p_need_number {X : Cx} (hsc : X.env.scope = defScope s_p_need_number) (B : Bd X N_p_need_number V_p_need_number G_p_need_number 0) (T : Bt X V_p_need_number)  (number : Int) (low : Int) (high : Int) (b : Unit) (F0 : Hp) (os : Os) (D : Ends) (hm : m_p_need_number number low high = some b) (R : RetZ F0 (os) (dat PyData.none) D) :
    SX X [sl (dat (PyData.int number)), sl (dat (PyData.int low)), sl (dat (PyData.int high))] (os) F0 (defBody s_p_need_number) D := by
  unfold m_p_need_number at hm
  refine sx_if (WX.tx (wx_or (tx_cmp op_lt r2_lt (nomark _) (ex_v (i := 0) (j := 0) B rfl rfl rfl) (ex_v (i := 1) (j := 1) B rfl rfl rfl)) (fun _ => (wx_or1 (WX.tx (wx_and (tx_cmp op_notN (r2_notN (d := (PyData.int high)) (t := true) rfl) (nomark _) (ex_v (i := 2) (j := 2) B rfl rfl rfl) ex_none) (fun _ => (wx_and1 (tx_cmp op_gt r2_gt (nomark _) (ex_v (i := 0) (j := 0) B rfl rfl rfl) (ex_v (i := 2) (j := 2) B rfl rfl rfl)))) (fun _ => rfl) rfl)))) (fun _ => rfl) rfl)) (fun hk => ?_) (fun hk => ?_)
  · have hm := ifT hm hk
    exact nomatch hm
  · have hm := ifF hm hk
    refine sx_fall ?_ rfl
    obtain rfl := som hm
    exact sx_end fun F σ H e o => R.nx σ H (R.rt F H .non e o (cl_dat .non))
theorem cal_p_need_number {P : Program} {w : World} {K : PySem.W.Frag} {mg : Str → Option Value} {base : Heap} {f : Addr} {fd : FuncData} (Fn : Fun K "need_number" "need_number" s_p_need_number f fd) (hmg : mg "need_number" = some (.ref f)) (hb : Binds K fd ["number", "low", "high"] [])  : Cal P w K mg base 1 "need_number" s_p_need_number ["number", "low", "high"] (sp_p_need_number K) :=
  cal_Z (V := V_p_need_number) (Gs := G_p_need_number) (nl := 0) Fn sc_p_need_number (by decide +kernel) (by decide +kernel) hmg hb (fun _ => rfl) rfl fun _ _ _ _ _ _ _ a b F0 os D B T hm R => body_p_need_number rfl B T  a.1 a.2.1 a.2.2 b F0 os D hm R
/-! ### step_of -/
abbrev s_p_step_of : Stmt := top 18
def N_p_step_of : List Str := ["stretch", "place", "period", "begin", "_"]
def V_p_step_of : List Str := ["stretch", "place", "period", "begin", "_"]
def G_p_step_of : List Str := ["len"]
theorem sc_p_step_of : FnScope N_p_step_of ["stretch", "place"] (defScope s_p_step_of) := ⟨rfl, rfl, rfl, by decide +kernel, rfl, by decide +kernel, by decide +kernel⟩
abbrev sp_p_step_of (K : PySem.W.Frag) : Sp := spZ (α := ((Tri (List Int) Int Int) × Int)) (β := Int) (fun a => [(dat (PyData.tuple [(PyData.tuple (List.map PyData.int a.1.a)), (PyData.int a.1.b), (PyData.int a.1.c)])), (dat (PyData.int a.2))]) (fun a => []) (fun a => m_p_step_of a.1 a.2) (fun a b => (dat (PyData.int b))) (fun a b => [])
set_option maxHeartbeats 4000000 in
theorem body_p_step_of {X : Cx} (hsc : X.env.scope = defScope s_p_step_of) (B : Bd X N_p_step_of V_p_step_of G_p_step_of 0) (T : Bt X V_p_step_of) (g_len : X.mg "len" = none) (stretch : (Tri (List Int) Int Int)) (place : Int) (b : Int) (F0 : Hp) (os : Os) (D : Ends) (hm : m_p_step_of stretch place = some b) (R : RetZ F0 (os) (dat (PyData.int b)) D) :
    SX X [sl (dat (PyData.tuple [(PyData.tuple (List.map PyData.int stretch.a)), (PyData.int stretch.b), (PyData.int stretch.c)])), sl (dat (PyData.int place)), un, un, un] (os) F0 (defBody s_p_step_of) D := by
  unfold m_p_step_of at hm
  refine sx_unp (gx_triple B (gx_name (i := 2) (vi := 2) B T rfl rfl) (gx_name (i := 3) (vi := 3) B T rfl rfl) (gx_name (i := 4) (vi := 4) B T rfl rfl)) (ex_v (i := 0) (j := 0) B rfl rfl rfl) ?_
  obtain ⟨t1, h1, hm⟩ := bnd hm
  obtain ⟨t2, h2, hm⟩ := bnd hm
  obtain rfl := som hm
  exact sx_ret (ex_idxT (enc := PyData.int) h2 rdt_dat (ex_v (i := 2) (j := 2) B rfl rfl rfl) (ex_mod h1 (ex_add (ex_v (i := 3) (j := 3) B rfl rfl rfl) (ex_v (i := 1) (j := 1) B rfl rfl rfl)) (EX.to (ex_fn (j := 0) B rfl g_len (by decide +kernel) call_len_seq (rc_lenT (ds := List.map PyData.int stretch.a) rdt_dat) (ax_cons (ex_v (i := 2) (j := 2) B rfl rfl rfl) ax_nil)) (by rw [List.length_map])))) (fun F H v e o c => R.rt F H v e o c)
theorem cal_p_step_of {P : Program} {w : World} {K : PySem.W.Frag} {mg : Str → Option Value} {base : Heap} {f : Addr} {fd : FuncData} (Fn : Fun K "step_of" "step_of" s_p_step_of f fd) (hmg : mg "step_of" = some (.ref f)) (hb : Binds K fd ["stretch", "place"] []) (g_len : mg "len" = none) : Cal P w K mg base 1 "step_of" s_p_step_of ["stretch", "place"] (sp_p_step_of K) :=
  cal_Z (V := V_p_step_of) (Gs := G_p_step_of) (nl := 3) Fn sc_p_step_of (by decide +kernel) (by decide +kernel) hmg hb (fun _ => rfl) rfl fun _ _ _ _ _ _ _ a b F0 os D B T hm R => body_p_step_of rfl B T g_len a.1 a.2 b F0 os D hm R
/-! ### first_of -/
abbrev s_p_first_of : Stmt := top 19
def N_p_first_of : List Str := ["stretch", "many", "period", "begin", "_"]
def V_p_first_of : List Str := ["stretch", "many", "period", "begin", "_"]
def G_p_first_of : List Str := []
theorem sc_p_first_of : FnScope N_p_first_of ["stretch", "many"] (defScope s_p_first_of) := ⟨rfl, rfl, rfl, by decide +kernel, rfl, by decide +kernel, by decide +kernel⟩
abbrev sp_p_first_of (K : PySem.W.Frag) : Sp := spZ (α := ((Tri (List Int) Int Int) × Int)) (β := (Tri (List Int) Int Int)) (fun a => [(dat (PyData.tuple [(PyData.tuple (List.map PyData.int a.1.a)), (PyData.int a.1.b), (PyData.int a.1.c)])), (dat (PyData.int a.2))]) (fun a => []) (fun a => m_p_first_of a.1 a.2) (fun a b => (dat (PyData.tuple [(PyData.tuple (List.map PyData.int b.a)), (PyData.int b.b), (PyData.int b.c)]))) (fun a b => [])
set_option maxHeartbeats 4000000 in
theorem body_p_first_of {X : Cx} (hsc : X.env.scope = defScope s_p_first_of) (B : Bd X N_p_first_of V_p_first_of G_p_first_of 0) (T : Bt X V_p_first_of)  (stretch : (Tri (List Int) Int Int)) (many : Int) (b : (Tri (List Int) Int Int)) (F0 : Hp) (os : Os) (D : Ends) (hm : m_p_first_of stretch many = some b) (R : RetZ F0 (os) (dat (PyData.tuple [(PyData.tuple (List.map PyData.int b.a)), (PyData.int b.b), (PyData.int b.c)])) D) :
    SX X [sl (dat (PyData.tuple [(PyData.tuple (List.map PyData.int stretch.a)), (PyData.int stretch.b), (PyData.int stretch.c)])), sl (dat (PyData.int many)), un, un, un] (os) F0 (defBody s_p_first_of) D := by
  unfold m_p_first_of at hm
  refine sx_unp (gx_triple B (gx_name (i := 2) (vi := 2) B T rfl rfl) (gx_name (i := 3) (vi := 3) B T rfl rfl) (gx_name (i := 4) (vi := 4) B T rfl rfl)) (ex_v (i := 0) (j := 0) B rfl rfl rfl) ?_
  obtain rfl := som hm
  exact sx_ret (ex_tup (ds := [(PyData.tuple (List.map PyData.int stretch.a)), (PyData.int stretch.b), (PyData.int many)]) (hl := len_ok (n := 3) rfl) (ax_cons (ex_v (i := 2) (j := 2) B rfl rfl rfl) (ax_cons (ex_v (i := 3) (j := 3) B rfl rfl rfl) (ax_cons (ex_v (i := 1) (j := 1) B rfl rfl rfl) ax_nil)))) (fun F H v e o c => R.rt F H v e o c)
theorem cal_p_first_of {P : Program} {w : World} {K : PySem.W.Frag} {mg : Str → Option Value} {base : Heap} {f : Addr} {fd : FuncData} (Fn : Fun K "first_of" "first_of" s_p_first_of f fd) (hmg : mg "first_of" = some (.ref f)) (hb : Binds K fd ["stretch", "many"] [])  : Cal P w K mg base 1 "first_of" s_p_first_of ["stretch", "many"] (sp_p_first_of K) :=
  cal_Z (V := V_p_first_of) (Gs := G_p_first_of) (nl := 3) Fn sc_p_first_of (by decide +kernel) (by decide +kernel) hmg hb (fun _ => rfl) rfl fun _ _ _ _ _ _ _ a b F0 os D B T hm R => body_p_first_of rfl B T  a.1 a.2 b F0 os D hm R
/-! ### rest_of -/
abbrev s_p_rest_of : Stmt := top 20
def N_p_rest_of : List Str := ["stretch", "many", "period", "begin", "length"]
def V_p_rest_of : List Str := ["stretch", "many", "period", "begin", "length"]
def G_p_rest_of : List Str := ["len"]
theorem sc_p_rest_of : FnScope N_p_rest_of ["stretch", "many"] (defScope s_p_rest_of) := ⟨rfl, rfl, rfl, by decide +kernel, rfl, by decide +kernel, by decide +kernel⟩
abbrev sp_p_rest_of (K : PySem.W.Frag) : Sp := spZ (α := ((Tri (List Int) Int Int) × Int)) (β := (Tri (List Int) Int Int)) (fun a => [(dat (PyData.tuple [(PyData.tuple (List.map PyData.int a.1.a)), (PyData.int a.1.b), (PyData.int a.1.c)])), (dat (PyData.int a.2))]) (fun a => []) (fun a => m_p_rest_of a.1 a.2) (fun a b => (dat (PyData.tuple [(PyData.tuple (List.map PyData.int b.a)), (PyData.int b.b), (PyData.int b.c)]))) (fun a b => [])
set_option maxHeartbeats 4000000 in
theorem body_p_rest_of {X : Cx} (hsc : X.env.scope = defScope s_p_rest_of) (B : Bd X N_p_rest_of V_p_rest_of G_p_rest_of 0) (T : Bt X V_p_rest_of) (g_len : X.mg "len" = none) (stretch : (Tri (List Int) Int Int)) (many : Int) (b : (Tri (List Int) Int Int)) (F0 : Hp) (os : Os) (D : Ends) (hm : m_p_rest_of stretch many = some b) (R : RetZ F0 (os) (dat (PyData.tuple [(PyData.tuple (List.map PyData.int b.a)), (PyData.int b.b), (PyData.int b.c)])) D) :
    SX X [sl (dat (PyData.tuple [(PyData.tuple (List.map PyData.int stretch.a)), (PyData.int stretch.b), (PyData.int stretch.c)])), sl (dat (PyData.int many)), un, un, un] (os) F0 (defBody s_p_rest_of) D := by
  unfold m_p_rest_of at hm
  refine sx_unp (gx_triple B (gx_name (i := 2) (vi := 2) B T rfl rfl) (gx_name (i := 3) (vi := 3) B T rfl rfl) (gx_name (i := 4) (vi := 4) B T rfl rfl)) (ex_v (i := 0) (j := 0) B rfl rfl rfl) ?_
  obtain ⟨t1, h1, hm⟩ := bnd hm
  obtain rfl := som hm
  exact sx_ret (ex_tup (ds := [(PyData.tuple (List.map PyData.int stretch.a)), (PyData.int t1), (PyData.int (stretch.c - many))]) (hl := len_ok (n := 3) rfl) (ax_cons (ex_v (i := 2) (j := 2) B rfl rfl rfl) (ax_cons (ex_mod h1 (ex_add (ex_v (i := 3) (j := 3) B rfl rfl rfl) (ex_v (i := 1) (j := 1) B rfl rfl rfl)) (EX.to (ex_fn (j := 0) B rfl g_len (by decide +kernel) call_len_seq (rc_lenT (ds := List.map PyData.int stretch.a) rdt_dat) (ax_cons (ex_v (i := 2) (j := 2) B rfl rfl rfl) ax_nil)) (by rw [List.length_map]))) (ax_cons (ex_sub (ex_v (i := 4) (j := 4) B rfl rfl rfl) (ex_v (i := 1) (j := 1) B rfl rfl rfl)) ax_nil)))) (fun F H v e o c => R.rt F H v e o c)
theorem cal_p_rest_of {P : Program} {w : World} {K : PySem.W.Frag} {mg : Str → Option Value} {base : Heap} {f : Addr} {fd : FuncData} (Fn : Fun K "rest_of" "rest_of" s_p_rest_of f fd) (hmg : mg "rest_of" = some (.ref f)) (hb : Binds K fd ["stretch", "many"] []) (g_len : mg "len" = none) : Cal P w K mg base 1 "rest_of" s_p_rest_of ["stretch", "many"] (sp_p_rest_of K) :=
  cal_Z (V := V_p_rest_of) (Gs := G_p_rest_of) (nl := 3) Fn sc_p_rest_of (by decide +kernel) (by decide +kernel) hmg hb (fun _ => rfl) rfl fun _ _ _ _ _ _ _ a b F0 os D B T hm R => body_p_rest_of rfl B T g_len a.1 a.2 b F0 os D hm R
/-! ### back_of -/
abbrev s_p_back_of : Stmt := top 21
def N_p_back_of : List Str := ["stretch", "period", "begin", "length"]
def V_p_back_of : List Str := ["stretch", "period", "begin", "length"]
def G_p_back_of : List Str := ["turned_back", "len"]
theorem sc_p_back_of : FnScope N_p_back_of ["stretch"] (defScope s_p_back_of) := ⟨rfl, rfl, rfl, by decide +kernel, rfl, by decide +kernel, by decide +kernel⟩
abbrev sp_p_back_of (K : PySem.W.Frag) : Sp := spZ (α := (Tri (List Int) Int Int)) (β := (Tri (List Int) Int Int)) (fun a => [(dat (PyData.tuple [(PyData.tuple (List.map PyData.int a.a)), (PyData.int a.b), (PyData.int a.c)]))]) (fun a => []) (fun a => m_p_back_of a) (fun a b => (dat (PyData.tuple [(PyData.tuple (List.map PyData.int b.a)), (PyData.int b.b), (PyData.int b.c)]))) (fun a b => [])
set_option maxHeartbeats 4000000 in
theorem body_p_back_of {X : Cx} (hsc : X.env.scope = defScope s_p_back_of) (B : Bd X N_p_back_of V_p_back_of G_p_back_of 1) (T : Bt X V_p_back_of) (c_p_turned_back : Cal X.prog X.w X.K X.mg X.base 1 "turned_back" s_p_turned_back ["walk"] (sp_p_turned_back X.K)) (g_len : X.mg "len" = none) (stretch : (Tri (List Int) Int Int)) (b : (Tri (List Int) Int Int)) (F0 : Hp) (os : Os) (D : Ends) (hm : m_p_back_of stretch = some b) (R : RetZ F0 (os) (dat (PyData.tuple [(PyData.tuple (List.map PyData.int b.a)), (PyData.int b.b), (PyData.int b.c)])) D) :
    SX X [sl (dat (PyData.tuple [(PyData.tuple (List.map PyData.int stretch.a)), (PyData.int stretch.b), (PyData.int stretch.c)])), un, un, un] (os) F0 (defBody s_p_back_of) D := by
  unfold m_p_back_of at hm
  refine sx_unp (gx_triple B (gx_name (i := 1) (vi := 1) B T rfl rfl) (gx_name (i := 2) (vi := 2) B T rfl rfl) (gx_name (i := 3) (vi := 3) B T rfl rfl)) (ex_v (i := 0) (j := 0) B rfl rfl rfl) ?_
  obtain ⟨t1, h1, hm⟩ := bnd hm
  obtain ⟨t2, h2, hm⟩ := bnd hm
  obtain rfl := som hm
  exact sx_ret (ex_tup (ds := [(PyData.tuple (List.map PyData.int t1)), (PyData.int t2), (PyData.int stretch.c)]) (hl := len_ok (n := 3) rfl) (ax_cons (ex_call (a := stretch.a) (b := t1) (gi := 0) (rest := os) B rfl c_p_turned_back (by decide) h1 (ax_cons (ex_v (i := 1) (j := 1) B rfl rfl rfl) ax_nil)) (ax_cons (ex_mod h2 (ex_sub (ex_neg (ex_v (i := 2) (j := 2) B rfl rfl rfl)) (ex_v (i := 3) (j := 3) B rfl rfl rfl)) (EX.to (ex_fn (j := 1) B rfl g_len (by decide +kernel) call_len_seq (rc_lenT (ds := List.map PyData.int stretch.a) rdt_dat) (ax_cons (ex_v (i := 1) (j := 1) B rfl rfl rfl) ax_nil)) (by rw [List.length_map]))) (ax_cons (ex_v (i := 3) (j := 3) B rfl rfl rfl) ax_nil)))) (fun F H v e o c => R.rt F H v e o c)
theorem cal_p_back_of {P : Program} {w : World} {K : PySem.W.Frag} {mg : Str → Option Value} {base : Heap} {f : Addr} {fd : FuncData} (Fn : Fun K "back_of" "back_of" s_p_back_of f fd) (hmg : mg "back_of" = some (.ref f)) (hb : Binds K fd ["stretch"] []) (c_p_turned_back : Cal P w K mg base 1 "turned_back" s_p_turned_back ["walk"] (sp_p_turned_back K)) (g_len : mg "len" = none) : Cal P w K mg base 2 "back_of" s_p_back_of ["stretch"] (sp_p_back_of K) :=
  cal_Z (V := V_p_back_of) (Gs := G_p_back_of) (nl := 3) Fn sc_p_back_of (by decide +kernel) (by decide +kernel) hmg hb (fun _ => rfl) rfl fun _ _ _ _ _ _ _ a b F0 os D B T hm R => body_p_back_of rfl B T c_p_turned_back g_len a b F0 os D hm R
/-! ### common_beginning -/
abbrev s_p_common_beginning : Stmt := top 22
def N_p_common_beginning : List Str := ["one", "other", "most", "place"]
def V_p_common_beginning : List Str := ["one", "other", "most", "place"]
def G_p_common_beginning : List Str := ["min", "range", "len", "step_of"]
theorem sc_p_common_beginning : FnScope N_p_common_beginning ["one", "other"] (defScope s_p_common_beginning) := ⟨rfl, rfl, rfl, by decide +kernel, rfl, by decide +kernel, by decide +kernel⟩
abbrev sp_p_common_beginning (K : PySem.W.Frag) : Sp := spZ (α := ((Tri (List Int) Int Int) × (Tri (List Int) Int Int))) (β := Int) (fun a => [(dat (PyData.tuple [(PyData.tuple (List.map PyData.int a.1.a)), (PyData.int a.1.b), (PyData.int a.1.c)])), (dat (PyData.tuple [(PyData.tuple (List.map PyData.int a.2.a)), (PyData.int a.2.b), (PyData.int a.2.c)]))]) (fun a => []) (fun a => m_p_common_beginning a.1 a.2) (fun a b => (dat (PyData.int b))) (fun a b => [])
set_option maxHeartbeats 4000000 in
theorem body_p_common_beginning {X : Cx} (hsc : X.env.scope = defScope s_p_common_beginning) (B : Bd X N_p_common_beginning V_p_common_beginning G_p_common_beginning 1) (T : Bt X V_p_common_beginning) (g_min : X.mg "min" = none) (g_range : X.mg "range" = none) (g_len : X.mg "len" = none) (c_p_step_of : Cal X.prog X.w X.K X.mg X.base 1 "step_of" s_p_step_of ["stretch", "place"] (sp_p_step_of X.K)) (one : (Tri (List Int) Int Int)) (other : (Tri (List Int) Int Int)) (b : Int) (F0 : Hp) (os : Os) (D : Ends) (hm : m_p_common_beginning one other = some b) (R : RetZ F0 (os) (dat (PyData.int b)) D) :
    SX X [sl (dat (PyData.tuple [(PyData.tuple (List.map PyData.int one.a)), (PyData.int one.b), (PyData.int one.c)])), sl (dat (PyData.tuple [(PyData.tuple (List.map PyData.int other.a)), (PyData.int other.b), (PyData.int other.c)])), un, un] (os) F0 (defBody s_p_common_beginning) D := by
  unfold m_p_common_beginning at hm
  refine sx_asg (i := 2) (vi := 2) (φ := (dat (PyData.int (minI one.c other.c)))) B T rfl rfl (ex_fn (j := 0) B rfl g_min (by decide +kernel) (call_min2 B.calm) rc_min (ax_cons (ex_ixT rdt_dat (by rfl) (ex_v (i := 0) (j := 0) B rfl rfl rfl) ex_int) (ax_cons (ex_ixT rdt_dat (by rfl) (ex_v (i := 1) (j := 1) B rfl rfl rfl) ex_int) ax_nil))) ?_
  obtain ⟨t1, h1, hm⟩ := bnd hm
  obtain ⟨f4o, h9, hm⟩ := bnd hm
  refine sx_forR (c := anyOs) (fun (s2 : Unit) (place3 : Int) => (((m_p_step_of one place3).bind fun t7 => (m_p_step_of other place3).bind fun t8 => (if (!decide (t7 = t8)) = true then some (Step.ret place3) else some (Step.go ()))) : Option (Step Int Unit))) (fun (s2 : Unit) (_ : Unit) => [sl (dat (PyData.tuple [(PyData.tuple (List.map PyData.int one.a)), (PyData.int one.b), (PyData.int one.c)])), sl (dat (PyData.tuple [(PyData.tuple (List.map PyData.int other.a)), (PyData.int other.b), (PyData.int other.c)])), sl (dat (PyData.int (minI one.c other.c))), un]) (fun (s2 : Unit) (_ : Unit) => os) (fun (r : Int) v H => ∃ F, Same F0 F ∧ Ow F (os) H ∧ Cl (dat (PyData.int r)) F v) B T (fun place3 => gx_name (i := 3) (vi := 3) (φ := (dat (PyData.int place3))) B T rfl rfl) () () f4o h9 (ix_rng1 (gi := 1) B rfl g_range h1 (ex_fn (j := 0) B rfl g_min (by decide +kernel) (call_min2 B.calm) rc_min (ax_cons (ex_v (i := 2) (j := 2) B rfl rfl rfl) (ax_cons (ex_add (EX.to (ex_fn (j := 2) B rfl g_len (by decide +kernel) call_len_seq (rc_lenT (ds := List.map PyData.int one.a) rdt_dat) (ax_cons (ex_ixT rdt_dat (by rfl) (ex_v (i := 0) (j := 0) B rfl rfl rfl) ex_int) ax_nil)) (by rw [List.length_map])) (EX.to (ex_fn (j := 2) B rfl g_len (by decide +kernel) call_len_seq (rc_lenT (ds := List.map PyData.int other.a) rdt_dat) (ax_cons (ex_ixT rdt_dat (by rfl) (ex_v (i := 1) (j := 1) B rfl rfl rfl) ex_int) ax_nil)) (by rw [List.length_map]))) ax_nil)))) ⟨.inl rfl, .inl rfl, .inl rfl, .inl rfl, trivial⟩ (fun _ _ => trivial) (fun F6 e5 s2 _ place3 z11 hx hm2 => ?_) (fun f4 _ ho => ?_) (fun r10 v H ho hr => ?_)
  · clear hm h9
    have hm := hm2
    obtain ⟨t7, h7, hm⟩ := bnd hm
    obtain ⟨t8, h8, hm⟩ := bnd hm
    refine sx_if (tx_cmp op_ne r2_neI (nomark _) (ex_call (a := (one, place3)) (b := t7) (gi := 3) (rest := os) B rfl c_p_step_of (by decide) h7 (ax_cons (ex_v (i := 0) (j := 0) B rfl rfl rfl) (ax_cons (ex_v (i := 3) (j := 3) B rfl rfl rfl) ax_nil))) (ex_call (a := (other, place3)) (b := t8) (gi := 3) (rest := os) B rfl c_p_step_of (by decide) h8 (ax_cons (ex_v (i := 1) (j := 1) B rfl rfl rfl) (ax_cons (ex_v (i := 3) (j := 3) B rfl rfl rfl) ax_nil)))) (fun hk => ?_) (fun hk => ?_)
    · have hm := ifT hm hk
      exact sx_ret (ex_v (i := 3) (j := 3) B rfl rfl rfl) (fun F H v e o c => ⟨_, (som hm).symm, F, (e5.trans e), o, c⟩)
    · have hm := ifF hm hk
      refine sx_fall ?_ rfl
      exact sx_nil fun σ H a => ⟨_, (), (som hm).symm, (a.weak ⟨.inl rfl, .inl rfl, .inl rfl, .inr rfl, trivial⟩)⟩
  · cases ho
    have hm := elimR hm
    obtain rfl := som hm
    exact sx_ret (ex_v (i := 2) (j := 2) B rfl rfl rfl) (fun F H v e o c => R.rt F H v e o c)
  · cases ho
    have hm := elimL hm
    obtain rfl := som hm
    obtain ⟨F, e, o, c⟩ := hr
    exact R.rt F H v e o c
theorem cal_p_common_beginning {P : Program} {w : World} {K : PySem.W.Frag} {mg : Str → Option Value} {base : Heap} {f : Addr} {fd : FuncData} (Fn : Fun K "common_beginning" "common_beginning" s_p_common_beginning f fd) (hmg : mg "common_beginning" = some (.ref f)) (hb : Binds K fd ["one", "other"] []) (g_min : mg "min" = none) (g_range : mg "range" = none) (g_len : mg "len" = none) (c_p_step_of : Cal P w K mg base 1 "step_of" s_p_step_of ["stretch", "place"] (sp_p_step_of K)) : Cal P w K mg base 2 "common_beginning" s_p_common_beginning ["one", "other"] (sp_p_common_beginning K) :=
  cal_Z (V := V_p_common_beginning) (Gs := G_p_common_beginning) (nl := 2) Fn sc_p_common_beginning (by decide +kernel) (by decide +kernel) hmg hb (fun _ => rfl) rfl fun _ _ _ _ _ _ _ a b F0 os D B T hm R => body_p_common_beginning rfl B T g_min g_range g_len c_p_step_of a.1 a.2 b F0 os D hm R
/-! ### parted -/
abbrev s_p_parted : Stmt := top 23
def N_p_parted : List Str := ["walk", "many"]
def V_p_parted : List Str := ["walk", "many"]
def G_p_parted : List Str := ["len"]
theorem sc_p_parted : FnScope N_p_parted ["walk"] (defScope s_p_parted) := ⟨rfl, rfl, rfl, by decide +kernel, rfl, by decide +kernel, by decide +kernel⟩
abbrev sp_p_parted (K : PySem.W.Frag) : Sp := spZ (α := (List Int)) (β := ((List Int) × (List Int))) (fun a => [(dat (PyData.tuple (List.map PyData.int a)))]) (fun a => []) (fun a => m_p_parted a) (fun a b => (dat (PyData.tuple [(PyData.tuple (List.map PyData.int b.1)), (PyData.tuple (List.map PyData.int b.2))]))) (fun a b => [])
set_option maxHeartbeats 4000000 in
theorem body_p_parted {X : Cx} (hsc : X.env.scope = defScope s_p_parted) (B : Bd X N_p_parted V_p_parted G_p_parted 0) (T : Bt X V_p_parted) (g_len : X.mg "len" = none) (walk : (List Int)) (b : ((List Int) × (List Int))) (F0 : Hp) (os : Os) (D : Ends) (hm : m_p_parted walk = some b) (R : RetZ F0 (os) (dat (PyData.tuple [(PyData.tuple (List.map PyData.int b.1)), (PyData.tuple (List.map PyData.int b.2))])) D) :
    SX X [sl (dat (PyData.tuple (List.map PyData.int walk))), un] (os) F0 (defBody s_p_parted) D := by
  unfold m_p_parted at hm
  refine sx_asg (i := 1) (vi := 1) (φ := (dat (PyData.int 0))) B T rfl rfl ex_int ?_
  obtain ⟨f2o, h8, hm⟩ := bnd hm
  refine sx_while (fun (s1 : Int) => ((idx walk s1).bind fun t3 => (idx walk ((-1) - s1)).bind fun t4 => some (decide (t3 = (-t4))))) (fun (s1 : Int) => (some (Step.go (s1 + 1)) : Option (Step ((List Int) × (List Int)) Int))) (fun (s1 : Int) (_ : Unit) => [sl (dat (PyData.tuple (List.map PyData.int walk))), sl (dat (PyData.int s1))]) (fun (s1 : Int) (_ : Unit) => os) (fun (r : ((List Int) × (List Int))) v H => ∃ F, Same F0 F ∧ Ow F (os) H ∧ Cl (dat (PyData.tuple [(PyData.tuple (List.map PyData.int r.1)), (PyData.tuple (List.map PyData.int r.2))])) F v) T 1000 0 () f2o h8 ⟨.inl rfl, .inl rfl, trivial⟩ rfl (fun s1 _ b hm => by (obtain ⟨t3, h3, hm⟩ := bnd hm; obtain ⟨t4, h4, hm⟩ := bnd hm; obtain rfl := som hm; exact (tx_cmp op_eq r2_eqI (nomark _) (ex_idxT (enc := PyData.int) h3 rdt_dat (ex_v (i := 0) (j := 0) B rfl rfl rfl) (ex_v (i := 1) (j := 1) B rfl rfl rfl)) (ex_neg (ex_idxT (enc := PyData.int) h4 rdt_dat (ex_v (i := 0) (j := 0) B rfl rfl rfl) (ex_sub (ex_neg ex_int) (ex_v (i := 1) (j := 1) B rfl rfl rfl))))))) (fun F6 e5 s1 _ z9 _ hm => ?_) (fun f2 _ ho => ?_) (fun r7 v H ho hr => ?_)
  · clear h8
    refine sx_addI (i := 1) (vi := 1) B T rfl rfl rfl ex_int ?_
    exact sx_nil fun σ H a => ⟨_, (), (som hm).symm, (a.weak ⟨.inl rfl, .inl rfl, trivial⟩)⟩
  · cases ho
    have hm := elimR hm
    obtain rfl := som hm
    exact sx_ret (ex_tup (ds := [(PyData.tuple (List.map PyData.int (cut walk none (some f2)))), (PyData.tuple (List.map PyData.int (cut walk (some f2) (some ((walk.length : Int) - f2)))))]) (hl := len_ok (n := 2) rfl) (ax_cons (ex_cutT (enc := PyData.int) rdt_dat (ex_v (i := 0) (j := 0) B rfl rfl rfl) px_none (px_some (ex_v (i := 1) (j := 1) B rfl rfl rfl))) (ax_cons (ex_cutT (enc := PyData.int) rdt_dat (ex_v (i := 0) (j := 0) B rfl rfl rfl) (px_some (ex_v (i := 1) (j := 1) B rfl rfl rfl)) (px_some (ex_sub (EX.to (ex_fn (j := 0) B rfl g_len (by decide +kernel) call_len_seq (rc_lenT (ds := List.map PyData.int walk) rdt_dat) (ax_cons (ex_v (i := 0) (j := 0) B rfl rfl rfl) ax_nil)) (by rw [List.length_map])) (ex_v (i := 1) (j := 1) B rfl rfl rfl)))) ax_nil))) (fun F H v e o c => R.rt F H v e o c)
  · cases ho
    have hm := elimL hm
    cases hm
theorem cal_p_parted {P : Program} {w : World} {K : PySem.W.Frag} {mg : Str → Option Value} {base : Heap} {f : Addr} {fd : FuncData} (Fn : Fun K "parted" "parted" s_p_parted f fd) (hmg : mg "parted" = some (.ref f)) (hb : Binds K fd ["walk"] []) (g_len : mg "len" = none) : Cal P w K mg base 1 "parted" s_p_parted ["walk"] (sp_p_parted K) :=
  cal_Z (V := V_p_parted) (Gs := G_p_parted) (nl := 1) Fn sc_p_parted (by decide +kernel) (by decide +kernel) hmg hb (fun _ => rfl) rfl fun _ _ _ _ _ _ _ a b F0 os D B T hm R => body_p_parted rfl B T g_len a b F0 os D hm R
/-! ### stretches_of -/
abbrev s_p_stretches_of : Stmt := top 24
def N_p_stretches_of : List Str := ["walk", "times", "plain", "lead", "core", "found"]
def V_p_stretches_of : List Str := ["walk", "times", "plain", "lead", "core", "found"]
def G_p_stretches_of : List Str := ["straightened", "parted", "turned_back", "abs", "len"]
theorem sc_p_stretches_of : FnScope N_p_stretches_of ["walk", "times"] (defScope s_p_stretches_of) := ⟨rfl, rfl, rfl, by decide +kernel, rfl, by decide +kernel, by decide +kernel⟩
abbrev sp_p_stretches_of (K : PySem.W.Frag) : Sp := spZ (α := ((List Int) × Int)) (β := (List (Tri (List Int) Int Int))) (fun a => [(dat (PyData.tuple (List.map PyData.int a.1))), (dat (PyData.int a.2))]) (fun a => []) (fun a => m_p_stretches_of a.1 a.2) (fun a b => (dat (PyData.list (List.map (eP3 (eT PyData.int) PyData.int PyData.int) b)))) (fun a b => [])
set_option maxHeartbeats 4000000 in
theorem body_p_stretches_of {X : Cx} (hsc : X.env.scope = defScope s_p_stretches_of) (B : Bd X N_p_stretches_of V_p_stretches_of G_p_stretches_of 1) (T : Bt X V_p_stretches_of) (c_p_straightened : Cal X.prog X.w X.K X.mg X.base 1 "straightened" s_p_straightened ["walk"] (sp_p_straightened X.K)) (c_p_parted : Cal X.prog X.w X.K X.mg X.base 1 "parted" s_p_parted ["walk"] (sp_p_parted X.K)) (c_p_turned_back : Cal X.prog X.w X.K X.mg X.base 1 "turned_back" s_p_turned_back ["walk"] (sp_p_turned_back X.K)) (g_abs : X.mg "abs" = none) (g_len : X.mg "len" = none) (walk : (List Int)) (times : Int) (b : (List (Tri (List Int) Int Int))) (F0 : Hp) (os : Os) (D : Ends) (hm : m_p_stretches_of walk times = some b) (R : RetZ F0 (os) (dat (PyData.list (List.map (eP3 (eT PyData.int) PyData.int PyData.int) b))) D) :
    SX X [sl (dat (PyData.tuple (List.map PyData.int walk))), sl (dat (PyData.int times)), un, un, un, un] (os) F0 (defBody s_p_stretches_of) D := by
  unfold m_p_stretches_of at hm
  obtain ⟨t1, h1, hm⟩ := bnd hm
  refine sx_asg (i := 2) (vi := 2) (φ := (dat (PyData.tuple (List.map PyData.int t1)))) B T rfl rfl (ex_call (a := walk) (b := t1) (gi := 0) (rest := os) B rfl c_p_straightened (by decide) h1 (ax_cons (ex_v (i := 0) (j := 0) B rfl rfl rfl) ax_nil)) ?_
  refine sx_if (tx_eqR (e := (eT PyData.int)) (x := t1) (y := ([] : (List Int))) B (eqv_tup eqv_int) (sh_tup sh_int) (by decide) rdx_dat rdx_dat (ex_v (i := 2) (j := 2) B rfl rfl rfl) (ex_tup (ds := []) ax_nil)) (fun hk => ?_) (fun hk => ?_)
  · have hm := ifT hm hk
    obtain rfl := som hm
    exact sx_ret (EN.ex (en_lst (ds := []) ax_nil)) (fun F H v e o c => R.rt F H v e o c)
  · have hm := ifF hm hk
    refine sx_fall ?_ rfl
    obtain ⟨t2, h2, hm⟩ := bnd hm
    refine sx_unp (gx_pair B (gx_name (i := 3) (vi := 3) B T rfl rfl) (gx_name (i := 4) (vi := 4) B T rfl rfl)) (ex_call (a := t1) (b := t2) (gi := 1) (rest := os) B rfl c_p_parted (by decide) h2 (ax_cons (ex_v (i := 2) (j := 2) B rfl rfl rfl) ax_nil)) ?_
    obtain ⟨s4, h_s4, hm⟩ := bnd hm
    refine sx_join [sl (dat (PyData.tuple (List.map PyData.int walk))), sl (dat (PyData.int times)), sl (dat (PyData.tuple (List.map PyData.int t1))), sl (dat (PyData.tuple (List.map PyData.int t2.1))), sl (dat (PyData.tuple (List.map PyData.int s4))), un] (os) (?_) (fun Q => ?_)
    · clear h_s4
      obtain ⟨t5, h5, hm⟩ := bnd hm
      refine sx_asg (i := 5) (vi := 5) (φ := (dat (PyData.list (List.map (eP3 (eT PyData.int) PyData.int PyData.int) ([(Tri.mk s4 0 t5)]))))) B T rfl rfl (EN.ex (en_lst (ds := [(PyData.tuple [(PyData.tuple (List.map PyData.int (Tri.mk s4 0 t5).a)), (PyData.int (Tri.mk s4 0 t5).b), (PyData.int (Tri.mk s4 0 t5).c)])]) (hl := len_ok (n := 1) rfl) (ax_cons (ex_tup (ds := [(PyData.tuple (List.map PyData.int s4)), (PyData.int 0), (PyData.int t5)]) (hl := len_ok (n := 3) rfl) (ax_cons (ex_v (i := 4) (j := 4) B rfl rfl rfl) (ax_cons ex_int (ax_cons (ex_mulW h5 (ex_fn (j := 3) B rfl g_abs (by decide +kernel) call_abs rc_abs (ax_cons (ex_v (i := 1) (j := 1) B rfl rfl rfl) ax_nil)) (EX.to (ex_fn (j := 4) B rfl g_len (by decide +kernel) call_len_seq (rc_lenT (ds := List.map PyData.int s4) rdt_dat) (ax_cons (ex_v (i := 4) (j := 4) B rfl rfl rfl) ax_nil)) (by rw [List.length_map]))) ax_nil)))) ax_nil))) ?_
      obtain ⟨s10, h_s10, hm⟩ := bnd hm
      refine sx_join [sl (dat (PyData.tuple (List.map PyData.int walk))), sl (dat (PyData.int times)), sl (dat (PyData.tuple (List.map PyData.int t1))), sl (dat (PyData.tuple (List.map PyData.int t2.1))), sl (dat (PyData.tuple (List.map PyData.int s4))), sl (dat (PyData.list (List.map (eP3 (eT PyData.int) PyData.int PyData.int) s10)))] (os) (?_) (fun Q => ?_)
      · clear h_s10
        obtain rfl := som hm
        exact sx_ret (ex_v (i := 5) (j := 5) B rfl rfl rfl) (fun F H v e o c => R.rt F H v e o c)
      · have hm := h_s10
        refine sx_if (tx_neR (e := (eT PyData.int)) (x := t2.1) (y := ([] : (List Int))) B (eqv_tup eqv_int) (sh_tup sh_int) (by decide) rdx_dat rdx_dat (ex_v (i := 3) (j := 3) B rfl rfl rfl) (ex_tup (ds := []) ax_nil)) (fun hk => ?_) (fun hk => ?_)
        · have hm := ifT hm hk
          obtain ⟨t6, h6, hm⟩ := bnd hm
          obtain ⟨t7, h7, hm⟩ := bnd hm
          obtain ⟨found8, h9, hm⟩ := bnd hm
          have h9 := som h9
          refine sx_asg (i := 5) (vi := 5) (φ := (dat (PyData.list (List.map (eP3 (eT PyData.int) PyData.int PyData.int) found8)))) B T rfl rfl (EX.to (EN.ex (en_lst (ds := [(PyData.tuple [(PyData.tuple (List.map PyData.int (Tri.mk t2.1 0 (t2.1.length : Int)).a)), (PyData.int (Tri.mk t2.1 0 (t2.1.length : Int)).b), (PyData.int (Tri.mk t2.1 0 (t2.1.length : Int)).c)]), (PyData.tuple [(PyData.tuple (List.map PyData.int t6.a)), (PyData.int t6.b), (PyData.int t6.c)]), (PyData.tuple [(PyData.tuple (List.map PyData.int (Tri.mk t7 0 (t2.1.length : Int)).a)), (PyData.int (Tri.mk t7 0 (t2.1.length : Int)).b), (PyData.int (Tri.mk t7 0 (t2.1.length : Int)).c)])]) (hl := len_ok (n := 3) rfl) (ax_cons (ex_tup (ds := [(PyData.tuple (List.map PyData.int t2.1)), (PyData.int 0), (PyData.int (t2.1.length : Int))]) (hl := len_ok (n := 3) rfl) (ax_cons (ex_v (i := 3) (j := 3) B rfl rfl rfl) (ax_cons ex_int (ax_cons (EX.to (ex_fn (j := 4) B rfl g_len (by decide +kernel) call_len_seq (rc_lenT (ds := List.map PyData.int t2.1) rdt_dat) (ax_cons (ex_v (i := 3) (j := 3) B rfl rfl rfl) ax_nil)) (by rw [List.length_map])) ax_nil)))) (ax_cons (ex_idxL (enc := (eP3 (eT PyData.int) PyData.int PyData.int)) h6 rdl_dat (ex_v (i := 5) (j := 5) B rfl rfl rfl) ex_int) (ax_cons (ex_tup (ds := [(PyData.tuple (List.map PyData.int t7)), (PyData.int 0), (PyData.int (t2.1.length : Int))]) (hl := len_ok (n := 3) rfl) (ax_cons (ex_call (a := t2.1) (b := t7) (gi := 2) (rest := os) B rfl c_p_turned_back (by decide) h7 (ax_cons (ex_v (i := 3) (j := 3) B rfl rfl rfl) ax_nil)) (ax_cons ex_int (ax_cons (EX.to (ex_fn (j := 4) B rfl g_len (by decide +kernel) call_len_seq (rc_lenT (ds := List.map PyData.int t2.1) rdt_dat) (ax_cons (ex_v (i := 3) (j := 3) B rfl rfl rfl) ax_nil)) (by rw [List.length_map])) ax_nil)))) ax_nil))))) (congrArg (fun z_ => (PyData.list (List.map (eP3 (eT PyData.int) PyData.int PyData.int) z_))) h9)) ?_
          obtain rfl := som hm
          exact sx_fall Q rfl
        · have hm := ifF hm hk
          obtain rfl := som hm
          exact sx_fall Q rfl
    · have hm := h_s4
      refine sx_if (tx_cmp op_lt r2_lt (nomark _) (ex_v (i := 1) (j := 1) B rfl rfl rfl) ex_int) (fun hk => ?_) (fun hk => ?_)
      · have hm := ifT hm hk
        obtain ⟨t3, h3, hm⟩ := bnd hm
        refine sx_asg (i := 4) (vi := 4) (φ := (dat (PyData.tuple (List.map PyData.int t3)))) B T rfl rfl (ex_call (a := t2.2) (b := t3) (gi := 2) (rest := os) B rfl c_p_turned_back (by decide) h3 (ax_cons (ex_v (i := 4) (j := 4) B rfl rfl rfl) ax_nil)) ?_
        obtain rfl := som hm
        exact sx_fall Q rfl
      · have hm := ifF hm hk
        obtain rfl := som hm
        exact sx_fall Q rfl
theorem cal_p_stretches_of {P : Program} {w : World} {K : PySem.W.Frag} {mg : Str → Option Value} {base : Heap} {f : Addr} {fd : FuncData} (Fn : Fun K "stretches_of" "stretches_of" s_p_stretches_of f fd) (hmg : mg "stretches_of" = some (.ref f)) (hb : Binds K fd ["walk", "times"] []) (c_p_straightened : Cal P w K mg base 1 "straightened" s_p_straightened ["walk"] (sp_p_straightened K)) (c_p_parted : Cal P w K mg base 1 "parted" s_p_parted ["walk"] (sp_p_parted K)) (c_p_turned_back : Cal P w K mg base 1 "turned_back" s_p_turned_back ["walk"] (sp_p_turned_back K)) (g_abs : mg "abs" = none) (g_len : mg "len" = none) : Cal P w K mg base 2 "stretches_of" s_p_stretches_of ["walk", "times"] (sp_p_stretches_of K) :=
  cal_Z (V := V_p_stretches_of) (Gs := G_p_stretches_of) (nl := 4) Fn sc_p_stretches_of (by decide +kernel) (by decide +kernel) hmg hb (fun _ => rfl) rfl fun _ _ _ _ _ _ _ a b F0 os D B T hm R => body_p_stretches_of rfl B T c_p_straightened c_p_parted c_p_turned_back g_abs g_len a.1 a.2 b F0 os D hm R
/-! ### lay -/
abbrev s_p_lay : Stmt := top 25
def N_p_lay : List Str := ["done", "stretch", "left", "last", "many"]
def V_p_lay : List Str := ["done", "stretch", "left", "last", "many"]
def G_p_lay : List Str := ["len", "common_beginning", "back_of", "rest_of", "first_of"]
theorem sc_p_lay : FnScope N_p_lay ["done", "stretch"] (defScope s_p_lay) := ⟨rfl, rfl, rfl, by decide +kernel, rfl, by decide +kernel, by decide +kernel⟩
abbrev sp_p_lay (K : PySem.W.Frag) : Sp := spZ (α := (Addr × (List (Tri (List Int) Int Int)) × (Tri (List Int) Int Int))) (β := (Unit × (List (Tri (List Int) Int Int)))) (fun a => [own a.1, (dat (PyData.tuple [(PyData.tuple (List.map PyData.int a.2.2.a)), (PyData.int a.2.2.b), (PyData.int a.2.2.c)]))]) (fun a => (a.1, ol (List.map (eP3 (eT PyData.int) PyData.int PyData.int) a.2.1)) :: []) (fun a => m_p_lay a.2.1 a.2.2) (fun a b => (dat PyData.none)) (fun a b => (a.1, ol (List.map (eP3 (eT PyData.int) PyData.int PyData.int) b.2)) :: [])
set_option maxHeartbeats 4000000 in
theorem body_p_lay {X : Cx} (hsc : X.env.scope = defScope s_p_lay) (B : Bd X N_p_lay V_p_lay G_p_lay 2) (T : Bt X V_p_lay) (g_len : X.mg "len" = none) (c_p_common_beginning : Cal X.prog X.w X.K X.mg X.base 2 "common_beginning" s_p_common_beginning ["one", "other"] (sp_p_common_beginning X.K)) (c_p_back_of : Cal X.prog X.w X.K X.mg X.base 2 "back_of" s_p_back_of ["stretch"] (sp_p_back_of X.K)) (c_p_rest_of : Cal X.prog X.w X.K X.mg X.base 1 "rest_of" s_p_rest_of ["stretch", "many"] (sp_p_rest_of X.K)) (c_p_first_of : Cal X.prog X.w X.K X.mg X.base 1 "first_of" s_p_first_of ["stretch", "many"] (sp_p_first_of X.K)) (q_done : Addr) (w_done : (List (Tri (List Int) Int Int))) (stretch : (Tri (List Int) Int Int)) (b : (Unit × (List (Tri (List Int) Int Int)))) (F0 : Hp) (os : Os) (D : Ends) (hm : m_p_lay w_done stretch = some b) (R : RetZ F0 ((q_done, ol (List.map (eP3 (eT PyData.int) PyData.int PyData.int) b.2)) :: os) (dat PyData.none) D) :
    SX X [sl (own q_done), sl (dat (PyData.tuple [(PyData.tuple (List.map PyData.int stretch.a)), (PyData.int stretch.b), (PyData.int stretch.c)])), un, un, un] ((q_done, ol (List.map (eP3 (eT PyData.int) PyData.int PyData.int) w_done)) :: os) F0 (defBody s_p_lay) D := by
  unfold m_p_lay at hm
  refine sx_asg (i := 2) (vi := 2) (φ := (dat (PyData.tuple [(PyData.tuple (List.map PyData.int stretch.a)), (PyData.int stretch.b), (PyData.int stretch.c)]))) B T rfl rfl (ex_v (i := 1) (j := 1) B rfl rfl rfl) ?_
  obtain ⟨f2o, h14, hm⟩ := bnd hm
  refine sx_while (fun (s1 : ((Tri (List Int) Int Int) × (List (Tri (List Int) Int Int)))) => some ((decide (0 < s1.1.c)) && (decide (0 < (s1.2.length : Int))))) (fun (s1 : ((Tri (List Int) Int Int) × (List (Tri (List Int) Int Int)))) => (((popO s1.2).bind fun t5 => ((m_p_back_of t5.1).bind fun t6 => (m_p_common_beginning t6 s1.1).bind fun t7 => ((m_p_rest_of s1.1 t7).bind fun t8 => (if (decide (t7 < t5.1.c)) = true then ((m_p_first_of t5.1 (t5.1.c - t7)).bind fun t9 => (appO t5.2 t9).bind fun t10 => some (Step.brk (t8, t10))) else some (Step.go (t8, t5.2)))))) : Option (Step (Unit × (List (Tri (List Int) Int Int))) ((Tri (List Int) Int Int) × (List (Tri (List Int) Int Int)))))) (fun (s1 : ((Tri (List Int) Int Int) × (List (Tri (List Int) Int Int)))) (_ : Unit) => [sl (own q_done), sl (dat (PyData.tuple [(PyData.tuple (List.map PyData.int stretch.a)), (PyData.int stretch.b), (PyData.int stretch.c)])), sl (dat (PyData.tuple [(PyData.tuple (List.map PyData.int s1.1.a)), (PyData.int s1.1.b), (PyData.int s1.1.c)])), un, un]) (fun (s1 : ((Tri (List Int) Int Int) × (List (Tri (List Int) Int Int)))) (_ : Unit) => (q_done, ol (List.map (eP3 (eT PyData.int) PyData.int PyData.int) s1.2)) :: os) (fun (r : (Unit × (List (Tri (List Int) Int Int)))) v H => ∃ F, Same F0 F ∧ Ow F ((q_done, ol (List.map (eP3 (eT PyData.int) PyData.int PyData.int) r.2)) :: os) H ∧ Cl (dat PyData.none) F v) T 1000 (stretch, w_done) () f2o h14 ⟨.inl rfl, .inl rfl, .inl rfl, .inl rfl, .inl rfl, trivial⟩ rfl (fun s1 _ b hm => by (obtain rfl := som hm; exact (WX.tx (wx_and (tx_cmp op_gt r2_gt (nomark _) (ex_ixT rdt_dat (by rfl) (ex_v (i := 2) (j := 2) B rfl rfl rfl) ex_int) ex_int) (fun _ => (wx_and1 (tx_cmp op_gt r2_gt (nomark _) (EX.to (ex_fn (j := 0) B rfl g_len (by decide +kernel) call_len_seq (rc_lenL (ds := List.map (eP3 (eT PyData.int) PyData.int PyData.int) s1.2) (rdl_own 0 rfl)) (ax_cons (ex_v (i := 0) (j := 0) B rfl rfl rfl) ax_nil)) (by rw [List.length_map])) ex_int))) (fun _ => rfl) rfl)))) (fun F4 e3 s1 _ z15 _ hm => ?_) (fun f2 _ ho => ?_) (fun r13 v H ho hr => ?_)
  · clear h14
    obtain ⟨t5, h5, hm⟩ := bnd hm
    refine sx_asg (i := 3) (vi := 3) (φ := (dat (PyData.tuple [(PyData.tuple (List.map PyData.int t5.1.a)), (PyData.int t5.1.b), (PyData.int t5.1.c)]))) B T rfl rfl (ex_popO (enc := (eP3 (eT PyData.int) PyData.int PyData.int)) (j := 0) h5 (ex_v (i := 0) (j := 0) B rfl rfl rfl) rfl) ?_
    obtain ⟨t6, h6, hm⟩ := bnd hm
    obtain ⟨t7, h7, hm⟩ := bnd hm
    refine sx_asg (i := 4) (vi := 4) (φ := (dat (PyData.int t7))) B T rfl rfl (ex_call (a := (t6, s1.1)) (b := t7) (gi := 1) (rest := (q_done, ol (List.map (eP3 (eT PyData.int) PyData.int PyData.int) t5.2)) :: os) B rfl c_p_common_beginning (by decide) h7 (ax_cons (ex_call (a := t5.1) (b := t6) (gi := 2) (rest := (q_done, ol (List.map (eP3 (eT PyData.int) PyData.int PyData.int) t5.2)) :: os) B rfl c_p_back_of (by decide) h6 (ax_cons (ex_v (i := 3) (j := 3) B rfl rfl rfl) ax_nil)) (ax_cons (ex_v (i := 2) (j := 2) B rfl rfl rfl) ax_nil))) ?_
    obtain ⟨t8, h8, hm⟩ := bnd hm
    refine sx_asg (i := 2) (vi := 2) (φ := (dat (PyData.tuple [(PyData.tuple (List.map PyData.int t8.a)), (PyData.int t8.b), (PyData.int t8.c)]))) B T rfl rfl (ex_call (a := (s1.1, t7)) (b := t8) (gi := 3) (rest := (q_done, ol (List.map (eP3 (eT PyData.int) PyData.int PyData.int) t5.2)) :: os) B rfl c_p_rest_of (by decide) h8 (ax_cons (ex_v (i := 2) (j := 2) B rfl rfl rfl) (ax_cons (ex_v (i := 4) (j := 4) B rfl rfl rfl) ax_nil))) ?_
    refine sx_if (tx_cmp op_lt r2_lt (nomark _) (ex_v (i := 4) (j := 4) B rfl rfl rfl) (ex_ixT rdt_dat (by rfl) (ex_v (i := 3) (j := 3) B rfl rfl rfl) ex_int)) (fun hk => ?_) (fun hk => ?_)
    · have hm := ifT hm hk
      obtain ⟨t9, h9, hm⟩ := bnd hm
      obtain ⟨t10, h10, hm⟩ := bnd hm
      refine sx_expr (ex_app (enc := (eP3 (eT PyData.int) PyData.int PyData.int)) (j := 0) (xs0 := t5.2) (xs := t5.2) (y := t9) h10 (ex_v (i := 0) (j := 0) B rfl rfl rfl) rfl (ex_call (a := (t5.1, (t5.1.c - t7))) (b := t9) (gi := 4) (rest := (q_done, ol (List.map (eP3 (eT PyData.int) PyData.int PyData.int) t5.2)) :: os) B rfl c_p_first_of (by decide) h9 (ax_cons (ex_v (i := 3) (j := 3) B rfl rfl rfl) (ax_cons (ex_sub (ex_ixT rdt_dat (by rfl) (ex_v (i := 3) (j := 3) B rfl rfl rfl) ex_int) (ex_v (i := 4) (j := 4) B rfl rfl rfl)) ax_nil))) rfl) ?_
      exact sx_brk fun σ H a => ⟨_, (), (som hm).symm, (a.weak ⟨.inl rfl, .inl rfl, .inl rfl, .inr rfl, .inr rfl, trivial⟩)⟩
    · have hm := ifF hm hk
      refine sx_fall ?_ rfl
      exact sx_nil fun σ H a => ⟨_, (), (som hm).symm, (a.weak ⟨.inl rfl, .inl rfl, .inl rfl, .inr rfl, .inr rfl, trivial⟩)⟩
  · cases ho
    have hm := elimR hm
    obtain ⟨s12, h_s12, hm⟩ := bnd hm
    refine sx_join [sl (own q_done), sl (dat (PyData.tuple [(PyData.tuple (List.map PyData.int stretch.a)), (PyData.int stretch.b), (PyData.int stretch.c)])), sl (dat (PyData.tuple [(PyData.tuple (List.map PyData.int f2.1.a)), (PyData.int f2.1.b), (PyData.int f2.1.c)])), un, un] ((q_done, ol (List.map (eP3 (eT PyData.int) PyData.int PyData.int) s12)) :: os) (?_) (fun Q => ?_)
    · clear h_s12
      obtain rfl := som hm
      exact sx_end fun F σ H e o => R.nx σ H (R.rt F H .non e o (cl_dat .non))
    · have hm := h_s12
      refine sx_if (tx_cmp op_gt r2_gt (nomark _) (ex_ixT rdt_dat (by rfl) (ex_v (i := 2) (j := 2) B rfl rfl rfl) ex_int) ex_int) (fun hk => ?_) (fun hk => ?_)
      · have hm := ifT hm hk
        obtain ⟨t11, h11, hm⟩ := bnd hm
        refine sx_expr (ex_app (enc := (eP3 (eT PyData.int) PyData.int PyData.int)) (j := 0) (xs0 := f2.2) (xs := f2.2) (y := f2.1) h11 (ex_v (i := 0) (j := 0) B rfl rfl rfl) rfl (ex_v (i := 2) (j := 2) B rfl rfl rfl) rfl) ?_
        obtain rfl := som hm
        exact sx_fall Q rfl
      · have hm := ifF hm hk
        obtain rfl := som hm
        exact sx_fall Q rfl
  · cases ho
    have hm := elimL hm
    cases hm
theorem cal_p_lay {P : Program} {w : World} {K : PySem.W.Frag} {mg : Str → Option Value} {base : Heap} {f : Addr} {fd : FuncData} (Fn : Fun K "lay" "lay" s_p_lay f fd) (hmg : mg "lay" = some (.ref f)) (hb : Binds K fd ["done", "stretch"] []) (g_len : mg "len" = none) (c_p_common_beginning : Cal P w K mg base 2 "common_beginning" s_p_common_beginning ["one", "other"] (sp_p_common_beginning K)) (c_p_back_of : Cal P w K mg base 2 "back_of" s_p_back_of ["stretch"] (sp_p_back_of K)) (c_p_rest_of : Cal P w K mg base 1 "rest_of" s_p_rest_of ["stretch", "many"] (sp_p_rest_of K)) (c_p_first_of : Cal P w K mg base 1 "first_of" s_p_first_of ["stretch", "many"] (sp_p_first_of K)) : Cal P w K mg base 3 "lay" s_p_lay ["done", "stretch"] (sp_p_lay K) :=
  cal_Z (V := V_p_lay) (Gs := G_p_lay) (nl := 3) Fn sc_p_lay (by decide +kernel) (by decide +kernel) hmg hb (fun _ => rfl) rfl fun _ _ _ _ _ _ _ a b F0 os D B T hm R => body_p_lay rfl B T g_len c_p_common_beginning c_p_back_of c_p_rest_of c_p_first_of a.1 a.2.1 a.2.2 b F0 os D hm R
/-! ### straight_list -/
abbrev s_p_straight_list : Stmt := top 26
def N_p_straight_list : List Str := ["short", "done", "walk", "times", "stretch"]
def V_p_straight_list : List Str := ["short", "done", "walk", "times", "stretch"]
def G_p_straight_list : List Str := ["stretches_of", "lay"]
theorem sc_p_straight_list : FnScope N_p_straight_list ["short"] (defScope s_p_straight_list) := ⟨rfl, rfl, rfl, by decide +kernel, rfl, by decide +kernel, by decide +kernel⟩
abbrev sp_p_straight_list (K : PySem.W.Frag) : Sp := spZ (α := (List ((List Int) × Int))) (β := (List (Tri (List Int) Int Int))) (fun a => [(dat (PyData.tuple (List.map (eP (eT PyData.int) PyData.int) a)))]) (fun a => []) (fun a => m_p_straight_list a) (fun a b => (dat (PyData.list (List.map (eP3 (eT PyData.int) PyData.int PyData.int) b)))) (fun a b => [])
set_option maxHeartbeats 4000000 in
theorem body_p_straight_list {X : Cx} (hsc : X.env.scope = defScope s_p_straight_list) (B : Bd X N_p_straight_list V_p_straight_list G_p_straight_list 3) (T : Bt X V_p_straight_list) (c_p_stretches_of : Cal X.prog X.w X.K X.mg X.base 2 "stretches_of" s_p_stretches_of ["walk", "times"] (sp_p_stretches_of X.K)) (c_p_lay : Cal X.prog X.w X.K X.mg X.base 3 "lay" s_p_lay ["done", "stretch"] (sp_p_lay X.K)) (short : (List ((List Int) × Int))) (b : (List (Tri (List Int) Int Int))) (F0 : Hp) (os : Os) (D : Ends) (hm : m_p_straight_list short = some b) (R : RetZ F0 (os) (dat (PyData.list (List.map (eP3 (eT PyData.int) PyData.int PyData.int) b))) D) :
    SX X [sl (dat (PyData.tuple (List.map (eP (eT PyData.int) PyData.int) short))), un, un, un, un] (os) F0 (defBody s_p_straight_list) D := by
  unfold m_p_straight_list at hm
  refine sx_asgN (i := 1) (vi := 1) (n := ol (List.map (eP3 (eT PyData.int) PyData.int PyData.int) ([] : (List (Tri (List Int) Int Int))))) B T rfl rfl (en_lst (ds := []) ax_nil) (fun q_done0 => ?_)
  obtain ⟨f3, h15, hm⟩ := bnd hm
  refine sx_for (c := anyOs) (fun (s1 : (List (Tri (List Int) Int Int))) (x2 : ((List Int) × Int)) => ((m_p_stretches_of x2.1 x2.2).bind fun t6 => ((lp (fun (s7 : (List (Tri (List Int) Int Int))) (stretch8 : (Tri (List Int) Int Int)) => ((m_p_lay s7 stretch8).bind fun t12 => some t12.2)) t6 s1).bind fun f9 => some f9))) (fun (s1 : (List (Tri (List Int) Int Int))) (_ : Unit) => [sl (dat (PyData.tuple (List.map (eP (eT PyData.int) PyData.int) short))), sl (own q_done0), un, un, un]) (fun (s1 : (List (Tri (List Int) Int Int))) (_ : Unit) => (q_done0, ol (List.map (eP3 (eT PyData.int) PyData.int PyData.int) s1)) :: os) B T (fun x2 => gx_pair B (gx_name (i := 2) (vi := 2) (φ := (dat (PyData.tuple (List.map PyData.int x2.1)))) B T rfl rfl) (gx_name (i := 3) (vi := 3) (φ := (dat (PyData.int x2.2))) B T rfl rfl)) ([] : (List (Tri (List Int) Int Int))) () f3 h15 (ix_tup (enc := (eP (eT PyData.int) PyData.int)) (ex_v (i := 0) (j := 0) B rfl rfl rfl) rdt_dat) ⟨.inl rfl, .inl rfl, .inl rfl, .inl rfl, .inl rfl, trivial⟩ (fun _ _ => trivial) (fun F5 e4 s1 _ x2 z16 hx hm => ?_) (fun _ => ?_)
  · clear h15
    obtain ⟨t6, h6, hm⟩ := bnd hm
    obtain ⟨f9, h13, hm⟩ := bnd hm
    refine sx_for (c := anyOs) (fun (s7 : (List (Tri (List Int) Int Int))) (stretch8 : (Tri (List Int) Int Int)) => ((m_p_lay s7 stretch8).bind fun t12 => some t12.2)) (fun (s7 : (List (Tri (List Int) Int Int))) (_ : Unit) => [sl (dat (PyData.tuple (List.map (eP (eT PyData.int) PyData.int) short))), sl (own q_done0), sl (dat (PyData.tuple (List.map PyData.int x2.1))), sl (dat (PyData.int x2.2)), un]) (fun (s7 : (List (Tri (List Int) Int Int))) (_ : Unit) => (q_done0, ol (List.map (eP3 (eT PyData.int) PyData.int PyData.int) s7)) :: os) B T (fun stretch8 => gx_name (i := 4) (vi := 4) (φ := (dat (PyData.tuple [(PyData.tuple (List.map PyData.int stretch8.a)), (PyData.int stretch8.b), (PyData.int stretch8.c)]))) B T rfl rfl) s1 () f9 h13 (ix_list (enc := (eP3 (eT PyData.int) PyData.int PyData.int)) (c := anyOs) (ex_call (a := (x2.1, x2.2)) (b := t6) (gi := 0) (rest := (q_done0, ol (List.map (eP3 (eT PyData.int) PyData.int PyData.int) s1)) :: os) B rfl c_p_stretches_of (by decide) h6 (ax_cons (ex_v (i := 2) (j := 2) B rfl rfl rfl) (ax_cons (ex_v (i := 3) (j := 3) B rfl rfl rfl) ax_nil))) (fun _ _ => rdl_dat) trivial) ⟨.inl rfl, .inl rfl, .inl rfl, .inl rfl, .inl rfl, trivial⟩ (fun _ _ => trivial) (fun F11 e10 s7 _ stretch8 z14 hx hm => ?_) (fun _ => ?_)
    · clear h13
      obtain ⟨t12, h12, hm⟩ := bnd hm
      refine sx_expr (ex_call (a := (q_done0, s7, stretch8)) (b := t12) (gi := 1) (rest := os) B rfl c_p_lay (by decide) h12 (ax_cons (ex_v (i := 1) (j := 1) B rfl rfl rfl) (ax_cons (ex_v (i := 4) (j := 4) B rfl rfl rfl) ax_nil))) ?_
      obtain rfl := som hm
      exact sx_nil fun σ H a => ⟨(), (a.weak ⟨.inl rfl, .inl rfl, .inl rfl, .inl rfl, .inr rfl, trivial⟩)⟩
    · skip
      obtain rfl := som hm
      exact sx_nil fun σ H a => ⟨(), (a.weak ⟨.inl rfl, .inl rfl, .inr rfl, .inr rfl, .inl rfl, trivial⟩)⟩
  · skip
    refine sx_frz (j := 0) (i := 1) rfl rfl ?_
    obtain rfl := som hm
    exact sx_ret (ex_v (i := 1) (j := 1) B rfl rfl rfl) (fun F H v e o c => R.rt F H v e o c)
theorem cal_p_straight_list {P : Program} {w : World} {K : PySem.W.Frag} {mg : Str → Option Value} {base : Heap} {f : Addr} {fd : FuncData} (Fn : Fun K "straight_list" "straight_list" s_p_straight_list f fd) (hmg : mg "straight_list" = some (.ref f)) (hb : Binds K fd ["short"] []) (c_p_stretches_of : Cal P w K mg base 2 "stretches_of" s_p_stretches_of ["walk", "times"] (sp_p_stretches_of K)) (c_p_lay : Cal P w K mg base 3 "lay" s_p_lay ["done", "stretch"] (sp_p_lay K)) : Cal P w K mg base 4 "straight_list" s_p_straight_list ["short"] (sp_p_straight_list K) :=
  cal_Z (V := V_p_straight_list) (Gs := G_p_straight_list) (nl := 4) Fn sc_p_straight_list (by decide +kernel) (by decide +kernel) hmg hb (fun _ => rfl) rfl fun _ _ _ _ _ _ _ a b F0 os D B T hm R => body_p_straight_list rfl B T c_p_stretches_of c_p_lay a b F0 os D hm R
/-! ### steps_in -/
abbrev s_p_steps_in : Stmt := top 27
def N_p_steps_in : List Str := ["done", "stretch"]
def V_p_steps_in : List Str := ["done"]
def G_p_steps_in : List Str := ["sum"]
theorem sc_p_steps_in : FnScope N_p_steps_in ["done"] (defScope s_p_steps_in) := ⟨rfl, rfl, rfl, by decide +kernel, rfl, by decide +kernel, by decide +kernel⟩
abbrev sp_p_steps_in (K : PySem.W.Frag) : Sp := spZ (α := (List (Tri (List Int) Int Int))) (β := Int) (fun a => [(dat (PyData.list (List.map (eP3 (eT PyData.int) PyData.int PyData.int) a)))]) (fun a => []) (fun a => m_p_steps_in a) (fun a b => (dat (PyData.int b))) (fun a b => [])
set_option maxHeartbeats 4000000 in
theorem body_p_steps_in {X : Cx} (hsc : X.env.scope = defScope s_p_steps_in) (B : Bd X N_p_steps_in V_p_steps_in G_p_steps_in 0) (T : Bt X V_p_steps_in) (g_sum : X.mg "sum" = none) (done : (List (Tri (List Int) Int Int))) (b : Int) (F0 : Hp) (os : Os) (D : Ends) (hm : m_p_steps_in done = some b) (R : RetZ F0 (os) (dat (PyData.int b)) D) :
    SX X [sl (dat (PyData.list (List.map (eP3 (eT PyData.int) PyData.int PyData.int) done))), un] (os) F0 (defBody s_p_steps_in) D := by
  unfold m_p_steps_in at hm
  obtain ⟨t3, h3, hm⟩ := bnd hm
  obtain rfl := som hm
  exact sx_ret (ex_fn (j := 0) B rfl g_sum (by decide +kernel) (cr_sum B.calm) (rc_sum rdl_dat) (ax_cons (EN.ex (en_lc (lc_mk1 (j := 1) (vp := fun stretch1 => (dat (PyData.tuple [(PyData.tuple (List.map PyData.int stretch1.a)), (PyData.int stretch1.b), (PyData.int stretch1.c)]))) (c := anyOs) (enc := PyData.int) (fun (_ : Unit) (stretch1 : (Tri (List Int) Int Int)) => some (some stretch1.c, ())) (fun (_ : Unit) (tl1 : Os) => tl1) () (t3) () B rfl rfl (by rw [B.hN, hsc]; decide +kernel) (by rw [hsc]; decide +kernel) (by decide) (lcT_ok h3) (ix_list (enc := (eP3 (eT PyData.int) PyData.int PyData.int)) (c := anyOs) (ex_v (i := 0) (j := 0) B rfl rfl rfl) (fun _ _ => rdl_dat) trivial) (fun _ _ => trivial) (fun _ _ _ => List.Perm.refl _) (fun _ stretch1 t tl1 hx hf => by (obtain rfl := som hf; exact ⟨true, _, fun X1 hX => by (have B1 := Bd.fam (W' := ["stretch"]) (G' := []) B hX (by (try rw [hsc]); decide +kernel); exact ⟨.nil, fun _ => ⟨_, rfl, (ex_ixT rdt_dat (by rfl) (ex_v (i := 1) (j := 0) B1 rfl rfl rfl) ex_int)⟩, fun h => Bool.noConfusion h⟩)⟩))))) ax_nil)) (fun F H v e o c => R.rt F H v e o c)
theorem cal_p_steps_in {P : Program} {w : World} {K : PySem.W.Frag} {mg : Str → Option Value} {base : Heap} {f : Addr} {fd : FuncData} (Fn : Fun K "steps_in" "steps_in" s_p_steps_in f fd) (hmg : mg "steps_in" = some (.ref f)) (hb : Binds K fd ["done"] []) (g_sum : mg "sum" = none) : Cal P w K mg base 1 "steps_in" s_p_steps_in ["done"] (sp_p_steps_in K) :=
  cal_Z (V := V_p_steps_in) (Gs := G_p_steps_in) (nl := 1) Fn sc_p_steps_in (by decide +kernel) (by decide +kernel) hmg hb (fun _ => rfl) rfl fun _ _ _ _ _ _ _ a b F0 os D B T hm R => body_p_steps_in rfl B T g_sum a b F0 os D hm R
/-! ### cut_out -/
abbrev s_p_cut_out : Stmt := top 28
def N_p_cut_out : List Str := ["done", "begin", "end", "found", "ahead", "stretch", "low", "high"]
def V_p_cut_out : List Str := ["done", "begin", "end", "found", "ahead", "stretch", "low", "high"]
def G_p_cut_out : List Str := ["max", "min", "first_of", "rest_of"]
theorem sc_p_cut_out : FnScope N_p_cut_out ["done", "begin", "end"] (defScope s_p_cut_out) := ⟨rfl, rfl, rfl, by decide +kernel, rfl, by decide +kernel, by decide +kernel⟩
abbrev sp_p_cut_out (K : PySem.W.Frag) : Sp := spZ (α := ((List (Tri (List Int) Int Int)) × Int × Int)) (β := (List (Tri (List Int) Int Int))) (fun a => [(dat (PyData.list (List.map (eP3 (eT PyData.int) PyData.int PyData.int) a.1))), (dat (PyData.int a.2.1)), (dat (PyData.int a.2.2))]) (fun a => []) (fun a => m_p_cut_out a.1 a.2.1 a.2.2) (fun a b => (dat (PyData.list (List.map (eP3 (eT PyData.int) PyData.int PyData.int) b)))) (fun a b => [])
set_option maxHeartbeats 4000000 in
theorem body_p_cut_out {X : Cx} (hsc : X.env.scope = defScope s_p_cut_out) (B : Bd X N_p_cut_out V_p_cut_out G_p_cut_out 1) (T : Bt X V_p_cut_out) (g_max : X.mg "max" = none) (g_min : X.mg "min" = none) (c_p_first_of : Cal X.prog X.w X.K X.mg X.base 1 "first_of" s_p_first_of ["stretch", "many"] (sp_p_first_of X.K)) (c_p_rest_of : Cal X.prog X.w X.K X.mg X.base 1 "rest_of" s_p_rest_of ["stretch", "many"] (sp_p_rest_of X.K)) (done : (List (Tri (List Int) Int Int))) (begin : Int) (end_ : Int) (b : (List (Tri (List Int) Int Int))) (F0 : Hp) (os : Os) (D : Ends) (hm : m_p_cut_out done begin end_ = some b) (R : RetZ F0 (os) (dat (PyData.list (List.map (eP3 (eT PyData.int) PyData.int PyData.int) b))) D) :
    SX X [sl (dat (PyData.list (List.map (eP3 (eT PyData.int) PyData.int PyData.int) done))), sl (dat (PyData.int begin)), sl (dat (PyData.int end_)), un, un, un, un, un] (os) F0 (defBody s_p_cut_out) D := by
  unfold m_p_cut_out at hm
  refine sx_par2 (i := 3) (j := 4) _ hsc B rfl rfl (by decide) (by decide +kernel) (by decide +kernel) (by intro env he; cases env; cases he; first | rfl | kernel_rfl) (aq_n (n := ol (List.map (eP3 (eT PyData.int) PyData.int PyData.int) ([] : (List (Tri (List Int) Int Int))))) (en_lst (ds := []) ax_nil) (fun q_found1 => (aq_x (φ := (dat (PyData.int 0))) ex_int aq_nil))) (fun v0 v1 os_ hr_ => ?_) (by rintro φs os_ ⟨q_found1, _, rfl, _, rfl, rfl, rfl⟩; exact ⟨_, _, rfl⟩)
  obtain ⟨q_found1, _, e0, _, e1, e8, e9⟩ := hr_
  cases e0; cases e1; cases e8; cases e9
  obtain ⟨f4, h11, hm⟩ := bnd hm
  refine sx_for (c := anyOs) (fun (s2 : (Int × (List (Tri (List Int) Int Int)))) (stretch3 : (Tri (List Int) Int Int)) => ((if (decide ((maxI (begin - s2.1) 0) < (minI (end_ - s2.1) stretch3.c))) = true then ((m_p_rest_of stretch3 (maxI (begin - s2.1) 0)).bind fun t7 => (m_p_first_of t7 ((minI (end_ - s2.1) stretch3.c) - (maxI (begin - s2.1) 0))).bind fun t8 => (appO s2.2 t8).bind fun t9 => some t9) else some s2.2 : Option (List (Tri (List Int) Int Int))).bind fun s10 => some ((s2.1 + stretch3.c), s10))) (fun (s2 : (Int × (List (Tri (List Int) Int Int)))) (_ : Unit) => [sl (dat (PyData.list (List.map (eP3 (eT PyData.int) PyData.int PyData.int) done))), sl (dat (PyData.int begin)), sl (dat (PyData.int end_)), sl (own q_found1), sl (dat (PyData.int s2.1)), un, un, un]) (fun (s2 : (Int × (List (Tri (List Int) Int Int)))) (_ : Unit) => (q_found1, ol (List.map (eP3 (eT PyData.int) PyData.int PyData.int) s2.2)) :: os) B T (fun stretch3 => gx_name (i := 5) (vi := 5) (φ := (dat (PyData.tuple [(PyData.tuple (List.map PyData.int stretch3.a)), (PyData.int stretch3.b), (PyData.int stretch3.c)]))) B T rfl rfl) (0, ([] : (List (Tri (List Int) Int Int)))) () f4 h11 (ix_list (enc := (eP3 (eT PyData.int) PyData.int PyData.int)) (c := anyOs) (ex_v (i := 0) (j := 0) B rfl rfl rfl) (fun _ _ => rdl_dat) trivial) ⟨.inl rfl, .inl rfl, .inl rfl, .inl rfl, .inl rfl, .inl rfl, .inl rfl, .inl rfl, trivial⟩ (fun _ _ => trivial) (fun F6 e5 s2 _ stretch3 z12 hx hm => ?_) (fun _ => ?_)
  · clear h11
    refine sx_par2 (i := 6) (j := 7) _ hsc B rfl rfl (by decide) (by decide +kernel) (by decide +kernel) (by intro env he; cases env; cases he; first | rfl | kernel_rfl) (aq_x (φ := (dat (PyData.int (maxI (begin - s2.1) 0)))) (ex_fn (j := 0) B rfl g_max (by decide +kernel) (call_max2 B.calm) rc_max (ax_cons (ex_sub (ex_v (i := 1) (j := 1) B rfl rfl rfl) (ex_v (i := 4) (j := 4) B rfl rfl rfl)) (ax_cons ex_int ax_nil))) (aq_x (φ := (dat (PyData.int (minI (end_ - s2.1) stretch3.c)))) (ex_fn (j := 1) B rfl g_min (by decide +kernel) (call_min2 B.calm) rc_min (ax_cons (ex_sub (ex_v (i := 2) (j := 2) B rfl rfl rfl) (ex_v (i := 4) (j := 4) B rfl rfl rfl)) (ax_cons (ex_ixT rdt_dat (by rfl) (ex_v (i := 5) (j := 5) B rfl rfl rfl) ex_int) ax_nil))) aq_nil)) (fun v0 v1 os_ hr_ => ?_) (by rintro φs os_ ⟨_, rfl, _, rfl, rfl, rfl⟩; exact ⟨_, _, rfl⟩)
    obtain ⟨_, e0, _, e1, e8, e9⟩ := hr_
    cases e0; cases e1; cases e8; cases e9
    obtain ⟨s10, h_s10, hm⟩ := bnd hm
    refine sx_join [sl (dat (PyData.list (List.map (eP3 (eT PyData.int) PyData.int PyData.int) done))), sl (dat (PyData.int begin)), sl (dat (PyData.int end_)), sl (own q_found1), sl (dat (PyData.int s2.1)), sl (dat (PyData.tuple [(PyData.tuple (List.map PyData.int stretch3.a)), (PyData.int stretch3.b), (PyData.int stretch3.c)])), sl (dat (PyData.int (maxI (begin - s2.1) 0))), sl (dat (PyData.int (minI (end_ - s2.1) stretch3.c)))] ((q_found1, ol (List.map (eP3 (eT PyData.int) PyData.int PyData.int) s10)) :: os) (?_) (fun Q => ?_)
    · clear h_s10
      refine sx_addI (i := 4) (vi := 4) B T rfl rfl rfl (ex_ixT rdt_dat (by rfl) (ex_v (i := 5) (j := 5) B rfl rfl rfl) ex_int) ?_
      obtain rfl := som hm
      exact sx_nil fun σ H a => ⟨(), (a.weak ⟨.inl rfl, .inl rfl, .inl rfl, .inl rfl, .inl rfl, .inr rfl, .inr rfl, .inr rfl, trivial⟩)⟩
    · have hm := h_s10
      refine sx_if (tx_cmp op_lt r2_lt (nomark _) (ex_v (i := 6) (j := 6) B rfl rfl rfl) (ex_v (i := 7) (j := 7) B rfl rfl rfl)) (fun hk => ?_) (fun hk => ?_)
      · have hm := ifT hm hk
        obtain ⟨t7, h7, hm⟩ := bnd hm
        obtain ⟨t8, h8, hm⟩ := bnd hm
        obtain ⟨t9, h9, hm⟩ := bnd hm
        refine sx_expr (ex_app (enc := (eP3 (eT PyData.int) PyData.int PyData.int)) (j := 0) (xs0 := s2.2) (xs := s2.2) (y := t8) h9 (ex_v (i := 3) (j := 3) B rfl rfl rfl) rfl (ex_call (a := (t7, ((minI (end_ - s2.1) stretch3.c) - (maxI (begin - s2.1) 0)))) (b := t8) (gi := 2) (rest := (q_found1, ol (List.map (eP3 (eT PyData.int) PyData.int PyData.int) s2.2)) :: os) B rfl c_p_first_of (by decide) h8 (ax_cons (ex_call (a := (stretch3, (maxI (begin - s2.1) 0))) (b := t7) (gi := 3) (rest := (q_found1, ol (List.map (eP3 (eT PyData.int) PyData.int PyData.int) s2.2)) :: os) B rfl c_p_rest_of (by decide) h7 (ax_cons (ex_v (i := 5) (j := 5) B rfl rfl rfl) (ax_cons (ex_v (i := 6) (j := 6) B rfl rfl rfl) ax_nil))) (ax_cons (ex_sub (ex_v (i := 7) (j := 7) B rfl rfl rfl) (ex_v (i := 6) (j := 6) B rfl rfl rfl)) ax_nil))) rfl) ?_
        obtain rfl := som hm
        exact sx_fall Q rfl
      · have hm := ifF hm hk
        obtain rfl := som hm
        exact sx_fall Q rfl
  · skip
    refine sx_frz (j := 0) (i := 3) rfl rfl ?_
    obtain rfl := som hm
    exact sx_ret (ex_v (i := 3) (j := 3) B rfl rfl rfl) (fun F H v e o c => R.rt F H v e o c)
theorem cal_p_cut_out {P : Program} {w : World} {K : PySem.W.Frag} {mg : Str → Option Value} {base : Heap} {f : Addr} {fd : FuncData} (Fn : Fun K "cut_out" "cut_out" s_p_cut_out f fd) (hmg : mg "cut_out" = some (.ref f)) (hb : Binds K fd ["done", "begin", "end"] []) (g_max : mg "max" = none) (g_min : mg "min" = none) (c_p_first_of : Cal P w K mg base 1 "first_of" s_p_first_of ["stretch", "many"] (sp_p_first_of K)) (c_p_rest_of : Cal P w K mg base 1 "rest_of" s_p_rest_of ["stretch", "many"] (sp_p_rest_of K)) : Cal P w K mg base 2 "cut_out" s_p_cut_out ["done", "begin", "end"] (sp_p_cut_out K) :=
  cal_Z (V := V_p_cut_out) (Gs := G_p_cut_out) (nl := 5) Fn sc_p_cut_out (by decide +kernel) (by decide +kernel) hmg hb (fun _ => rfl) rfl fun _ _ _ _ _ _ _ a b F0 os D B T hm R => body_p_cut_out rfl B T g_max g_min c_p_first_of c_p_rest_of a.1 a.2.1 a.2.2 b F0 os D hm R
/-! ### is_a_part -/
abbrev s_p_is_a_part : Stmt := top 33
def N_p_is_a_part : List Str := ["value", "letters"]
def V_p_is_a_part : List Str := ["value", "letters"]
def G_p_is_a_part : List Str := ["isinstance", "tuple", "len", "is_a_walk", "is_integer", "abs", "MOST_TIMES"]
theorem sc_p_is_a_part : FnScope N_p_is_a_part ["value", "letters"] (defScope s_p_is_a_part) := ⟨rfl, rfl, rfl, by decide +kernel, rfl, by decide +kernel, by decide +kernel⟩
abbrev sp_p_is_a_part (K : PySem.W.Frag) : Sp := spZ (α := (((List Int) × Int) × Int)) (β := Bool) (fun a => [(dat (PyData.tuple [(PyData.tuple (List.map PyData.int a.1.1)), (PyData.int a.1.2)])), (dat (PyData.int a.2))]) (fun a => []) (fun a => m_p_is_a_part a.1 a.2) (fun a b => (dat (PyData.bool b))) (fun a b => [])
set_option maxHeartbeats 4000000 in
theorem body_p_is_a_part {X : Cx} (hsc : X.env.scope = defScope s_p_is_a_part) (B : Bd X N_p_is_a_part V_p_is_a_part G_p_is_a_part 3) (T : Bt X V_p_is_a_part) {tk_MOST_TIMES : Tok} (g_isinstance : X.mg "isinstance" = none) (g_tuple : X.mg "tuple" = none) (g_len : X.mg "len" = none) (c_p_is_a_walk : Cal X.prog X.w X.K X.mg X.base 3 "is_a_walk" s_p_is_a_walk ["value", "letters"] (sp_p_is_a_walk X.K)) (c_p_is_integer : Cal X.prog X.w X.K X.mg X.base 1 "is_integer" s_p_is_integer ["value"] (sp_p_is_integer X.K)) (g_abs : X.mg "abs" = none) (g_MOST_TIMES : X.mg "MOST_TIMES" = some (.int 1000000000000000000000000000000 tk_MOST_TIMES)) (value : ((List Int) × Int)) (letters : Int) (b : Bool) (F0 : Hp) (os : Os) (D : Ends) (hm : m_p_is_a_part value letters = some b) (R : RetZ F0 (os) (dat (PyData.bool b)) D) :
    SX X [sl (dat (PyData.tuple [(PyData.tuple (List.map PyData.int value.1)), (PyData.int value.2)])), sl (dat (PyData.int letters))] (os) F0 (defBody s_p_is_a_part) D := by
  unfold m_p_is_a_part at hm
  obtain ⟨t3, h3, hm⟩ := bnd hm
  refine sx_if (WX.tx (wx_or (l := t3) (os2 := os) (tx_not (tx_val (ex_fn (j := 0) B rfl g_isinstance (by decide +kernel) call_isi (rc_isi (d := (PyData.tuple [(PyData.tuple (List.map PyData.int value.1)), (PyData.int value.2)])) (T := "tuple") (show kitB "tuple" "tuple" = some true by decide +kernel)) (ax_cons (ex_v (i := 0) (j := 0) B rfl rfl rfl) (ax_cons (ex_tyname (T := "tuple") (gi := 1) B rfl g_tuple (by decide +kernel)) ax_nil))) (by intro _; rfl))) (fun hk => by (have hm := ifF h3 hk; obtain ⟨t2, h2, hm⟩ := bnd hm; obtain rfl := som hm; exact (wx_or (l := t2) (os2 := os) (tx_cmp op_ne r2_neI (nomark _) (ex_fn (j := 2) B rfl g_len (by decide +kernel) call_len_seq rc_len2 (ax_cons (ex_v (i := 0) (j := 0) B rfl rfl rfl) ax_nil)) ex_int) (fun hk => by (have hm := ifF h2 hk; obtain ⟨t1, h1, hm⟩ := bnd hm; obtain rfl := som hm; exact (wx_or1 (tx_not (tx_val (ex_call (a := (value.1, letters)) (b := t1) (gi := 3) (rest := os) B rfl c_p_is_a_walk (by decide) h1 (ax_cons (ex_ixT rdt_dat (by rfl) (ex_v (i := 0) (j := 0) B rfl rfl rfl) ex_int) (ax_cons (ex_v (i := 1) (j := 1) B rfl rfl rfl) ax_nil))) (by intro _; rfl)))))) (fun hk => by (have hm := ifT h2 hk; obtain rfl := som hm; rfl)) (or_fix (fun hk => by (have hm := ifT h2 hk; obtain rfl := som hm; rfl)))))) (fun hk => by (have hm := ifT h3 hk; obtain rfl := som hm; rfl)) (or_fix (fun hk => by (have hm := ifT h3 hk; obtain rfl := som hm; rfl))))) (fun hk => ?_) (fun hk => ?_)
  · have hm := ifT hm hk
    obtain rfl := som hm
    exact sx_ret ex_bool (fun F H v e o c => R.rt F H v e o c)
  · have hm := ifF hm hk
    refine sx_fall ?_ rfl
    obtain ⟨t4, h4, hm⟩ := bnd hm
    obtain rfl := som hm
    exact sx_ret (ex_and (ex_call (a := value.2) (b := t4) (gi := 4) (rest := os) B rfl c_p_is_integer (by decide) h4 (ax_cons (ex_ixT rdt_dat (by rfl) (ex_v (i := 0) (j := 0) B rfl rfl rfl) ex_int) ax_nil)) (fun _ => (ex_one (ex_chain op_le op_le r2_le r2_le (fun _ => rfl) ex_int (ex_fn (j := 5) B rfl g_abs (by decide +kernel) call_abs rc_abs (ax_cons (ex_ixT rdt_dat (by rfl) (ex_v (i := 0) (j := 0) B rfl rfl rfl) ex_int) ax_nil)) (fun _ => (ex_g (j := 6) B rfl g_MOST_TIMES))))) (fun _ => rfl) rfl) (fun F H v e o c => R.rt F H v e o c)
theorem cal_p_is_a_part {P : Program} {w : World} {K : PySem.W.Frag} {mg : Str → Option Value} {base : Heap} {f : Addr} {fd : FuncData} (Fn : Fun K "is_a_part" "is_a_part" s_p_is_a_part f fd) (hmg : mg "is_a_part" = some (.ref f)) (hb : Binds K fd ["value", "letters"] []) {tk_MOST_TIMES : Tok} (g_isinstance : mg "isinstance" = none) (g_tuple : mg "tuple" = none) (g_len : mg "len" = none) (c_p_is_a_walk : Cal P w K mg base 3 "is_a_walk" s_p_is_a_walk ["value", "letters"] (sp_p_is_a_walk K)) (c_p_is_integer : Cal P w K mg base 1 "is_integer" s_p_is_integer ["value"] (sp_p_is_integer K)) (g_abs : mg "abs" = none) (g_MOST_TIMES : mg "MOST_TIMES" = some (.int 1000000000000000000000000000000 tk_MOST_TIMES)) : Cal P w K mg base 4 "is_a_part" s_p_is_a_part ["value", "letters"] (sp_p_is_a_part K) :=
  cal_Z (V := V_p_is_a_part) (Gs := G_p_is_a_part) (nl := 0) Fn sc_p_is_a_part (by decide +kernel) (by decide +kernel) hmg hb (fun _ => rfl) rfl fun _ _ _ _ _ _ _ a b F0 os D B T hm R => body_p_is_a_part rfl B T g_isinstance g_tuple g_len c_p_is_a_walk c_p_is_integer g_abs g_MOST_TIMES a.1 a.2 b F0 os D hm R
/-! ### is_a_short -/
abbrev s_p_is_a_short : Stmt := top 34
def N_p_is_a_short : List Str := ["value", "letters", "part"]
def V_p_is_a_short : List Str := ["value", "letters"]
def G_p_is_a_short : List Str := ["isinstance", "tuple", "len", "MOST_PARTS", "all"]
theorem sc_p_is_a_short : FnScope N_p_is_a_short ["value", "letters"] (defScope s_p_is_a_short) := ⟨rfl, rfl, rfl, by decide +kernel, rfl, by decide +kernel, by decide +kernel⟩
abbrev sp_p_is_a_short (K : PySem.W.Frag) : Sp := spZ (α := ((List ((List Int) × Int)) × Int)) (β := Bool) (fun a => [(dat (PyData.tuple (List.map (eP (eT PyData.int) PyData.int) a.1))), (dat (PyData.int a.2))]) (fun a => []) (fun a => m_p_is_a_short a.1 a.2) (fun a b => (dat (PyData.bool b))) (fun a b => [])
set_option maxHeartbeats 4000000 in
theorem body_p_is_a_short {X : Cx} (hsc : X.env.scope = defScope s_p_is_a_short) (B : Bd X N_p_is_a_short V_p_is_a_short G_p_is_a_short 4) (T : Bt X V_p_is_a_short) {tk_MOST_PARTS : Tok} (g_isinstance : X.mg "isinstance" = none) (g_tuple : X.mg "tuple" = none) (g_len : X.mg "len" = none) (g_MOST_PARTS : X.mg "MOST_PARTS" = some (.int 60 tk_MOST_PARTS)) (g_all : X.mg "all" = none) (c_p_is_a_part : Cal X.prog X.w X.K X.mg X.base 4 "is_a_part" s_p_is_a_part ["value", "letters"] (sp_p_is_a_part X.K)) (value : (List ((List Int) × Int))) (letters : Int) (b : Bool) (F0 : Hp) (os : Os) (D : Ends) (hm : m_p_is_a_short value letters = some b) (R : RetZ F0 (os) (dat (PyData.bool b)) D) :
    SX X [sl (dat (PyData.tuple (List.map (eP (eT PyData.int) PyData.int) value))), sl (dat (PyData.int letters)), un] (os) F0 (defBody s_p_is_a_short) D := by
  unfold m_p_is_a_short at hm
  refine sx_if (WX.tx (wx_or (tx_not (tx_val (ex_fn (j := 0) B rfl g_isinstance (by decide +kernel) call_isi (rc_isi (d := (PyData.tuple (List.map (eP (eT PyData.int) PyData.int) value))) (T := "tuple") (show kitB "tuple" "tuple" = some true by decide +kernel)) (ax_cons (ex_v (i := 0) (j := 0) B rfl rfl rfl) (ax_cons (ex_tyname (T := "tuple") (gi := 1) B rfl g_tuple (by decide +kernel)) ax_nil))) (by intro _; rfl))) (fun _ => (wx_or1 (tx_cmp op_gt r2_gt (nomark _) (EX.to (ex_fn (j := 2) B rfl g_len (by decide +kernel) call_len_seq (rc_lenT (ds := List.map (eP (eT PyData.int) PyData.int) value) rdt_dat) (ax_cons (ex_v (i := 0) (j := 0) B rfl rfl rfl) ax_nil)) (by rw [List.length_map])) (ex_g (j := 3) B rfl g_MOST_PARTS)))) (fun _ => rfl) rfl)) (fun hk => ?_) (fun hk => ?_)
  · have hm := ifT hm hk
    obtain rfl := som hm
    exact sx_ret ex_bool (fun F H v e o c => R.rt F H v e o c)
  · have hm := ifF hm hk
    refine sx_fall ?_ rfl
    obtain ⟨t4, h4, hm⟩ := bnd hm
    obtain rfl := som hm
    exact sx_ret (ex_fn (j := 4) B rfl g_all (by decide +kernel) (cr_all B.calm) (rc_all rdl_dat) (ax_cons (EN.ex (en_lc (lc_mk1 (j := 2) (vp := fun part_1 => (dat (PyData.tuple [(PyData.tuple (List.map PyData.int part_1.1)), (PyData.int part_1.2)]))) (c := anyOs) (enc := PyData.bool) (fun (_ : Unit) (part_1 : ((List Int) × Int)) => ((fun (part_1 : ((List Int) × Int)) => ((m_p_is_a_part part_1 letters).bind fun t3 => some t3)) part_1).map fun y => (some y, ())) (fun (_ : Unit) (tl1 : Os) => tl1) () (t4) () B rfl rfl (by rw [B.hN, hsc]; decide +kernel) (by rw [hsc]; decide +kernel) (by decide) (lcO_ok h4) (ix_tup (enc := (eP (eT PyData.int) PyData.int)) (ex_v (i := 0) (j := 0) B rfl rfl rfl) rdt_dat) (fun _ _ => trivial) (fun _ _ _ => List.Perm.refl _) (fun _ part_1 t tl1 hx hf => by (obtain ⟨y, hy, rfl⟩ := Option.map_eq_some_iff.mp hf; obtain ⟨t3, h3, hy⟩ := bnd hy; obtain rfl := som hy; exact ⟨true, _, fun X1 hX => by (have B1 := Bd.fam (W' := ["letters", "part"]) (G' := ["is_a_part"]) B hX (by (try rw [hsc]); decide +kernel); have c_p_is_a_part' := fam_cal hX c_p_is_a_part; exact ⟨.nil, fun _ => ⟨_, rfl, (ex_call (a := (part_1, letters)) (b := t3) (gi := 0) (rest := tl1) B1 rfl c_p_is_a_part' (by decide) h3 (ax_cons (ex_v (i := 2) (j := 1) B1 rfl rfl rfl) (ax_cons (ex_v (i := 1) (j := 0) B1 rfl rfl rfl) ax_nil)))⟩, fun h => Bool.noConfusion h⟩)⟩))))) ax_nil)) (fun F H v e o c => R.rt F H v e o c)
theorem cal_p_is_a_short {P : Program} {w : World} {K : PySem.W.Frag} {mg : Str → Option Value} {base : Heap} {f : Addr} {fd : FuncData} (Fn : Fun K "is_a_short" "is_a_short" s_p_is_a_short f fd) (hmg : mg "is_a_short" = some (.ref f)) (hb : Binds K fd ["value", "letters"] []) {tk_MOST_PARTS : Tok} (g_isinstance : mg "isinstance" = none) (g_tuple : mg "tuple" = none) (g_len : mg "len" = none) (g_MOST_PARTS : mg "MOST_PARTS" = some (.int 60 tk_MOST_PARTS)) (g_all : mg "all" = none) (c_p_is_a_part : Cal P w K mg base 4 "is_a_part" s_p_is_a_part ["value", "letters"] (sp_p_is_a_part K)) : Cal P w K mg base 5 "is_a_short" s_p_is_a_short ["value", "letters"] (sp_p_is_a_short K) :=
  cal_Z (V := V_p_is_a_short) (Gs := G_p_is_a_short) (nl := 1) Fn sc_p_is_a_short (by decide +kernel) (by decide +kernel) hmg hb (fun _ => rfl) rfl fun _ _ _ _ _ _ _ a b F0 os D B T hm R => body_p_is_a_short rfl B T g_isinstance g_tuple g_len g_MOST_PARTS g_all c_p_is_a_part a.1 a.2 b F0 os D hm R
/-! ### need_short -/
abbrev s_p_need_short : Stmt := top 35
def N_p_need_short : List Str := ["short", "letters"]
def V_p_need_short : List Str := ["short", "letters"]
def G_p_need_short : List Str := ["is_a_short", "InvalidShort", "anew"]
theorem sc_p_need_short : FnScope N_p_need_short ["short", "letters"] (defScope s_p_need_short) := ⟨rfl, rfl, rfl, by decide +kernel, rfl, by decide +kernel, by decide +kernel⟩
abbrev sp_p_need_short (K : PySem.W.Frag) : Sp := spZ (α := ((List ((List Int) × Int)) × Int)) (β := Unit) (fun a => [(dat (PyData.tuple (List.map (eP (eT PyData.int) PyData.int) a.1))), (dat (PyData.int a.2))]) (fun a => []) (fun a => m_p_need_short a.1 a.2) (fun a b => (dat PyData.none)) (fun a b => [])
set_option maxHeartbeats 4000000 in
theorem body_p_need_short {X : Cx} (hsc : X.env.scope = defScope s_p_need_short) (B : Bd X N_p_need_short V_p_need_short G_p_need_short 5) (T : Bt X V_p_need_short) (c_p_is_a_short : Cal X.prog X.w X.K X.mg X.base 5 "is_a_short" s_p_is_a_short ["value", "letters"] (sp_p_is_a_short X.K)) (short : (List ((List Int) × Int))) (letters : Int) (b : Unit) (F0 : Hp) (os : Os) (D : Ends) (hm : m_p_need_short short letters = some b) (R : RetZ F0 (os) (dat PyData.none) D) :
    SX X [sl (dat (PyData.tuple (List.map (eP (eT PyData.int) PyData.int) short))), sl (dat (PyData.int letters))] (os) F0 (defBody s_p_need_short) D := by
  unfold m_p_need_short at hm
  obtain ⟨t1, h1, hm⟩ := bnd hm
  refine sx_if (tx_not (tx_val (ex_call (a := (short, letters)) (b := t1) (gi := 0) (rest := os) B rfl c_p_is_a_short (by decide) h1 (ax_cons (ex_v (i := 0) (j := 0) B rfl rfl rfl) (ax_cons (ex_v (i := 1) (j := 1) B rfl rfl rfl) ax_nil))) (by intro _; rfl))) (fun hk => ?_) (fun hk => ?_)
  · have hm := ifT hm hk
    exact nomatch hm
  · have hm := ifF hm hk
    refine sx_fall ?_ rfl
    obtain rfl := som hm
    exact sx_end fun F σ H e o => R.nx σ H (R.rt F H .non e o (cl_dat .non))
theorem cal_p_need_short {P : Program} {w : World} {K : PySem.W.Frag} {mg : Str → Option Value} {base : Heap} {f : Addr} {fd : FuncData} (Fn : Fun K "need_short" "need_short" s_p_need_short f fd) (hmg : mg "need_short" = some (.ref f)) (hb : Binds K fd ["short", "letters"] []) (c_p_is_a_short : Cal P w K mg base 5 "is_a_short" s_p_is_a_short ["value", "letters"] (sp_p_is_a_short K)) : Cal P w K mg base 6 "need_short" s_p_need_short ["short", "letters"] (sp_p_need_short K) :=
  cal_Z (V := V_p_need_short) (Gs := G_p_need_short) (nl := 0) Fn sc_p_need_short (by decide +kernel) (by decide +kernel) hmg hb (fun _ => rfl) rfl fun _ _ _ _ _ _ _ a b F0 os D B T hm R => body_p_need_short rfl B T c_p_is_a_short a.1 a.2 b F0 os D hm R
/-! ### need_letters_and_short -/
abbrev s_p_need_letters_and_short : Stmt := top 36
def N_p_need_letters_and_short : List Str := ["letters", "short"]
def V_p_need_letters_and_short : List Str := ["letters", "short"]
def G_p_need_letters_and_short : List Str := ["need_letters", "need_short"]
theorem sc_p_need_letters_and_short : FnScope N_p_need_letters_and_short ["letters", "short"] (defScope s_p_need_letters_and_short) := ⟨rfl, rfl, rfl, by decide +kernel, rfl, by decide +kernel, by decide +kernel⟩
abbrev sp_p_need_letters_and_short (K : PySem.W.Frag) : Sp := spZ (α := (Int × (List ((List Int) × Int)))) (β := Unit) (fun a => [(dat (PyData.int a.1)), (dat (PyData.tuple (List.map (eP (eT PyData.int) PyData.int) a.2)))]) (fun a => []) (fun a => m_p_need_letters_and_short a.1 a.2) (fun a b => (dat PyData.none)) (fun a b => [])
set_option maxHeartbeats 4000000 in
theorem body_p_need_letters_and_short {X : Cx} (hsc : X.env.scope = defScope s_p_need_letters_and_short) (B : Bd X N_p_need_letters_and_short V_p_need_letters_and_short G_p_need_letters_and_short 6) (T : Bt X V_p_need_letters_and_short) (c_p_need_letters : Cal X.prog X.w X.K X.mg X.base 3 "need_letters" s_p_need_letters ["letters"] (sp_p_need_letters X.K)) (c_p_need_short : Cal X.prog X.w X.K X.mg X.base 6 "need_short" s_p_need_short ["short", "letters"] (sp_p_need_short X.K)) (letters : Int) (short : (List ((List Int) × Int))) (b : Unit) (F0 : Hp) (os : Os) (D : Ends) (hm : m_p_need_letters_and_short letters short = some b) (R : RetZ F0 (os) (dat PyData.none) D) :
    SX X [sl (dat (PyData.int letters)), sl (dat (PyData.tuple (List.map (eP (eT PyData.int) PyData.int) short)))] (os) F0 (defBody s_p_need_letters_and_short) D := by
  unfold m_p_need_letters_and_short at hm
  obtain ⟨t1, h1, hm⟩ := bnd hm
  refine sx_expr (ex_call (a := letters) (b := t1) (gi := 0) (rest := os) B rfl c_p_need_letters (by decide) h1 (ax_cons (ex_v (i := 0) (j := 0) B rfl rfl rfl) ax_nil)) ?_
  obtain ⟨t2, h2, hm⟩ := bnd hm
  refine sx_expr (ex_call (a := (short, letters)) (b := t2) (gi := 1) (rest := os) B rfl c_p_need_short (by decide) h2 (ax_cons (ex_v (i := 1) (j := 1) B rfl rfl rfl) (ax_cons (ex_v (i := 0) (j := 0) B rfl rfl rfl) ax_nil))) ?_
  obtain rfl := som hm
  exact sx_end fun F σ H e o => R.nx σ H (R.rt F H .non e o (cl_dat .non))
theorem cal_p_need_letters_and_short {P : Program} {w : World} {K : PySem.W.Frag} {mg : Str → Option Value} {base : Heap} {f : Addr} {fd : FuncData} (Fn : Fun K "need_letters_and_short" "need_letters_and_short" s_p_need_letters_and_short f fd) (hmg : mg "need_letters_and_short" = some (.ref f)) (hb : Binds K fd ["letters", "short"] []) (c_p_need_letters : Cal P w K mg base 3 "need_letters" s_p_need_letters ["letters"] (sp_p_need_letters K)) (c_p_need_short : Cal P w K mg base 6 "need_short" s_p_need_short ["short", "letters"] (sp_p_need_short K)) : Cal P w K mg base 7 "need_letters_and_short" s_p_need_letters_and_short ["letters", "short"] (sp_p_need_letters_and_short K) :=
  cal_Z (V := V_p_need_letters_and_short) (Gs := G_p_need_letters_and_short) (nl := 0) Fn sc_p_need_letters_and_short (by decide +kernel) (by decide +kernel) hmg hb (fun _ => rfl) rfl fun _ _ _ _ _ _ _ a b F0 os D B T hm R => body_p_need_letters_and_short rfl B T c_p_need_letters c_p_need_short a.1 a.2 b F0 os D hm R
/-! ### is_short -/
abbrev s_p_is_short : Stmt := top 37
def N_p_is_short : List Str := ["letters", "value"]
def V_p_is_short : List Str := ["letters", "value"]
def G_p_is_short : List Str := ["need_letters", "is_a_short"]
theorem sc_p_is_short : FnScope N_p_is_short ["letters", "value"] (defScope s_p_is_short) := ⟨rfl, rfl, rfl, by decide +kernel, rfl, by decide +kernel, by decide +kernel⟩
abbrev sp_p_is_short (K : PySem.W.Frag) : Sp := spZ (α := (Int × (List ((List Int) × Int)))) (β := Bool) (fun a => [(dat (PyData.int a.1)), (dat (PyData.tuple (List.map (eP (eT PyData.int) PyData.int) a.2)))]) (fun a => []) (fun a => m_p_is_short a.1 a.2) (fun a b => (dat (PyData.bool b))) (fun a b => [])
set_option maxHeartbeats 4000000 in
theorem body_p_is_short {X : Cx} (hsc : X.env.scope = defScope s_p_is_short) (B : Bd X N_p_is_short V_p_is_short G_p_is_short 5) (T : Bt X V_p_is_short) (c_p_need_letters : Cal X.prog X.w X.K X.mg X.base 3 "need_letters" s_p_need_letters ["letters"] (sp_p_need_letters X.K)) (c_p_is_a_short : Cal X.prog X.w X.K X.mg X.base 5 "is_a_short" s_p_is_a_short ["value", "letters"] (sp_p_is_a_short X.K)) (letters : Int) (value : (List ((List Int) × Int))) (b : Bool) (F0 : Hp) (os : Os) (D : Ends) (hm : m_p_is_short letters value = some b) (R : RetZ F0 (os) (dat (PyData.bool b)) D) :
    SX X [sl (dat (PyData.int letters)), sl (dat (PyData.tuple (List.map (eP (eT PyData.int) PyData.int) value)))] (os) F0 (defBody s_p_is_short) D := by
  unfold m_p_is_short at hm
  obtain ⟨t1, h1, hm⟩ := bnd hm
  refine sx_expr (ex_call (a := letters) (b := t1) (gi := 0) (rest := os) B rfl c_p_need_letters (by decide) h1 (ax_cons (ex_v (i := 0) (j := 0) B rfl rfl rfl) ax_nil)) ?_
  obtain ⟨t2, h2, hm⟩ := bnd hm
  obtain rfl := som hm
  exact sx_ret (ex_call (a := (value, letters)) (b := t2) (gi := 1) (rest := os) B rfl c_p_is_a_short (by decide) h2 (ax_cons (ex_v (i := 1) (j := 1) B rfl rfl rfl) (ax_cons (ex_v (i := 0) (j := 0) B rfl rfl rfl) ax_nil))) (fun F H v e o c => R.rt F H v e o c)
theorem cal_p_is_short {P : Program} {w : World} {K : PySem.W.Frag} {mg : Str → Option Value} {base : Heap} {f : Addr} {fd : FuncData} (Fn : Fun K "is_short" "is_short" s_p_is_short f fd) (hmg : mg "is_short" = some (.ref f)) (hb : Binds K fd ["letters", "value"] []) (c_p_need_letters : Cal P w K mg base 3 "need_letters" s_p_need_letters ["letters"] (sp_p_need_letters K)) (c_p_is_a_short : Cal P w K mg base 5 "is_a_short" s_p_is_a_short ["value", "letters"] (sp_p_is_a_short K)) : Cal P w K mg base 6 "is_short" s_p_is_short ["letters", "value"] (sp_p_is_short K) :=
  cal_Z (V := V_p_is_short) (Gs := G_p_is_short) (nl := 0) Fn sc_p_is_short (by decide +kernel) (by decide +kernel) hmg hb (fun _ => rfl) rfl fun _ _ _ _ _ _ _ a b F0 os D B T hm R => body_p_is_short rfl B T c_p_need_letters c_p_is_a_short a.1 a.2 b F0 os D hm R
/-! ### short_length -/
abbrev s_p_short_length : Stmt := top 38
def N_p_short_length : List Str := ["letters", "short"]
def V_p_short_length : List Str := ["letters", "short"]
def G_p_short_length : List Str := ["need_letters_and_short", "steps_in", "straight_list"]
theorem sc_p_short_length : FnScope N_p_short_length ["letters", "short"] (defScope s_p_short_length) := ⟨rfl, rfl, rfl, by decide +kernel, rfl, by decide +kernel, by decide +kernel⟩
abbrev sp_p_short_length (K : PySem.W.Frag) : Sp := spZ (α := (Int × (List ((List Int) × Int)))) (β := Int) (fun a => [(dat (PyData.int a.1)), (dat (PyData.tuple (List.map (eP (eT PyData.int) PyData.int) a.2)))]) (fun a => []) (fun a => m_p_short_length a.1 a.2) (fun a b => (dat (PyData.int b))) (fun a b => [])
set_option maxHeartbeats 4000000 in
theorem body_p_short_length {X : Cx} (hsc : X.env.scope = defScope s_p_short_length) (B : Bd X N_p_short_length V_p_short_length G_p_short_length 7) (T : Bt X V_p_short_length) (c_p_need_letters_and_short : Cal X.prog X.w X.K X.mg X.base 7 "need_letters_and_short" s_p_need_letters_and_short ["letters", "short"] (sp_p_need_letters_and_short X.K)) (c_p_steps_in : Cal X.prog X.w X.K X.mg X.base 1 "steps_in" s_p_steps_in ["done"] (sp_p_steps_in X.K)) (c_p_straight_list : Cal X.prog X.w X.K X.mg X.base 4 "straight_list" s_p_straight_list ["short"] (sp_p_straight_list X.K)) (letters : Int) (short : (List ((List Int) × Int))) (b : Int) (F0 : Hp) (os : Os) (D : Ends) (hm : m_p_short_length letters short = some b) (R : RetZ F0 (os) (dat (PyData.int b)) D) :
    SX X [sl (dat (PyData.int letters)), sl (dat (PyData.tuple (List.map (eP (eT PyData.int) PyData.int) short)))] (os) F0 (defBody s_p_short_length) D := by
  unfold m_p_short_length at hm
  obtain ⟨t1, h1, hm⟩ := bnd hm
  refine sx_expr (ex_call (a := (letters, short)) (b := t1) (gi := 0) (rest := os) B rfl c_p_need_letters_and_short (by decide) h1 (ax_cons (ex_v (i := 0) (j := 0) B rfl rfl rfl) (ax_cons (ex_v (i := 1) (j := 1) B rfl rfl rfl) ax_nil))) ?_
  obtain ⟨t2, h2, hm⟩ := bnd hm
  obtain ⟨t3, h3, hm⟩ := bnd hm
  obtain rfl := som hm
  exact sx_ret (ex_call (a := t2) (b := t3) (gi := 1) (rest := os) B rfl c_p_steps_in (by decide) h3 (ax_cons (ex_call (a := short) (b := t2) (gi := 2) (rest := os) B rfl c_p_straight_list (by decide) h2 (ax_cons (ex_v (i := 1) (j := 1) B rfl rfl rfl) ax_nil)) ax_nil)) (fun F H v e o c => R.rt F H v e o c)
theorem cal_p_short_length {P : Program} {w : World} {K : PySem.W.Frag} {mg : Str → Option Value} {base : Heap} {f : Addr} {fd : FuncData} (Fn : Fun K "short_length" "short_length" s_p_short_length f fd) (hmg : mg "short_length" = some (.ref f)) (hb : Binds K fd ["letters", "short"] []) (c_p_need_letters_and_short : Cal P w K mg base 7 "need_letters_and_short" s_p_need_letters_and_short ["letters", "short"] (sp_p_need_letters_and_short K)) (c_p_steps_in : Cal P w K mg base 1 "steps_in" s_p_steps_in ["done"] (sp_p_steps_in K)) (c_p_straight_list : Cal P w K mg base 4 "straight_list" s_p_straight_list ["short"] (sp_p_straight_list K)) : Cal P w K mg base 8 "short_length" s_p_short_length ["letters", "short"] (sp_p_short_length K) :=
  cal_Z (V := V_p_short_length) (Gs := G_p_short_length) (nl := 0) Fn sc_p_short_length (by decide +kernel) (by decide +kernel) hmg hb (fun _ => rfl) rfl fun _ _ _ _ _ _ _ a b F0 os D B T hm R => body_p_short_length rfl B T c_p_need_letters_and_short c_p_steps_in c_p_straight_list a.1 a.2 b F0 os D hm R
/-! ### short_steps -/
abbrev s_p_short_steps : Stmt := top 39
def N_p_short_steps : List Str := ["letters", "short", "place", "count", "done", "length", "found", "stretch", "at"]
def V_p_short_steps : List Str := ["letters", "short", "place", "count", "done", "length", "found", "stretch"]
def G_p_short_steps : List Str := ["need_letters_and_short", "straight_list", "steps_in", "need_number", "min", "MOST_STEPS", "cut_out", "range", "tuple"]
theorem sc_p_short_steps : FnScope N_p_short_steps ["letters", "short", "place", "count"] (defScope s_p_short_steps) := ⟨rfl, rfl, rfl, by decide +kernel, rfl, by decide +kernel, by decide +kernel⟩
abbrev sp_p_short_steps (K : PySem.W.Frag) : Sp := spZ (α := (Int × (List ((List Int) × Int)) × Int × Int)) (β := (List Int)) (fun a => [(dat (PyData.int a.1)), (dat (PyData.tuple (List.map (eP (eT PyData.int) PyData.int) a.2.1))), (dat (PyData.int a.2.2.1)), (dat (PyData.int a.2.2.2))]) (fun a => []) (fun a => m_p_short_steps a.1 a.2.1 a.2.2.1 a.2.2.2) (fun a b => (dat (PyData.tuple (List.map PyData.int b)))) (fun a b => [])
set_option maxHeartbeats 4000000 in
theorem body_p_short_steps {X : Cx} (hsc : X.env.scope = defScope s_p_short_steps) (B : Bd X N_p_short_steps V_p_short_steps G_p_short_steps 7) (T : Bt X V_p_short_steps) {tk_MOST_STEPS : Tok} (c_p_need_letters_and_short : Cal X.prog X.w X.K X.mg X.base 7 "need_letters_and_short" s_p_need_letters_and_short ["letters", "short"] (sp_p_need_letters_and_short X.K)) (c_p_straight_list : Cal X.prog X.w X.K X.mg X.base 4 "straight_list" s_p_straight_list ["short"] (sp_p_straight_list X.K)) (c_p_steps_in : Cal X.prog X.w X.K X.mg X.base 1 "steps_in" s_p_steps_in ["done"] (sp_p_steps_in X.K)) (c_p_need_number : Cal X.prog X.w X.K X.mg X.base 1 "need_number" s_p_need_number ["number", "low", "high"] (sp_p_need_number X.K)) (g_min : X.mg "min" = none) (g_MOST_STEPS : X.mg "MOST_STEPS" = some (.int 60 tk_MOST_STEPS)) (c_p_cut_out : Cal X.prog X.w X.K X.mg X.base 2 "cut_out" s_p_cut_out ["done", "begin", "end"] (sp_p_cut_out X.K)) (g_range : X.mg "range" = none) (c_p_step_of : Cal X.prog X.w X.K X.mg X.base 1 "step_of" s_p_step_of ["stretch", "place"] (sp_p_step_of X.K)) (g_tuple : X.mg "tuple" = none) (letters : Int) (short : (List ((List Int) × Int))) (place : Int) (count : Int) (b : (List Int)) (F0 : Hp) (os : Os) (D : Ends) (hm : m_p_short_steps letters short place count = some b) (R : RetZ F0 (os) (dat (PyData.tuple (List.map PyData.int b))) D) :
    SX X [sl (dat (PyData.int letters)), sl (dat (PyData.tuple (List.map (eP (eT PyData.int) PyData.int) short))), sl (dat (PyData.int place)), sl (dat (PyData.int count)), un, un, un, un, un] (os) F0 (defBody s_p_short_steps) D := by
  unfold m_p_short_steps at hm
  obtain ⟨t1, h1, hm⟩ := bnd hm
  refine sx_expr (ex_call (a := (letters, short)) (b := t1) (gi := 0) (rest := os) B rfl c_p_need_letters_and_short (by decide) h1 (ax_cons (ex_v (i := 0) (j := 0) B rfl rfl rfl) (ax_cons (ex_v (i := 1) (j := 1) B rfl rfl rfl) ax_nil))) ?_
  obtain ⟨t2, h2, hm⟩ := bnd hm
  refine sx_asg (i := 4) (vi := 4) (φ := (dat (PyData.list (List.map (eP3 (eT PyData.int) PyData.int PyData.int) t2)))) B T rfl rfl (ex_call (a := short) (b := t2) (gi := 1) (rest := os) B rfl c_p_straight_list (by decide) h2 (ax_cons (ex_v (i := 1) (j := 1) B rfl rfl rfl) ax_nil)) ?_
  obtain ⟨t3, h3, hm⟩ := bnd hm
  refine sx_asg (i := 5) (vi := 5) (φ := (dat (PyData.int t3))) B T rfl rfl (ex_call (a := t2) (b := t3) (gi := 2) (rest := os) B rfl c_p_steps_in (by decide) h3 (ax_cons (ex_v (i := 4) (j := 4) B rfl rfl rfl) ax_nil)) ?_
  obtain ⟨t4, h4, hm⟩ := bnd hm
  refine sx_expr (ex_call (a := (place, 0, (t3 - 1))) (b := t4) (gi := 3) (rest := os) B rfl c_p_need_number (by decide) h4 (ax_cons (ex_v (i := 2) (j := 2) B rfl rfl rfl) (ax_cons ex_int (ax_cons (ex_sub (ex_v (i := 5) (j := 5) B rfl rfl rfl) ex_int) ax_nil)))) ?_
  obtain ⟨t5, h5, hm⟩ := bnd hm
  refine sx_expr (ex_call (a := (count, 1, (minI 60 (t3 - place)))) (b := t5) (gi := 3) (rest := os) B rfl c_p_need_number (by decide) h5 (ax_cons (ex_v (i := 3) (j := 3) B rfl rfl rfl) (ax_cons ex_int (ax_cons (ex_fn (j := 4) B rfl g_min (by decide +kernel) (call_min2 B.calm) rc_min (ax_cons (ex_g (j := 5) B rfl g_MOST_STEPS) (ax_cons (ex_sub (ex_v (i := 5) (j := 5) B rfl rfl rfl) (ex_v (i := 2) (j := 2) B rfl rfl rfl)) ax_nil))) ax_nil)))) ?_
  refine sx_asgN (i := 6) (vi := 6) (n := ol (List.map PyData.int ([] : (List Int)))) B T rfl rfl (en_lst (ds := []) ax_nil) (fun q_found5 => ?_)
  obtain ⟨t6, h6, hm⟩ := bnd hm
  obtain ⟨f9, h18, hm⟩ := bnd hm
  refine sx_for (c := anyOs) (fun (s7 : (List Int)) (stretch8 : (Tri (List Int) Int Int)) => ((rngO 0 stretch8.c).bind fun t12 => (lcO (β := Int) (fun (at_13 : Int) => ((m_p_step_of stretch8 at_13).bind fun t15 => some t15)) t12).bind fun t16 => (catO (α := Int) s7 t16).bind fun t17 => some t17)) (fun (s7 : (List Int)) (_ : Unit) => [sl (dat (PyData.int letters)), sl (dat (PyData.tuple (List.map (eP (eT PyData.int) PyData.int) short))), sl (dat (PyData.int place)), sl (dat (PyData.int count)), sl (dat (PyData.list (List.map (eP3 (eT PyData.int) PyData.int PyData.int) t2))), sl (dat (PyData.int t3)), sl (own q_found5), un, un]) (fun (s7 : (List Int)) (_ : Unit) => (q_found5, ol (List.map PyData.int s7)) :: os) B T (fun stretch8 => gx_name (i := 7) (vi := 7) (φ := (dat (PyData.tuple [(PyData.tuple (List.map PyData.int stretch8.a)), (PyData.int stretch8.b), (PyData.int stretch8.c)]))) B T rfl rfl) ([] : (List Int)) () f9 h18 (ix_list (enc := (eP3 (eT PyData.int) PyData.int PyData.int)) (c := anyOs) (ex_call (a := (t2, place, (place + count))) (b := t6) (gi := 6) (rest := (q_found5, ol (List.map PyData.int ([] : (List Int)))) :: os) B rfl c_p_cut_out (by decide) h6 (ax_cons (ex_v (i := 4) (j := 4) B rfl rfl rfl) (ax_cons (ex_v (i := 2) (j := 2) B rfl rfl rfl) (ax_cons (ex_add (ex_v (i := 2) (j := 2) B rfl rfl rfl) (ex_v (i := 3) (j := 3) B rfl rfl rfl)) ax_nil)))) (fun _ _ => rdl_dat) trivial) ⟨.inl rfl, .inl rfl, .inl rfl, .inl rfl, .inl rfl, .inl rfl, .inl rfl, .inl rfl, .inl rfl, trivial⟩ (fun _ _ => trivial) (fun F11 e10 s7 _ stretch8 z19 hx hm => ?_) (fun _ => ?_)
  · clear h18
    obtain ⟨t12, h12, hm⟩ := bnd hm
    obtain ⟨t16, h16, hm⟩ := bnd hm
    obtain ⟨t17, h17, hm⟩ := bnd hm
    refine sx_expr (ex_extend (enc := PyData.int) (j := 0) (xs0 := s7) (xs := s7) (ys := t16) h17 (ex_v (i := 6) (j := 6) B rfl rfl rfl) rfl (en_lc (lc_mk1 (j := 8) (vp := fun at_13 => (dat (PyData.int at_13))) (c := anyOs) (enc := PyData.int) (fun (_ : Unit) (at_13 : Int) => ((fun (at_13 : Int) => ((m_p_step_of stretch8 at_13).bind fun t15 => some t15)) at_13).map fun y => (some y, ())) (fun (_ : Unit) (tl1 : Os) => (q_found5, ol (List.map PyData.int s7)) :: tl1) () (t16) () B rfl rfl (by rw [B.hN, hsc]; decide +kernel) (by rw [hsc]; decide +kernel) (by decide) (lcO_ok h16) (ix_rng1 (gi := 7) B rfl g_range h12 (ex_ixT rdt_dat (by rfl) (ex_v (i := 7) (j := 7) B rfl rfl rfl) ex_int)) (fun _ _ => trivial) (fun _ _ _ => (List.Perm.swap _ _ _)) (fun _ at_13 t tl1 hx hf => by (obtain ⟨y, hy, rfl⟩ := Option.map_eq_some_iff.mp hf; obtain ⟨t15, h15, hy⟩ := bnd hy; obtain rfl := som hy; exact ⟨true, _, fun X1 hX => by (have B1 := Bd.fam (W' := ["stretch", "at"]) (G' := ["step_of"]) B hX (by (try rw [hsc]); decide +kernel); have c_p_step_of' := fam_cal hX c_p_step_of; exact ⟨.nil, fun _ => ⟨_, rfl, (ex_call (a := (stretch8, at_13)) (b := t15) (gi := 0) (rest := (q_found5, ol (List.map PyData.int s7)) :: tl1) B1 rfl c_p_step_of' (by decide) h15 (ax_cons (ex_v (i := 7) (j := 0) B1 rfl rfl rfl) (ax_cons (ex_v (i := 8) (j := 1) B1 rfl rfl rfl) ax_nil)))⟩, fun h => Bool.noConfusion h⟩)⟩)))) rfl) ?_
    obtain rfl := som hm
    exact sx_nil fun σ H a => ⟨(), (a.weak ⟨.inl rfl, .inl rfl, .inl rfl, .inl rfl, .inl rfl, .inl rfl, .inl rfl, .inr rfl, .inl rfl, trivial⟩)⟩
  · skip
    refine sx_frz (j := 0) (i := 6) rfl rfl ?_
    obtain rfl := som hm
    exact sx_ret (ex_ty (j := 8) B rfl g_tuple (by decide +kernel) call_tuple_of (rc_tupL (ds := List.map PyData.int f9) rdl_dat) (ax_cons (ex_v (i := 6) (j := 6) B rfl rfl rfl) ax_nil)) (fun F H v e o c => R.rt F H v e o c)
theorem cal_p_short_steps {P : Program} {w : World} {K : PySem.W.Frag} {mg : Str → Option Value} {base : Heap} {f : Addr} {fd : FuncData} (Fn : Fun K "short_steps" "short_steps" s_p_short_steps f fd) (hmg : mg "short_steps" = some (.ref f)) (hb : Binds K fd ["letters", "short", "place", "count"] []) {tk_MOST_STEPS : Tok} (c_p_need_letters_and_short : Cal P w K mg base 7 "need_letters_and_short" s_p_need_letters_and_short ["letters", "short"] (sp_p_need_letters_and_short K)) (c_p_straight_list : Cal P w K mg base 4 "straight_list" s_p_straight_list ["short"] (sp_p_straight_list K)) (c_p_steps_in : Cal P w K mg base 1 "steps_in" s_p_steps_in ["done"] (sp_p_steps_in K)) (c_p_need_number : Cal P w K mg base 1 "need_number" s_p_need_number ["number", "low", "high"] (sp_p_need_number K)) (g_min : mg "min" = none) (g_MOST_STEPS : mg "MOST_STEPS" = some (.int 60 tk_MOST_STEPS)) (c_p_cut_out : Cal P w K mg base 2 "cut_out" s_p_cut_out ["done", "begin", "end"] (sp_p_cut_out K)) (g_range : mg "range" = none) (c_p_step_of : Cal P w K mg base 1 "step_of" s_p_step_of ["stretch", "place"] (sp_p_step_of K)) (g_tuple : mg "tuple" = none) : Cal P w K mg base 8 "short_steps" s_p_short_steps ["letters", "short", "place", "count"] (sp_p_short_steps K) :=
  cal_Z (V := V_p_short_steps) (Gs := G_p_short_steps) (nl := 5) Fn sc_p_short_steps (by decide +kernel) (by decide +kernel) hmg hb (fun _ => rfl) rfl fun _ _ _ _ _ _ _ a b F0 os D B T hm R => body_p_short_steps rfl B T c_p_need_letters_and_short c_p_straight_list c_p_steps_in c_p_need_number g_min g_MOST_STEPS c_p_cut_out g_range c_p_step_of g_tuple a.1 a.2.1 a.2.2.1 a.2.2.2 b F0 os D hm R
/-! ### parting_place -/
abbrev s_p_parting_place : Stmt := top 40
def N_p_parting_place : List Str := ["one", "other", "first", "second", "ahead", "left", "right", "most", "many"]
def V_p_parting_place : List Str := ["one", "other", "first", "second", "ahead", "left", "right", "most", "many"]
def G_p_parting_place : List Str := ["len", "min", "common_beginning", "rest_of"]
theorem sc_p_parting_place : FnScope N_p_parting_place ["one", "other"] (defScope s_p_parting_place) := ⟨rfl, rfl, rfl, by decide +kernel, rfl, by decide +kernel, by decide +kernel⟩
abbrev sp_p_parting_place (K : PySem.W.Frag) : Sp := spZ (α := ((List (Tri (List Int) Int Int)) × (List (Tri (List Int) Int Int)))) (β := (Option Int)) (fun a => [(dat (PyData.list (List.map (eP3 (eT PyData.int) PyData.int PyData.int) a.1))), (dat (PyData.list (List.map (eP3 (eT PyData.int) PyData.int PyData.int) a.2)))]) (fun a => []) (fun a => m_p_parting_place a.1 a.2) (fun a b => (dat ((eO PyData.int) b))) (fun a b => [])
set_option maxHeartbeats 4000000 in
theorem body_p_parting_place {X : Cx} (hsc : X.env.scope = defScope s_p_parting_place) (B : Bd X N_p_parting_place V_p_parting_place G_p_parting_place 2) (T : Bt X V_p_parting_place) (g_len : X.mg "len" = none) (g_min : X.mg "min" = none) (c_p_common_beginning : Cal X.prog X.w X.K X.mg X.base 2 "common_beginning" s_p_common_beginning ["one", "other"] (sp_p_common_beginning X.K)) (c_p_rest_of : Cal X.prog X.w X.K X.mg X.base 1 "rest_of" s_p_rest_of ["stretch", "many"] (sp_p_rest_of X.K)) (one : (List (Tri (List Int) Int Int))) (other : (List (Tri (List Int) Int Int))) (b : (Option Int)) (F0 : Hp) (os : Os) (D : Ends) (hm : m_p_parting_place one other = some b) (R : RetZ F0 (os) (dat ((eO PyData.int) b)) D) :
    SX X [sl (dat (PyData.list (List.map (eP3 (eT PyData.int) PyData.int PyData.int) one))), sl (dat (PyData.list (List.map (eP3 (eT PyData.int) PyData.int PyData.int) other))), un, un, un, un, un, un, un] (os) F0 (defBody s_p_parting_place) D := by
  unfold m_p_parting_place at hm
  refine sx_par3 (i := 2) (j := 3) (l := 4) _ hsc B rfl rfl rfl (by decide) (by decide) (by decide) (by decide +kernel) (by decide +kernel) (by decide +kernel) (by intro env he; cases env; cases he; first | rfl | kernel_rfl) (aq_n (n := ol (List.map (eP3 (eT PyData.int) PyData.int PyData.int) one.reverse)) (en_rev (enc := (eP3 (eT PyData.int) PyData.int PyData.int)) rdl_dat (ex_v (i := 0) (j := 0) B rfl rfl rfl)) (fun q_first1 => (aq_n (n := ol (List.map (eP3 (eT PyData.int) PyData.int PyData.int) other.reverse)) (en_rev (enc := (eP3 (eT PyData.int) PyData.int PyData.int)) rdl_dat (ex_v (i := 1) (j := 1) B rfl rfl rfl)) (fun q_second2 => (aq_x (φ := (dat (PyData.int 0))) ex_int aq_nil))))) (fun v0 v1 v2 os_ hr_ => ?_) (by rintro φs os_ ⟨q_first1, _, rfl, q_second2, _, rfl, _, rfl, rfl, rfl⟩; exact ⟨_, _, _, rfl⟩)
  obtain ⟨q_first1, _, e0, q_second2, _, e1, _, e2, e8, e9⟩ := hr_
  cases e0; cases e1; cases e2; cases e8; cases e9
  obtain ⟨f4o, h17, hm⟩ := bnd hm
  refine sx_while (fun (s3 : (Int × (List (Tri (List Int) Int Int)) × (List (Tri (List Int) Int Int)))) => some ((decide (0 < (s3.2.2.length : Int))) && (decide (0 < (s3.2.1.length : Int))))) (fun (s3 : (Int × (List (Tri (List Int) Int Int)) × (List (Tri (List Int) Int Int)))) => (((popO s3.2.2).bind fun t7 => (popO s3.2.1).bind fun t8 => ((m_p_common_beginning t7.1 t8.1).bind fun t9 => (if (decide (t9 < (minI t7.1.c t8.1.c))) = true then some (Step.ret (some (s3.1 + t9))) else ((if (decide ((minI t7.1.c t8.1.c) < t7.1.c)) = true then ((m_p_rest_of t7.1 (minI t7.1.c t8.1.c)).bind fun t10 => (appO t7.2 t10).bind fun t11 => some t11) else some t7.2 : Option (List (Tri (List Int) Int Int))).bind fun s12 => ((if (decide ((minI t7.1.c t8.1.c) < t8.1.c)) = true then ((m_p_rest_of t8.1 (minI t7.1.c t8.1.c)).bind fun t13 => (appO t8.2 t13).bind fun t14 => some t14) else some t8.2 : Option (List (Tri (List Int) Int Int))).bind fun s15 => some (Step.go ((s3.1 + (minI t7.1.c t8.1.c)), s15, s12))))))) : Option (Step (Option Int) (Int × (List (Tri (List Int) Int Int)) × (List (Tri (List Int) Int Int)))))) (fun (s3 : (Int × (List (Tri (List Int) Int Int)) × (List (Tri (List Int) Int Int)))) (_ : Unit) => [sl (dat (PyData.list (List.map (eP3 (eT PyData.int) PyData.int PyData.int) one))), sl (dat (PyData.list (List.map (eP3 (eT PyData.int) PyData.int PyData.int) other))), sl (own q_first1), sl (own q_second2), sl (dat (PyData.int s3.1)), un, un, un, un]) (fun (s3 : (Int × (List (Tri (List Int) Int Int)) × (List (Tri (List Int) Int Int)))) (_ : Unit) => (q_second2, ol (List.map (eP3 (eT PyData.int) PyData.int PyData.int) s3.2.1)) :: (q_first1, ol (List.map (eP3 (eT PyData.int) PyData.int PyData.int) s3.2.2)) :: os) (fun (r : (Option Int)) v H => ∃ F, Same F0 F ∧ Ow F (os) H ∧ Cl (dat ((eO PyData.int) r)) F v) T 1000 (0, other.reverse, one.reverse) () f4o h17 ⟨.inl rfl, .inl rfl, .inl rfl, .inl rfl, .inl rfl, .inl rfl, .inl rfl, .inl rfl, .inl rfl, trivial⟩ rfl (fun s3 _ b hm => by (obtain rfl := som hm; exact (WX.tx (wx_and (tx_cmp op_gt r2_gt (nomark _) (EX.to (ex_fn (j := 0) B rfl g_len (by decide +kernel) call_len_seq (rc_lenL (ds := List.map (eP3 (eT PyData.int) PyData.int PyData.int) s3.2.2) (rdl_own 1 rfl)) (ax_cons (ex_v (i := 2) (j := 2) B rfl rfl rfl) ax_nil)) (by rw [List.length_map])) ex_int) (fun _ => (wx_and1 (tx_cmp op_gt r2_gt (nomark _) (EX.to (ex_fn (j := 0) B rfl g_len (by decide +kernel) call_len_seq (rc_lenL (ds := List.map (eP3 (eT PyData.int) PyData.int PyData.int) s3.2.1) (rdl_own 0 rfl)) (ax_cons (ex_v (i := 3) (j := 3) B rfl rfl rfl) ax_nil)) (by rw [List.length_map])) ex_int))) (fun _ => rfl) rfl)))) (fun F6 e5 s3 _ z18 _ hm => ?_) (fun f4 _ ho => ?_) (fun r16 v H ho hr => ?_)
  · clear h17
    obtain ⟨t7, h7, hm⟩ := bnd hm
    obtain ⟨t8, h8, hm⟩ := bnd hm
    refine sx_par2 (i := 5) (j := 6) _ hsc B rfl rfl (by decide) (by decide +kernel) (by decide +kernel) (by intro env he; cases env; cases he; first | rfl | kernel_rfl) (aq_x (φ := (dat (PyData.tuple [(PyData.tuple (List.map PyData.int t7.1.a)), (PyData.int t7.1.b), (PyData.int t7.1.c)]))) (ex_popO (enc := (eP3 (eT PyData.int) PyData.int PyData.int)) (j := 1) h7 (ex_v (i := 2) (j := 2) B rfl rfl rfl) rfl) (aq_x (φ := (dat (PyData.tuple [(PyData.tuple (List.map PyData.int t8.1.a)), (PyData.int t8.1.b), (PyData.int t8.1.c)]))) (ex_popO (enc := (eP3 (eT PyData.int) PyData.int PyData.int)) (j := 0) h8 (ex_v (i := 3) (j := 3) B rfl rfl rfl) rfl) aq_nil)) (fun v0 v1 os_ hr_ => ?_) (by rintro φs os_ ⟨_, rfl, _, rfl, rfl, rfl⟩; exact ⟨_, _, rfl⟩)
    obtain ⟨_, e0, _, e1, e8, e9⟩ := hr_
    cases e0; cases e1; cases e8; cases e9
    refine sx_asg (i := 7) (vi := 7) (φ := (dat (PyData.int (minI t7.1.c t8.1.c)))) B T rfl rfl (ex_fn (j := 1) B rfl g_min (by decide +kernel) (call_min2 B.calm) rc_min (ax_cons (ex_ixT rdt_dat (by rfl) (ex_v (i := 5) (j := 5) B rfl rfl rfl) ex_int) (ax_cons (ex_ixT rdt_dat (by rfl) (ex_v (i := 6) (j := 6) B rfl rfl rfl) ex_int) ax_nil))) ?_
    obtain ⟨t9, h9, hm⟩ := bnd hm
    refine sx_asg (i := 8) (vi := 8) (φ := (dat (PyData.int t9))) B T rfl rfl (ex_call (a := (t7.1, t8.1)) (b := t9) (gi := 2) (rest := (q_second2, ol (List.map (eP3 (eT PyData.int) PyData.int PyData.int) t8.2)) :: (q_first1, ol (List.map (eP3 (eT PyData.int) PyData.int PyData.int) t7.2)) :: os) B rfl c_p_common_beginning (by decide) h9 (ax_cons (ex_v (i := 5) (j := 5) B rfl rfl rfl) (ax_cons (ex_v (i := 6) (j := 6) B rfl rfl rfl) ax_nil))) ?_
    refine sx_if (tx_cmp op_lt r2_lt (nomark _) (ex_v (i := 8) (j := 8) B rfl rfl rfl) (ex_v (i := 7) (j := 7) B rfl rfl rfl)) (fun hk => ?_) (fun hk => ?_)
    · have hm := ifT hm hk
      exact sx_ret (ex_add (ex_v (i := 4) (j := 4) B rfl rfl rfl) (ex_v (i := 8) (j := 8) B rfl rfl rfl)) (fun F H v e o c => ⟨_, (som hm).symm, F, (e5.trans e), ((o.drop).drop), c⟩)
    · have hm := ifF hm hk
      refine sx_fall ?_ rfl
      refine sx_addI (i := 4) (vi := 4) B T rfl rfl rfl (ex_v (i := 7) (j := 7) B rfl rfl rfl) ?_
      obtain ⟨s12, h_s12, hm⟩ := bnd hm
      refine sx_join [sl (dat (PyData.list (List.map (eP3 (eT PyData.int) PyData.int PyData.int) one))), sl (dat (PyData.list (List.map (eP3 (eT PyData.int) PyData.int PyData.int) other))), sl (own q_first1), sl (own q_second2), sl (dat (PyData.int (s3.1 + (minI t7.1.c t8.1.c)))), sl (dat (PyData.tuple [(PyData.tuple (List.map PyData.int t7.1.a)), (PyData.int t7.1.b), (PyData.int t7.1.c)])), sl (dat (PyData.tuple [(PyData.tuple (List.map PyData.int t8.1.a)), (PyData.int t8.1.b), (PyData.int t8.1.c)])), sl (dat (PyData.int (minI t7.1.c t8.1.c))), sl (dat (PyData.int t9))] ((q_second2, ol (List.map (eP3 (eT PyData.int) PyData.int PyData.int) t8.2)) :: (q_first1, ol (List.map (eP3 (eT PyData.int) PyData.int PyData.int) s12)) :: os) (?_) (fun Q => ?_)
      · clear h_s12
        obtain ⟨s15, h_s15, hm⟩ := bnd hm
        refine sx_join [sl (dat (PyData.list (List.map (eP3 (eT PyData.int) PyData.int PyData.int) one))), sl (dat (PyData.list (List.map (eP3 (eT PyData.int) PyData.int PyData.int) other))), sl (own q_first1), sl (own q_second2), sl (dat (PyData.int (s3.1 + (minI t7.1.c t8.1.c)))), sl (dat (PyData.tuple [(PyData.tuple (List.map PyData.int t7.1.a)), (PyData.int t7.1.b), (PyData.int t7.1.c)])), sl (dat (PyData.tuple [(PyData.tuple (List.map PyData.int t8.1.a)), (PyData.int t8.1.b), (PyData.int t8.1.c)])), sl (dat (PyData.int (minI t7.1.c t8.1.c))), sl (dat (PyData.int t9))] ((q_second2, ol (List.map (eP3 (eT PyData.int) PyData.int PyData.int) s15)) :: (q_first1, ol (List.map (eP3 (eT PyData.int) PyData.int PyData.int) s12)) :: os) (?_) (fun Q => ?_)
        · clear h_s15
          exact sx_nil fun σ H a => ⟨_, (), (som hm).symm, (a.weak ⟨.inl rfl, .inl rfl, .inl rfl, .inl rfl, .inl rfl, .inr rfl, .inr rfl, .inr rfl, .inr rfl, trivial⟩)⟩
        · have hm := h_s15
          refine sx_if (tx_cmp op_lt r2_lt (nomark _) (ex_v (i := 7) (j := 7) B rfl rfl rfl) (ex_ixT rdt_dat (by rfl) (ex_v (i := 6) (j := 6) B rfl rfl rfl) ex_int)) (fun hk => ?_) (fun hk => ?_)
          · have hm := ifT hm hk
            obtain ⟨t13, h13, hm⟩ := bnd hm
            obtain ⟨t14, h14, hm⟩ := bnd hm
            refine sx_expr (ex_app (enc := (eP3 (eT PyData.int) PyData.int PyData.int)) (j := 0) (xs0 := t8.2) (xs := t8.2) (y := t13) h14 (ex_v (i := 3) (j := 3) B rfl rfl rfl) rfl (ex_call (a := (t8.1, (minI t7.1.c t8.1.c))) (b := t13) (gi := 3) (rest := (q_second2, ol (List.map (eP3 (eT PyData.int) PyData.int PyData.int) t8.2)) :: (q_first1, ol (List.map (eP3 (eT PyData.int) PyData.int PyData.int) s12)) :: os) B rfl c_p_rest_of (by decide) h13 (ax_cons (ex_v (i := 6) (j := 6) B rfl rfl rfl) (ax_cons (ex_v (i := 7) (j := 7) B rfl rfl rfl) ax_nil))) rfl) ?_
            obtain rfl := som hm
            exact sx_fall Q rfl
          · have hm := ifF hm hk
            obtain rfl := som hm
            exact sx_fall Q rfl
      · have hm := h_s12
        refine sx_if (tx_cmp op_lt r2_lt (nomark _) (ex_v (i := 7) (j := 7) B rfl rfl rfl) (ex_ixT rdt_dat (by rfl) (ex_v (i := 5) (j := 5) B rfl rfl rfl) ex_int)) (fun hk => ?_) (fun hk => ?_)
        · have hm := ifT hm hk
          obtain ⟨t10, h10, hm⟩ := bnd hm
          obtain ⟨t11, h11, hm⟩ := bnd hm
          refine sx_expr (ex_app (enc := (eP3 (eT PyData.int) PyData.int PyData.int)) (j := 1) (xs0 := t7.2) (xs := t7.2) (y := t10) h11 (ex_v (i := 2) (j := 2) B rfl rfl rfl) rfl (ex_call (a := (t7.1, (minI t7.1.c t8.1.c))) (b := t10) (gi := 3) (rest := (q_second2, ol (List.map (eP3 (eT PyData.int) PyData.int PyData.int) t8.2)) :: (q_first1, ol (List.map (eP3 (eT PyData.int) PyData.int PyData.int) t7.2)) :: os) B rfl c_p_rest_of (by decide) h10 (ax_cons (ex_v (i := 5) (j := 5) B rfl rfl rfl) (ax_cons (ex_v (i := 7) (j := 7) B rfl rfl rfl) ax_nil))) rfl) ?_
          obtain rfl := som hm
          exact sx_fall Q rfl
        · have hm := ifF hm hk
          obtain rfl := som hm
          exact sx_fall Q rfl
  · cases ho
    have hm := elimR hm
    refine sx_frz (j := 1) (i := 2) rfl rfl ?_
    refine sx_frz (j := 0) (i := 3) rfl rfl ?_
    obtain rfl := som hm
    exact sx_ret (ex_if (tx_cmp op_gt r2_gt (nomark _) (ex_add (EX.to (ex_fn (j := 0) B rfl g_len (by decide +kernel) call_len_seq (rc_lenL (ds := List.map (eP3 (eT PyData.int) PyData.int PyData.int) f4.2.2) rdl_dat) (ax_cons (ex_v (i := 2) (j := 2) B rfl rfl rfl) ax_nil)) (by rw [List.length_map])) (EX.to (ex_fn (j := 0) B rfl g_len (by decide +kernel) call_len_seq (rc_lenL (ds := List.map (eP3 (eT PyData.int) PyData.int PyData.int) f4.2.1) rdl_dat) (ax_cons (ex_v (i := 3) (j := 3) B rfl rfl rfl) ax_nil)) (by rw [List.length_map]))) ex_int) (fun hk => EX.to (ex_v (i := 4) (j := 4) B rfl rfl rfl) (by rw [if_pos hk])) (fun hk => EX.to ex_none (by rw [if_neg (by rw [hk]; exact Bool.false_ne_true)]))) (fun F H v e o c => R.rt F H v e o c)
  · cases ho
    have hm := elimL hm
    obtain rfl := som hm
    obtain ⟨F, e, o, c⟩ := hr
    exact R.rt F H v e o c
theorem cal_p_parting_place {P : Program} {w : World} {K : PySem.W.Frag} {mg : Str → Option Value} {base : Heap} {f : Addr} {fd : FuncData} (Fn : Fun K "parting_place" "parting_place" s_p_parting_place f fd) (hmg : mg "parting_place" = some (.ref f)) (hb : Binds K fd ["one", "other"] []) (g_len : mg "len" = none) (g_min : mg "min" = none) (c_p_common_beginning : Cal P w K mg base 2 "common_beginning" s_p_common_beginning ["one", "other"] (sp_p_common_beginning K)) (c_p_rest_of : Cal P w K mg base 1 "rest_of" s_p_rest_of ["stretch", "many"] (sp_p_rest_of K)) : Cal P w K mg base 3 "parting_place" s_p_parting_place ["one", "other"] (sp_p_parting_place K) :=
  cal_Z (V := V_p_parting_place) (Gs := G_p_parting_place) (nl := 7) Fn sc_p_parting_place (by decide +kernel) (by decide +kernel) hmg hb (fun _ => rfl) rfl fun _ _ _ _ _ _ _ a b F0 os D B T hm R => body_p_parting_place rfl B T g_len g_min c_p_common_beginning c_p_rest_of a.1 a.2 b F0 os D hm R
/-! ### first_unlike -/
abbrev s_p_first_unlike : Stmt := top 42
def N_p_first_unlike : List Str := ["letters", "one", "other"]
def V_p_first_unlike : List Str := ["letters", "one", "other"]
def G_p_first_unlike : List Str := ["need_letters_and_short", "need_short", "parting_place", "straight_list"]
theorem sc_p_first_unlike : FnScope N_p_first_unlike ["letters", "one", "other"] (defScope s_p_first_unlike) := ⟨rfl, rfl, rfl, by decide +kernel, rfl, by decide +kernel, by decide +kernel⟩
abbrev sp_p_first_unlike (K : PySem.W.Frag) : Sp := spZ (α := (Int × (List ((List Int) × Int)) × (List ((List Int) × Int)))) (β := (Option Int)) (fun a => [(dat (PyData.int a.1)), (dat (PyData.tuple (List.map (eP (eT PyData.int) PyData.int) a.2.1))), (dat (PyData.tuple (List.map (eP (eT PyData.int) PyData.int) a.2.2)))]) (fun a => []) (fun a => m_p_first_unlike a.1 a.2.1 a.2.2) (fun a b => (dat ((eO PyData.int) b))) (fun a b => [])
set_option maxHeartbeats 4000000 in
theorem body_p_first_unlike {X : Cx} (hsc : X.env.scope = defScope s_p_first_unlike) (B : Bd X N_p_first_unlike V_p_first_unlike G_p_first_unlike 7) (T : Bt X V_p_first_unlike) (c_p_need_letters_and_short : Cal X.prog X.w X.K X.mg X.base 7 "need_letters_and_short" s_p_need_letters_and_short ["letters", "short"] (sp_p_need_letters_and_short X.K)) (c_p_need_short : Cal X.prog X.w X.K X.mg X.base 6 "need_short" s_p_need_short ["short", "letters"] (sp_p_need_short X.K)) (c_p_parting_place : Cal X.prog X.w X.K X.mg X.base 3 "parting_place" s_p_parting_place ["one", "other"] (sp_p_parting_place X.K)) (c_p_straight_list : Cal X.prog X.w X.K X.mg X.base 4 "straight_list" s_p_straight_list ["short"] (sp_p_straight_list X.K)) (letters : Int) (one : (List ((List Int) × Int))) (other : (List ((List Int) × Int))) (b : (Option Int)) (F0 : Hp) (os : Os) (D : Ends) (hm : m_p_first_unlike letters one other = some b) (R : RetZ F0 (os) (dat ((eO PyData.int) b)) D) :
    SX X [sl (dat (PyData.int letters)), sl (dat (PyData.tuple (List.map (eP (eT PyData.int) PyData.int) one))), sl (dat (PyData.tuple (List.map (eP (eT PyData.int) PyData.int) other)))] (os) F0 (defBody s_p_first_unlike) D := by
  unfold m_p_first_unlike at hm
  obtain ⟨t1, h1, hm⟩ := bnd hm
  refine sx_expr (ex_call (a := (letters, one)) (b := t1) (gi := 0) (rest := os) B rfl c_p_need_letters_and_short (by decide) h1 (ax_cons (ex_v (i := 0) (j := 0) B rfl rfl rfl) (ax_cons (ex_v (i := 1) (j := 1) B rfl rfl rfl) ax_nil))) ?_
  obtain ⟨t2, h2, hm⟩ := bnd hm
  refine sx_expr (ex_call (a := (other, letters)) (b := t2) (gi := 1) (rest := os) B rfl c_p_need_short (by decide) h2 (ax_cons (ex_v (i := 2) (j := 2) B rfl rfl rfl) (ax_cons (ex_v (i := 0) (j := 0) B rfl rfl rfl) ax_nil))) ?_
  obtain ⟨t3, h3, hm⟩ := bnd hm
  obtain ⟨t4, h4, hm⟩ := bnd hm
  obtain ⟨t5, h5, hm⟩ := bnd hm
  obtain rfl := som hm
  exact sx_ret (ex_call (a := (t3, t4)) (b := t5) (gi := 2) (rest := os) B rfl c_p_parting_place (by decide) h5 (ax_cons (ex_call (a := one) (b := t3) (gi := 3) (rest := os) B rfl c_p_straight_list (by decide) h3 (ax_cons (ex_v (i := 1) (j := 1) B rfl rfl rfl) ax_nil)) (ax_cons (ex_call (a := other) (b := t4) (gi := 3) (rest := os) B rfl c_p_straight_list (by decide) h4 (ax_cons (ex_v (i := 2) (j := 2) B rfl rfl rfl) ax_nil)) ax_nil))) (fun F H v e o c => R.rt F H v e o c)
theorem cal_p_first_unlike {P : Program} {w : World} {K : PySem.W.Frag} {mg : Str → Option Value} {base : Heap} {f : Addr} {fd : FuncData} (Fn : Fun K "first_unlike" "first_unlike" s_p_first_unlike f fd) (hmg : mg "first_unlike" = some (.ref f)) (hb : Binds K fd ["letters", "one", "other"] []) (c_p_need_letters_and_short : Cal P w K mg base 7 "need_letters_and_short" s_p_need_letters_and_short ["letters", "short"] (sp_p_need_letters_and_short K)) (c_p_need_short : Cal P w K mg base 6 "need_short" s_p_need_short ["short", "letters"] (sp_p_need_short K)) (c_p_parting_place : Cal P w K mg base 3 "parting_place" s_p_parting_place ["one", "other"] (sp_p_parting_place K)) (c_p_straight_list : Cal P w K mg base 4 "straight_list" s_p_straight_list ["short"] (sp_p_straight_list K)) : Cal P w K mg base 8 "first_unlike" s_p_first_unlike ["letters", "one", "other"] (sp_p_first_unlike K) :=
  cal_Z (V := V_p_first_unlike) (Gs := G_p_first_unlike) (nl := 0) Fn sc_p_first_unlike (by decide +kernel) (by decide +kernel) hmg hb (fun _ => rfl) rfl fun _ _ _ _ _ _ _ a b F0 os D B T hm R => body_p_first_unlike rfl B T c_p_need_letters_and_short c_p_need_short c_p_parting_place c_p_straight_list a.1 a.2.1 a.2.2 b F0 os D hm R
/-! ### same_walk -/
abbrev s_p_same_walk : Stmt := top 41
def N_p_same_walk : List Str := ["letters", "one", "other"]
def V_p_same_walk : List Str := ["letters", "one", "other"]
def G_p_same_walk : List Str := ["first_unlike"]
theorem sc_p_same_walk : FnScope N_p_same_walk ["letters", "one", "other"] (defScope s_p_same_walk) := ⟨rfl, rfl, rfl, by decide +kernel, rfl, by decide +kernel, by decide +kernel⟩
abbrev sp_p_same_walk (K : PySem.W.Frag) : Sp := spZ (α := (Int × (List ((List Int) × Int)) × (List ((List Int) × Int)))) (β := Bool) (fun a => [(dat (PyData.int a.1)), (dat (PyData.tuple (List.map (eP (eT PyData.int) PyData.int) a.2.1))), (dat (PyData.tuple (List.map (eP (eT PyData.int) PyData.int) a.2.2)))]) (fun a => []) (fun a => m_p_same_walk a.1 a.2.1 a.2.2) (fun a b => (dat (PyData.bool b))) (fun a b => [])
set_option maxHeartbeats 4000000 in
theorem body_p_same_walk {X : Cx} (hsc : X.env.scope = defScope s_p_same_walk) (B : Bd X N_p_same_walk V_p_same_walk G_p_same_walk 8) (T : Bt X V_p_same_walk) (c_p_first_unlike : Cal X.prog X.w X.K X.mg X.base 8 "first_unlike" s_p_first_unlike ["letters", "one", "other"] (sp_p_first_unlike X.K)) (letters : Int) (one : (List ((List Int) × Int))) (other : (List ((List Int) × Int))) (b : Bool) (F0 : Hp) (os : Os) (D : Ends) (hm : m_p_same_walk letters one other = some b) (R : RetZ F0 (os) (dat (PyData.bool b)) D) :
    SX X [sl (dat (PyData.int letters)), sl (dat (PyData.tuple (List.map (eP (eT PyData.int) PyData.int) one))), sl (dat (PyData.tuple (List.map (eP (eT PyData.int) PyData.int) other)))] (os) F0 (defBody s_p_same_walk) D := by
  unfold m_p_same_walk at hm
  obtain ⟨t1, h1, hm⟩ := bnd hm
  obtain rfl := som hm
  exact sx_ret (ex_cmp op_isN (r2_isN (d := ((eO PyData.int) t1)) (t := t1.isNone) (none_opt non_int _)) (nomark _) (ex_call (a := (letters, one, other)) (b := t1) (gi := 0) (rest := os) B rfl c_p_first_unlike (by decide) h1 (ax_cons (ex_v (i := 0) (j := 0) B rfl rfl rfl) (ax_cons (ex_v (i := 1) (j := 1) B rfl rfl rfl) (ax_cons (ex_v (i := 2) (j := 2) B rfl rfl rfl) ax_nil)))) ex_none) (fun F H v e o c => R.rt F H v e o c)
theorem cal_p_same_walk {P : Program} {w : World} {K : PySem.W.Frag} {mg : Str → Option Value} {base : Heap} {f : Addr} {fd : FuncData} (Fn : Fun K "same_walk" "same_walk" s_p_same_walk f fd) (hmg : mg "same_walk" = some (.ref f)) (hb : Binds K fd ["letters", "one", "other"] []) (c_p_first_unlike : Cal P w K mg base 8 "first_unlike" s_p_first_unlike ["letters", "one", "other"] (sp_p_first_unlike K)) : Cal P w K mg base 9 "same_walk" s_p_same_walk ["letters", "one", "other"] (sp_p_same_walk K) :=
  cal_Z (V := V_p_same_walk) (Gs := G_p_same_walk) (nl := 0) Fn sc_p_same_walk (by decide +kernel) (by decide +kernel) hmg hb (fun _ => rfl) rfl fun _ _ _ _ _ _ _ a b F0 os D B T hm R => body_p_same_walk rfl B T c_p_first_unlike a.1 a.2.1 a.2.2 b F0 os D hm R
/-! ### _law_well -/
abbrev s_l_well : Stmt := top 44
def N_l_well : List Str := ["_law_script", "_law_k", "_law_cell", "_law_crowd", "_law_seed", "_law_other"]
def V_l_well : List Str := ["_law_script", "_law_k", "_law_cell", "_law_crowd", "_law_seed"]
def G_l_well : List Str := ["len", "sum", "int", "abs", "max"]
theorem sc_l_well : FnScope N_l_well ["_law_script", "_law_k"] (defScope s_l_well) := ⟨rfl, rfl, rfl, by decide +kernel, rfl, by decide +kernel, by decide +kernel⟩
abbrev sp_l_well (K : PySem.W.Frag) : Sp := spN (α := ((List Int) × Int)) (β := (List Int)) (fun a => [(scr K a.1), (dat (PyData.int a.2))]) (fun a => []) (fun a => m_l_well a.1 a.2) (fun a b => ol (List.map PyData.int b)) (fun a b => [])
set_option maxHeartbeats 4000000 in
theorem body_l_well {X : Cx} (hsc : X.env.scope = defScope s_l_well) (B : Bd X N_l_well V_l_well G_l_well 0) (T : Bt X V_l_well) (g_len : X.mg "len" = none) (g_sum : X.mg "sum" = none) (g_int : X.mg "int" = none) (g_abs : X.mg "abs" = none) (g_max : X.mg "max" = none) (script : (List Int)) (k_ : Int) (b : (List Int)) (F0 : Hp) (os : Os) (D : Ends) (hm : m_l_well script k_ = some b) (R : RetN F0 (os) (ol (List.map PyData.int b)) D) :
    SX X [sl (scr X.K script), sl (dat (PyData.int k_)), un, un, un, un] (os) F0 (defBody s_l_well) D := by
  unfold m_l_well at hm
  refine sx_asg (i := 2) (vi := 2) (φ := (dat (PyData.int (((43 * k_) + 29) + (7 * (script.length : Int)))))) B T rfl rfl (ex_add (ex_add (ex_mulL (by decide) ex_int (ex_v (i := 1) (j := 1) B rfl rfl rfl)) ex_int) (ex_mulL (by decide) ex_int (EX.to (ex_fn (j := 0) B rfl g_len (by decide +kernel) call_len_seq (rc_lenL (ds := List.map PyData.int script) rdl_scr) (ax_cons (ex_v (i := 0) (j := 0) B rfl rfl rfl) ax_nil)) (by rw [List.length_map])))) ?_
  obtain ⟨s2, h_s2, hm⟩ := bnd hm
  refine sx_join [sl (scr X.K script), sl (dat (PyData.int k_)), sl (dat (PyData.int s2)), un, un, un] (os) (?_) (fun Q => ?_)
  · clear h_s2
    obtain ⟨t5, h5, hm⟩ := bnd hm
    refine sx_asg (i := 3) (vi := 3) (φ := (dat (PyData.int t5.sum))) B T rfl rfl (ex_fn (j := 1) B rfl g_sum (by decide +kernel) (cr_sum B.calm) (rc_sum rdl_dat) (ax_cons (EN.ex (en_lc (lc_mk1 (j := 5) (vp := fun other3 => (dat (PyData.int other3))) (c := anyOs) (enc := PyData.int) (fun (_ : Unit) (other3 : Int) => some (some (other3 % 1000000000000000000000007), ())) (fun (_ : Unit) (tl1 : Os) => tl1) () (t5) () B rfl rfl (by rw [B.hN, hsc]; decide +kernel) (by rw [hsc]; decide +kernel) (by decide) (lcT_ok h5) (ix_list (enc := PyData.int) (c := anyOs) (ex_v (i := 0) (j := 0) B rfl rfl rfl) (fun _ _ => rdl_scr) trivial) (fun _ _ => trivial) (fun _ _ _ => List.Perm.refl _) (fun _ other3 t tl1 hx hf => by (obtain rfl := som hf; exact ⟨true, _, fun X1 hX => by (have B1 := Bd.fam (W' := ["_law_other"]) (G' := ["int"]) B hX (by (try rw [hsc]); decide +kernel); have g_int' := fam_mg hX g_int; exact ⟨.nil, fun _ => ⟨_, rfl, (ex_mod (modO_lit (j := 1000000000000000000000007) (by decide)) (ex_ty (j := 0) B1 rfl g_int' (by decide +kernel) call_int1 rc_intI (ax_cons (ex_v (i := 5) (j := 0) B1 rfl rfl rfl) ax_nil)) (EX.to (d' := PyData.int 1000000000000000000000007) (ex_add (ex_pow (m := 1000000000000000000000000) (by decide +kernel) ex_int ex_int) ex_int) (by rfl)))⟩, fun h => Bool.noConfusion h⟩)⟩))))) ax_nil)) ?_
    obtain ⟨seed6, h7, hm⟩ := bnd hm
    have h7 := som h7
    refine sx_asg (i := 4) (vi := 4) (φ := (dat (PyData.int seed6))) B T rfl rfl (EX.to (ex_mod (modO_lit (j := 1000000000000000000000000000057) (by decide)) (ex_ty (j := 2) B rfl g_int (by decide +kernel) call_int1 rc_intI (ax_cons (ex_add (ex_add (ex_add (ex_mulR (by decide) (ex_fn (j := 3) B rfl g_abs (by decide +kernel) call_abs rc_abs (ax_cons (ex_v (i := 2) (j := 2) B rfl rfl rfl) ax_nil)) ex_int) (ex_mulL (by decide) ex_int (ex_ty (j := 2) B rfl g_int (by decide +kernel) call_int1 rc_intB (ax_cons (ex_cmp op_lt r2_lt (nomark _) (ex_v (i := 2) (j := 2) B rfl rfl rfl) ex_int) ax_nil)))) (ex_mulR (by decide) (ex_v (i := 3) (j := 3) B rfl rfl rfl) ex_int)) (ex_mulL (by decide) ex_int (ex_v (i := 1) (j := 1) B rfl rfl rfl))) ax_nil)) (EX.to (d' := PyData.int 1000000000000000000000000000057) (ex_add (ex_pow (m := 1000000000000000000000000000000) (by decide +kernel) ex_int ex_int) ex_int) (by rfl))) (congrArg (fun z_ => (PyData.int z_)) h7)) ?_
    obtain rfl := som hm
    exact sx_retN (en_lst (ds := [(PyData.int (maxI 0 (s2 - 1000000000000000000))), (PyData.int seed6), (PyData.int 0)]) (hl := len_ok (n := 3) rfl) (ax_cons (ex_fn (j := 4) B rfl g_max (by decide +kernel) (call_max2 B.calm) rc_max (ax_cons ex_int (ax_cons (ex_sub (ex_v (i := 2) (j := 2) B rfl rfl rfl) (ex_pow (m := 1000000000000000000) (by decide +kernel) ex_int ex_int)) ax_nil))) (ax_cons (ex_v (i := 4) (j := 4) B rfl rfl rfl) (ax_cons ex_int ax_nil)))) (fun F H p e o => R.rt F H p e o)
  · have hm := h_s2
    refine sx_if (tx_cmp op_lt r2_lt (nomark _) (ex_v (i := 1) (j := 1) B rfl rfl rfl) (EX.to (ex_fn (j := 0) B rfl g_len (by decide +kernel) call_len_seq (rc_lenL (ds := List.map PyData.int script) rdl_scr) (ax_cons (ex_v (i := 0) (j := 0) B rfl rfl rfl) ax_nil)) (by rw [List.length_map]))) (fun hk => ?_) (fun hk => ?_)
    · have hm := ifT hm hk
      obtain ⟨t1, h1, hm⟩ := bnd hm
      refine sx_asg (i := 2) (vi := 2) (φ := (dat (PyData.int t1))) B T rfl rfl (ex_idxL (enc := PyData.int) h1 rdl_scr (ex_v (i := 0) (j := 0) B rfl rfl rfl) (ex_v (i := 1) (j := 1) B rfl rfl rfl)) ?_
      obtain rfl := som hm
      exact sx_fall Q rfl
    · have hm := ifF hm hk
      obtain rfl := som hm
      exact sx_fall Q rfl
theorem cal_l_well {P : Program} {w : World} {K : PySem.W.Frag} {mg : Str → Option Value} {base : Heap} {f : Addr} {fd : FuncData} (Fn : Fun K "_law_well" "_law_well" s_l_well f fd) (hmg : mg "_law_well" = some (.ref f)) (hb : Binds K fd ["_law_script", "_law_k"] []) (g_len : mg "len" = none) (g_sum : mg "sum" = none) (g_int : mg "int" = none) (g_abs : mg "abs" = none) (g_max : mg "max" = none) : Cal P w K mg base 1 "_law_well" s_l_well ["_law_script", "_law_k"] (sp_l_well K) :=
  cal_N (V := V_l_well) (Gs := G_l_well) (nl := 4) Fn sc_l_well (by decide +kernel) (by decide +kernel) hmg hb (fun _ => rfl) rfl fun _ _ _ _ _ _ _ a b F0 os D B T hm R => body_l_well rfl B T g_len g_sum g_int g_abs g_max a.1 a.2 b F0 os D hm R
/-! ### _law_pick -/
abbrev s_l_pick : Stmt := top 45
def N_l_pick : List Str := ["_law_well_here", "_law_many", "_law_found", "_law_stirred"]
def V_l_pick : List Str := ["_law_well_here", "_law_many", "_law_found", "_law_stirred"]
def G_l_pick : List Str := ["int"]
theorem sc_l_pick : FnScope N_l_pick ["_law_well_here", "_law_many"] (defScope s_l_pick) := ⟨rfl, rfl, rfl, by decide +kernel, rfl, by decide +kernel, by decide +kernel⟩
abbrev sp_l_pick (K : PySem.W.Frag) : Sp := spZ (α := (Addr × (List Int) × Int)) (β := (Int × (List Int))) (fun a => [own a.1, (dat (PyData.int a.2.2))]) (fun a => (a.1, ol (List.map PyData.int a.2.1)) :: []) (fun a => m_l_pick a.2.1 a.2.2) (fun a b => (dat (PyData.int b.1))) (fun a b => (a.1, ol (List.map PyData.int b.2)) :: [])
set_option maxHeartbeats 4000000 in
theorem body_l_pick {X : Cx} (hsc : X.env.scope = defScope s_l_pick) (B : Bd X N_l_pick V_l_pick G_l_pick 0) (T : Bt X V_l_pick) (g_int : X.mg "int" = none) (q_well_here : Addr) (w_well_here : (List Int)) (many : Int) (b : (Int × (List Int))) (F0 : Hp) (os : Os) (D : Ends) (hm : m_l_pick w_well_here many = some b) (R : RetZ F0 ((q_well_here, ol (List.map PyData.int b.2)) :: os) (dat (PyData.int b.1)) D) :
    SX X [sl (own q_well_here), sl (dat (PyData.int many)), un, un] ((q_well_here, ol (List.map PyData.int w_well_here)) :: os) F0 (defBody s_l_pick) D := by
  unfold m_l_pick at hm
  obtain ⟨t1, h1, hm⟩ := bnd hm
  refine sx_if (tx_cmp op_gt r2_gt (nomark _) (ex_idxL (enc := PyData.int) h1 (rdl_own 0 rfl) (ex_v (i := 0) (j := 0) B rfl rfl rfl) ex_int) ex_int) (fun hk => ?_) (fun hk => ?_)
  · have hm := ifT hm hk
    obtain ⟨t2, h2, hm⟩ := bnd hm
    obtain ⟨t3, h3, hm⟩ := bnd hm
    refine sx_asg (i := 2) (vi := 2) (φ := (dat (PyData.int t3))) B T rfl rfl (ex_mod h3 (ex_ty (j := 0) B rfl g_int (by decide +kernel) call_int1 rc_intI (ax_cons (ex_idxL (enc := PyData.int) h2 (rdl_own 0 rfl) (ex_v (i := 0) (j := 0) B rfl rfl rfl) ex_int) ax_nil)) (ex_v (i := 1) (j := 1) B rfl rfl rfl)) ?_
    obtain ⟨t4, h4, hm⟩ := bnd hm
    obtain ⟨t5, h5, hm⟩ := bnd hm
    obtain ⟨t6, h6, hm⟩ := bnd hm
    refine sx_setO (enc := PyData.int) (j := 0) h6 (ex_fdiv h5 (ex_idxL (enc := PyData.int) h4 (rdl_own 0 rfl) (ex_v (i := 0) (j := 0) B rfl rfl rfl) ex_int) (ex_v (i := 1) (j := 1) B rfl rfl rfl)) (ex_v (i := 0) (j := 0) B rfl rfl rfl) ex_int rfl ?_
    obtain rfl := som hm
    exact sx_ret (ex_v (i := 2) (j := 2) B rfl rfl rfl) (fun F H v e o c => R.rt F H v e o c)
  · have hm := ifF hm hk
    refine sx_fall ?_ rfl
    obtain ⟨t7, h7, hm⟩ := bnd hm
    obtain ⟨t8, h8, hm⟩ := bnd hm
    refine sx_setO (enc := PyData.int) (j := 0) h8 (ex_add (ex_idxL (enc := PyData.int) h7 (rdl_own 0 rfl) (ex_v (i := 0) (j := 0) B rfl rfl rfl) ex_int) ex_int) (ex_v (i := 0) (j := 0) B rfl rfl rfl) ex_int rfl ?_
    obtain ⟨t9, h9, hm⟩ := bnd hm
    obtain ⟨t10, h10, hm⟩ := bnd hm
    obtain ⟨t11, h11, hm⟩ := bnd hm
    obtain ⟨t12, h12, hm⟩ := bnd hm
    refine sx_asg (i := 3) (vi := 3) (φ := (dat (PyData.int ((t11 + (29 * t12)) % 10000000000000000000000000000033)))) B T rfl rfl (ex_mod (modO_lit (j := 10000000000000000000000000000033) (by decide)) (ex_ty (j := 0) B rfl g_int (by decide +kernel) call_int1 rc_intI (ax_cons (ex_add (ex_pow h11 (ex_add (ex_idxL (enc := PyData.int) h9 (rdl_own 0 rfl) (ex_v (i := 0) (j := 0) B rfl rfl rfl) ex_int) (ex_mulL (by decide) ex_int (ex_idxL (enc := PyData.int) h10 (rdl_own 0 rfl) (ex_v (i := 0) (j := 0) B rfl rfl rfl) ex_int))) ex_int) (ex_mulL (by decide) ex_int (ex_idxL (enc := PyData.int) h12 (rdl_own 0 rfl) (ex_v (i := 0) (j := 0) B rfl rfl rfl) ex_int))) ax_nil)) (EX.to (d' := PyData.int 10000000000000000000000000000033) (ex_add (ex_pow (m := 10000000000000000000000000000000) (by decide +kernel) ex_int ex_int) ex_int) (by rfl))) ?_
    obtain ⟨t13, h13, hm⟩ := bnd hm
    obtain ⟨t14, h14, hm⟩ := bnd hm
    refine sx_asg (i := 3) (vi := 3) (φ := (dat (PyData.int (t14 % 100000000000000000000000000319)))) B T rfl rfl (ex_mod (modO_lit (j := 100000000000000000000000000319) (by decide)) (ex_ty (j := 0) B rfl g_int (by decide +kernel) call_int1 rc_intI (ax_cons (ex_mulW h14 (ex_v (i := 3) (j := 3) B rfl rfl rfl) (ex_add (ex_v (i := 3) (j := 3) B rfl rfl rfl) (ex_mulL (by decide) ex_int (ex_idxL (enc := PyData.int) h13 (rdl_own 0 rfl) (ex_v (i := 0) (j := 0) B rfl rfl rfl) ex_int)))) ax_nil)) (EX.to (d' := PyData.int 100000000000000000000000000319) (ex_add (ex_pow (m := 100000000000000000000000000000) (by decide +kernel) ex_int ex_int) ex_int) (by rfl))) ?_
    obtain ⟨t15, h15, hm⟩ := bnd hm
    obtain rfl := som hm
    exact sx_ret (ex_mod h15 (ex_ty (j := 0) B rfl g_int (by decide +kernel) call_int1 rc_intI (ax_cons (ex_fdiv (fdivO_lit (j := 12289) (by decide) (by decide +kernel)) (ex_v (i := 3) (j := 3) B rfl rfl rfl) ex_int) ax_nil)) (ex_v (i := 1) (j := 1) B rfl rfl rfl)) (fun F H v e o c => R.rt F H v e o c)
theorem cal_l_pick {P : Program} {w : World} {K : PySem.W.Frag} {mg : Str → Option Value} {base : Heap} {f : Addr} {fd : FuncData} (Fn : Fun K "_law_pick" "_law_pick" s_l_pick f fd) (hmg : mg "_law_pick" = some (.ref f)) (hb : Binds K fd ["_law_well_here", "_law_many"] []) (g_int : mg "int" = none) : Cal P w K mg base 1 "_law_pick" s_l_pick ["_law_well_here", "_law_many"] (sp_l_pick K) :=
  cal_Z (V := V_l_pick) (Gs := G_l_pick) (nl := 2) Fn sc_l_pick (by decide +kernel) (by decide +kernel) hmg hb (fun _ => rfl) rfl fun _ _ _ _ _ _ _ a b F0 os D B T hm R => body_l_pick rfl B T g_int a.1 a.2.1 a.2.2 b F0 os D hm R
/-! ### _law_back -/
abbrev s_l_back : Stmt := top 46
def N_l_back : List Str := ["_law_walk_here", "_law_step"]
def V_l_back : List Str := ["_law_walk_here"]
def G_l_back : List Str := ["tuple"]
theorem sc_l_back : FnScope N_l_back ["_law_walk_here"] (defScope s_l_back) := ⟨rfl, rfl, rfl, by decide +kernel, rfl, by decide +kernel, by decide +kernel⟩
abbrev sp_l_back (K : PySem.W.Frag) : Sp := spZ (α := (List Int)) (β := (List Int)) (fun a => [(dat (PyData.tuple (List.map PyData.int a)))]) (fun a => []) (fun a => m_l_back a) (fun a b => (dat (PyData.tuple (List.map PyData.int b)))) (fun a b => [])
set_option maxHeartbeats 4000000 in
theorem body_l_back {X : Cx} (hsc : X.env.scope = defScope s_l_back) (B : Bd X N_l_back V_l_back G_l_back 0) (T : Bt X V_l_back) (g_tuple : X.mg "tuple" = none) (walk_here : (List Int)) (b : (List Int)) (F0 : Hp) (os : Os) (D : Ends) (hm : m_l_back walk_here = some b) (R : RetZ F0 (os) (dat (PyData.tuple (List.map PyData.int b))) D) :
    SX X [sl (dat (PyData.tuple (List.map PyData.int walk_here))), un] (os) F0 (defBody s_l_back) D := by
  unfold m_l_back at hm
  obtain ⟨t3, h3, hm⟩ := bnd hm
  obtain rfl := som hm
  exact sx_ret (ex_ty (j := 0) B rfl g_tuple (by decide +kernel) call_tuple_of (rc_tupL (ds := List.map PyData.int t3) rdl_dat) (ax_cons (EN.ex (en_lc (lc_mk1 (j := 1) (vp := fun step1 => (dat (PyData.int step1))) (c := anyOs) (enc := PyData.int) (fun (_ : Unit) (step1 : Int) => some (some (-step1), ())) (fun (_ : Unit) (tl1 : Os) => tl1) () (t3) () B rfl rfl (by rw [B.hN, hsc]; decide +kernel) (by rw [hsc]; decide +kernel) (by decide) (lcT_ok h3) (ix_tup (enc := PyData.int) (ex_revT (enc := PyData.int) rdt_dat (ex_v (i := 0) (j := 0) B rfl rfl rfl)) rdt_dat) (fun _ _ => trivial) (fun _ _ _ => List.Perm.refl _) (fun _ step1 t tl1 hx hf => by (obtain rfl := som hf; exact ⟨true, _, fun X1 hX => by (have B1 := Bd.fam (W' := ["_law_step"]) (G' := []) B hX (by (try rw [hsc]); decide +kernel); exact ⟨.nil, fun _ => ⟨_, rfl, (ex_neg (ex_v (i := 1) (j := 0) B1 rfl rfl rfl))⟩, fun h => Bool.noConfusion h⟩)⟩))))) ax_nil)) (fun F H v e o c => R.rt F H v e o c)
theorem cal_l_back {P : Program} {w : World} {K : PySem.W.Frag} {mg : Str → Option Value} {base : Heap} {f : Addr} {fd : FuncData} (Fn : Fun K "_law_back" "_law_back" s_l_back f fd) (hmg : mg "_law_back" = some (.ref f)) (hb : Binds K fd ["_law_walk_here"] []) (g_tuple : mg "tuple" = none) : Cal P w K mg base 1 "_law_back" s_l_back ["_law_walk_here"] (sp_l_back K) :=
  cal_Z (V := V_l_back) (Gs := G_l_back) (nl := 1) Fn sc_l_back (by decide +kernel) (by decide +kernel) hmg hb (fun _ => rfl) rfl fun _ _ _ _ _ _ _ a b F0 os D B T hm R => body_l_back rfl B T g_tuple a b F0 os D hm R
/-! ### _law_straight -/
abbrev s_l_straight : Stmt := top 47
def N_l_straight : List Str := ["_law_walk_here", "_law_found", "_law_step"]
def V_l_straight : List Str := ["_law_walk_here", "_law_found", "_law_step"]
def G_l_straight : List Str := ["len", "tuple"]
theorem sc_l_straight : FnScope N_l_straight ["_law_walk_here"] (defScope s_l_straight) := ⟨rfl, rfl, rfl, by decide +kernel, rfl, by decide +kernel, by decide +kernel⟩
abbrev sp_l_straight (K : PySem.W.Frag) : Sp := spZ (α := (List Int)) (β := (List Int)) (fun a => [(dat (PyData.tuple (List.map PyData.int a)))]) (fun a => []) (fun a => m_l_straight a) (fun a b => (dat (PyData.tuple (List.map PyData.int b)))) (fun a b => [])
set_option maxHeartbeats 4000000 in
theorem body_l_straight {X : Cx} (hsc : X.env.scope = defScope s_l_straight) (B : Bd X N_l_straight V_l_straight G_l_straight 0) (T : Bt X V_l_straight) (g_len : X.mg "len" = none) (g_tuple : X.mg "tuple" = none) (walk_here : (List Int)) (b : (List Int)) (F0 : Hp) (os : Os) (D : Ends) (hm : m_l_straight walk_here = some b) (R : RetZ F0 (os) (dat (PyData.tuple (List.map PyData.int b))) D) :
    SX X [sl (dat (PyData.tuple (List.map PyData.int walk_here))), un, un] (os) F0 (defBody s_l_straight) D := by
  unfold m_l_straight at hm
  refine sx_asgN (i := 1) (vi := 1) (n := ol (List.map PyData.int ([] : (List Int)))) B T rfl rfl (en_lst (ds := []) ax_nil) (fun q_found0 => ?_)
  obtain ⟨f3, h11, hm⟩ := bnd hm
  refine sx_for (c := anyOs) (fun (s1 : (List Int)) (step2 : Int) => ((if (decide (0 < (s1.length : Int))) = true then ((idx s1 (-1)).bind fun t6 => some (decide (t6 = (-step2)))) else some false).bind fun t7 => ((if t7 = true then ((popO s1).bind fun t8 => some t8.2) else ((appO s1 step2).bind fun t9 => some t9) : Option (List Int)).bind fun s10 => some s10))) (fun (s1 : (List Int)) (_ : Unit) => [sl (dat (PyData.tuple (List.map PyData.int walk_here))), sl (own q_found0), un]) (fun (s1 : (List Int)) (_ : Unit) => (q_found0, ol (List.map PyData.int s1)) :: os) B T (fun step2 => gx_name (i := 2) (vi := 2) (φ := (dat (PyData.int step2))) B T rfl rfl) ([] : (List Int)) () f3 h11 (ix_tup (enc := PyData.int) (ex_v (i := 0) (j := 0) B rfl rfl rfl) rdt_dat) ⟨.inl rfl, .inl rfl, .inl rfl, trivial⟩ (fun _ _ => trivial) (fun F5 e4 s1 _ step2 z12 hx hm => ?_) (fun _ => ?_)
  · clear h11
    obtain ⟨t7, h7, hm⟩ := bnd hm
    obtain ⟨s10, h_s10, hm⟩ := bnd hm
    refine sx_join [sl (dat (PyData.tuple (List.map PyData.int walk_here))), sl (own q_found0), sl (dat (PyData.int step2))] ((q_found0, ol (List.map PyData.int s10)) :: os) (?_) (fun Q => ?_)
    · clear h_s10
      obtain rfl := som hm
      exact sx_nil fun σ H a => ⟨(), (a.weak ⟨.inl rfl, .inl rfl, .inr rfl, trivial⟩)⟩
    · have hm := h_s10
      refine sx_if (WX.tx (wx_and (l := t7) (os2 := (q_found0, ol (List.map PyData.int s1)) :: os) (tx_cmp op_gt r2_gt (nomark _) (EX.to (ex_fn (j := 0) B rfl g_len (by decide +kernel) call_len_seq (rc_lenL (ds := List.map PyData.int s1) (rdl_own 0 rfl)) (ax_cons (ex_v (i := 1) (j := 1) B rfl rfl rfl) ax_nil)) (by rw [List.length_map])) ex_int) (fun hk => by (have hm := ifT h7 hk; obtain ⟨t6, h6, hm⟩ := bnd hm; obtain rfl := som hm; exact (wx_and1 (tx_cmp op_eq r2_eqI (nomark _) (ex_idxL (enc := PyData.int) h6 (rdl_own 0 rfl) (ex_v (i := 1) (j := 1) B rfl rfl rfl) (ex_neg ex_int)) (ex_neg (ex_v (i := 2) (j := 2) B rfl rfl rfl)))))) (fun hk => by (have hm := ifF h7 hk; obtain rfl := som hm; rfl)) (and_fix (fun hk => by (have hm := ifF h7 hk; obtain rfl := som hm; rfl))))) (fun hk => ?_) (fun hk => ?_)
      · have hm := ifT hm hk
        obtain ⟨t8, h8, hm⟩ := bnd hm
        refine sx_expr (ex_popO (enc := PyData.int) (j := 0) h8 (ex_v (i := 1) (j := 1) B rfl rfl rfl) rfl) ?_
        obtain rfl := som hm
        exact sx_fall Q rfl
      · have hm := ifF hm hk
        obtain ⟨t9, h9, hm⟩ := bnd hm
        refine sx_expr (ex_app (enc := PyData.int) (j := 0) (xs0 := s1) (xs := s1) (y := step2) h9 (ex_v (i := 1) (j := 1) B rfl rfl rfl) rfl (ex_v (i := 2) (j := 2) B rfl rfl rfl) rfl) ?_
        obtain rfl := som hm
        exact sx_fall Q rfl
  · skip
    refine sx_frz (j := 0) (i := 1) rfl rfl ?_
    obtain rfl := som hm
    exact sx_ret (ex_ty (j := 1) B rfl g_tuple (by decide +kernel) call_tuple_of (rc_tupL (ds := List.map PyData.int f3) rdl_dat) (ax_cons (ex_v (i := 1) (j := 1) B rfl rfl rfl) ax_nil)) (fun F H v e o c => R.rt F H v e o c)
theorem cal_l_straight {P : Program} {w : World} {K : PySem.W.Frag} {mg : Str → Option Value} {base : Heap} {f : Addr} {fd : FuncData} (Fn : Fun K "_law_straight" "_law_straight" s_l_straight f fd) (hmg : mg "_law_straight" = some (.ref f)) (hb : Binds K fd ["_law_walk_here"] []) (g_len : mg "len" = none) (g_tuple : mg "tuple" = none) : Cal P w K mg base 1 "_law_straight" s_l_straight ["_law_walk_here"] (sp_l_straight K) :=
  cal_Z (V := V_l_straight) (Gs := G_l_straight) (nl := 2) Fn sc_l_straight (by decide +kernel) (by decide +kernel) hmg hb (fun _ => rfl) rfl fun _ _ _ _ _ _ _ a b F0 os D B T hm R => body_l_straight rfl B T g_len g_tuple a b F0 os D hm R
/-! ### _law_walk -/
abbrev s_l_walk : Stmt := top 48
def N_l_walk : List Str := ["_law_well_here", "_law_letters", "_law_most", "_law_found", "_law_turn", "_law_step"]
def V_l_walk : List Str := ["_law_well_here", "_law_letters", "_law_most", "_law_found", "_law_turn", "_law_step"]
def G_l_walk : List Str := ["range", "_law_pick", "tuple"]
theorem sc_l_walk : FnScope N_l_walk ["_law_well_here", "_law_letters", "_law_most"] (defScope s_l_walk) := ⟨rfl, rfl, rfl, by decide +kernel, rfl, by decide +kernel, by decide +kernel⟩
abbrev sp_l_walk (K : PySem.W.Frag) : Sp := spZ (α := (Addr × (List Int) × Int × Int)) (β := ((List Int) × (List Int))) (fun a => [own a.1, (dat (PyData.int a.2.2.1)), (dat (PyData.int a.2.2.2))]) (fun a => (a.1, ol (List.map PyData.int a.2.1)) :: []) (fun a => m_l_walk a.2.1 a.2.2.1 a.2.2.2) (fun a b => (dat (PyData.tuple (List.map PyData.int b.1)))) (fun a b => (a.1, ol (List.map PyData.int b.2)) :: [])
set_option maxHeartbeats 4000000 in
theorem body_l_walk {X : Cx} (hsc : X.env.scope = defScope s_l_walk) (B : Bd X N_l_walk V_l_walk G_l_walk 1) (T : Bt X V_l_walk) (g_range : X.mg "range" = none) (c_l_pick : Cal X.prog X.w X.K X.mg X.base 1 "_law_pick" s_l_pick ["_law_well_here", "_law_many"] (sp_l_pick X.K)) (g_tuple : X.mg "tuple" = none) (q_well_here : Addr) (w_well_here : (List Int)) (letters : Int) (most : Int) (b : ((List Int) × (List Int))) (F0 : Hp) (os : Os) (D : Ends) (hm : m_l_walk w_well_here letters most = some b) (R : RetZ F0 ((q_well_here, ol (List.map PyData.int b.2)) :: os) (dat (PyData.tuple (List.map PyData.int b.1))) D) :
    SX X [sl (own q_well_here), sl (dat (PyData.int letters)), sl (dat (PyData.int most)), un, un, un] ((q_well_here, ol (List.map PyData.int w_well_here)) :: os) F0 (defBody s_l_walk) D := by
  unfold m_l_walk at hm
  refine sx_asgN (i := 3) (vi := 3) (n := ol (List.map PyData.int ([] : (List Int)))) B T rfl rfl (en_lst (ds := []) ax_nil) (fun q_found0 => ?_)
  obtain ⟨t1, h1, hm⟩ := bnd hm
  obtain ⟨t2, h2, hm⟩ := bnd hm
  obtain ⟨f5, h11, hm⟩ := bnd hm
  refine sx_for (c := anyOs) (fun (s3 : ((List Int) × (List Int))) (turn4 : Int) => ((m_l_pick s3.1 letters).bind fun t8 => ((m_l_pick t8.2 2).bind fun t9 => (appO s3.2 (if (decide (t9.1 = 0)) = true then (1 + t8.1) else (-(1 + t8.1)))).bind fun t10 => some (t9.2, t10)))) (fun (s3 : ((List Int) × (List Int))) (_ : Unit) => [sl (own q_well_here), sl (dat (PyData.int letters)), sl (dat (PyData.int most)), sl (own q_found0), un, un]) (fun (s3 : ((List Int) × (List Int))) (_ : Unit) => (q_well_here, ol (List.map PyData.int s3.1)) :: (q_found0, ol (List.map PyData.int s3.2)) :: os) B T (fun turn4 => gx_name (i := 4) (vi := 4) (φ := (dat (PyData.int turn4))) B T rfl rfl) (t1.2, ([] : (List Int))) () f5 h11 (ix_rng1 (gi := 0) B rfl g_range h2 (EX.pre (ex_call (a := (q_well_here, w_well_here, (most + 1))) (b := t1) (gi := 1) (rest := (q_found0, ol (List.map PyData.int ([] : (List Int)))) :: os) B rfl c_l_pick (by decide) h1 (ax_cons (ex_v (i := 0) (j := 0) B rfl rfl rfl) (ax_cons (ex_add (ex_v (i := 2) (j := 2) B rfl rfl rfl) ex_int) ax_nil))) (perm_at (k := 1) rfl))) ⟨.inl rfl, .inl rfl, .inl rfl, .inl rfl, .inl rfl, .inl rfl, trivial⟩ (fun _ _ => trivial) (fun F7 e6 s3 _ turn4 z12 hx hm => ?_) (fun _ => ?_)
  · clear h11
    obtain ⟨t8, h8, hm⟩ := bnd hm
    refine sx_asg (i := 5) (vi := 5) (φ := (dat (PyData.int (1 + t8.1)))) B T rfl rfl (ex_add ex_int (ex_call (a := (q_well_here, s3.1, letters)) (b := t8) (gi := 1) (rest := (q_found0, ol (List.map PyData.int s3.2)) :: os) B rfl c_l_pick (by decide) h8 (ax_cons (ex_v (i := 0) (j := 0) B rfl rfl rfl) (ax_cons (ex_v (i := 1) (j := 1) B rfl rfl rfl) ax_nil)))) ?_
    obtain ⟨t9, h9, hm⟩ := bnd hm
    obtain ⟨t10, h10, hm⟩ := bnd hm
    refine sx_expr (ex_app (enc := PyData.int) (j := 1) (xs0 := s3.2) (xs := s3.2) (y := (if (decide (t9.1 = 0)) = true then (1 + t8.1) else (-(1 + t8.1)))) h10 (ex_v (i := 3) (j := 3) B rfl rfl rfl) rfl (ex_if (tx_cmp op_eq r2_eqI (nomark _) (ex_call (a := (q_well_here, t8.2, 2)) (b := t9) (gi := 1) (rest := (q_found0, ol (List.map PyData.int s3.2)) :: os) B rfl c_l_pick (by decide) h9 (ax_cons (ex_v (i := 0) (j := 0) B rfl rfl rfl) (ax_cons ex_int ax_nil))) ex_int) (fun hk => EX.to (ex_v (i := 5) (j := 5) B rfl rfl rfl) (by rw [if_pos hk])) (fun hk => EX.to (ex_neg (ex_v (i := 5) (j := 5) B rfl rfl rfl)) (by rw [if_neg (by rw [hk]; exact Bool.false_ne_true)]))) rfl) ?_
    obtain rfl := som hm
    exact sx_nil fun σ H a => ⟨(), (a.weak ⟨.inl rfl, .inl rfl, .inl rfl, .inl rfl, .inr rfl, .inr rfl, trivial⟩)⟩
  · skip
    refine sx_frz (j := 1) (i := 3) rfl rfl ?_
    obtain rfl := som hm
    exact sx_ret (ex_ty (j := 2) B rfl g_tuple (by decide +kernel) call_tuple_of (rc_tupL (ds := List.map PyData.int f5.2) rdl_dat) (ax_cons (ex_v (i := 3) (j := 3) B rfl rfl rfl) ax_nil)) (fun F H v e o c => R.rt F H v e o c)
theorem cal_l_walk {P : Program} {w : World} {K : PySem.W.Frag} {mg : Str → Option Value} {base : Heap} {f : Addr} {fd : FuncData} (Fn : Fun K "_law_walk" "_law_walk" s_l_walk f fd) (hmg : mg "_law_walk" = some (.ref f)) (hb : Binds K fd ["_law_well_here", "_law_letters", "_law_most"] []) (g_range : mg "range" = none) (c_l_pick : Cal P w K mg base 1 "_law_pick" s_l_pick ["_law_well_here", "_law_many"] (sp_l_pick K)) (g_tuple : mg "tuple" = none) : Cal P w K mg base 2 "_law_walk" s_l_walk ["_law_well_here", "_law_letters", "_law_most"] (sp_l_walk K) :=
  cal_Z (V := V_l_walk) (Gs := G_l_walk) (nl := 3) Fn sc_l_walk (by decide +kernel) (by decide +kernel) hmg hb (fun _ => rfl) rfl fun _ _ _ _ _ _ _ a b F0 os D B T hm R => body_l_walk rfl B T g_range c_l_pick g_tuple a.1 a.2.1 a.2.2.1 a.2.2.2 b F0 os D hm R
/-! ### _law_part -/
abbrev s_l_part : Stmt := top 49
def N_l_part : List Str := ["_law_well_here", "_law_letters", "_law_ahead", "_law_way", "_law_times", "_law_walk_here", "_law_often", "_law_cut", "_law_lead"]
def V_l_part : List Str := ["_law_well_here", "_law_letters", "_law_ahead", "_law_way", "_law_times", "_law_walk_here", "_law_often", "_law_cut", "_law_lead"]
def G_l_part : List Str := ["_law_pick", "len", "_law_walk", "_law_back"]
theorem sc_l_part : FnScope N_l_part ["_law_well_here", "_law_letters", "_law_ahead"] (defScope s_l_part) := ⟨rfl, rfl, rfl, by decide +kernel, rfl, by decide +kernel, by decide +kernel⟩
abbrev sp_l_part (K : PySem.W.Frag) : Sp := spZ (α := (Addr × (List Int) × Int × Addr × (List ((List Int) × Int)))) (β := (((List Int) × Int) × (List Int) × (List ((List Int) × Int)))) (fun a => [own a.1, (dat (PyData.int a.2.2.1)), own a.2.2.2.1]) (fun a => (a.1, ol (List.map PyData.int a.2.1)) :: (a.2.2.2.1, ol (List.map (eP (eT PyData.int) PyData.int) a.2.2.2.2)) :: []) (fun a => m_l_part a.2.1 a.2.2.1 a.2.2.2.2) (fun a b => (dat (PyData.tuple [(PyData.tuple (List.map PyData.int b.1.1)), (PyData.int b.1.2)]))) (fun a b => (a.1, ol (List.map PyData.int b.2.1)) :: (a.2.2.2.1, ol (List.map (eP (eT PyData.int) PyData.int) b.2.2)) :: [])
set_option maxHeartbeats 4000000 in
theorem body_l_part {X : Cx} (hsc : X.env.scope = defScope s_l_part) (B : Bd X N_l_part V_l_part G_l_part 2) (T : Bt X V_l_part) (c_l_pick : Cal X.prog X.w X.K X.mg X.base 1 "_law_pick" s_l_pick ["_law_well_here", "_law_many"] (sp_l_pick X.K)) (g_len : X.mg "len" = none) (c_l_walk : Cal X.prog X.w X.K X.mg X.base 2 "_law_walk" s_l_walk ["_law_well_here", "_law_letters", "_law_most"] (sp_l_walk X.K)) (c_l_back : Cal X.prog X.w X.K X.mg X.base 1 "_law_back" s_l_back ["_law_walk_here"] (sp_l_back X.K)) (q_well_here : Addr) (w_well_here : (List Int)) (letters : Int) (q_ahead : Addr) (w_ahead : (List ((List Int) × Int))) (b : (((List Int) × Int) × (List Int) × (List ((List Int) × Int)))) (F0 : Hp) (os : Os) (D : Ends) (hm : m_l_part w_well_here letters w_ahead = some b) (R : RetZ F0 ((q_well_here, ol (List.map PyData.int b.2.1)) :: (q_ahead, ol (List.map (eP (eT PyData.int) PyData.int) b.2.2)) :: os) (dat (PyData.tuple [(PyData.tuple (List.map PyData.int b.1.1)), (PyData.int b.1.2)])) D) :
    SX X [sl (own q_well_here), sl (dat (PyData.int letters)), sl (own q_ahead), un, un, un, un, un, un] ((q_well_here, ol (List.map PyData.int w_well_here)) :: (q_ahead, ol (List.map (eP (eT PyData.int) PyData.int) w_ahead)) :: os) F0 (defBody s_l_part) D := by
  unfold m_l_part at hm
  obtain ⟨t1, h1, hm⟩ := bnd hm
  obtain ⟨t2, h2, hm⟩ := bnd hm
  refine sx_par2 (i := 3) (j := 4) _ hsc B rfl rfl (by decide) (by decide +kernel) (by decide +kernel) (by intro env he; cases env; cases he; first | rfl | kernel_rfl) (aq_x (φ := (dat (PyData.int t1.1))) (ex_call (a := (q_well_here, w_well_here, 6)) (b := t1) (gi := 0) (rest := (q_ahead, ol (List.map (eP (eT PyData.int) PyData.int) w_ahead)) :: os) B rfl c_l_pick (by decide) h1 (ax_cons (ex_v (i := 0) (j := 0) B rfl rfl rfl) (ax_cons ex_int ax_nil))) (aq_x (φ := (dat (PyData.int (1 + t2.1)))) (ex_add ex_int (ex_call (a := (q_well_here, t1.2, 12)) (b := t2) (gi := 0) (rest := (q_ahead, ol (List.map (eP (eT PyData.int) PyData.int) w_ahead)) :: os) B rfl c_l_pick (by decide) h2 (ax_cons (ex_v (i := 0) (j := 0) B rfl rfl rfl) (ax_cons ex_int ax_nil)))) aq_nil)) (fun v0 v1 os_ hr_ => ?_) (by rintro φs os_ ⟨_, rfl, _, rfl, rfl, rfl⟩; exact ⟨_, _, rfl⟩)
  obtain ⟨_, e0, _, e1, e8, e9⟩ := hr_
  cases e0; cases e1; cases e8; cases e9
  obtain ⟨t3, h3, hm⟩ := bnd hm
  obtain ⟨times4, h5, hm⟩ := bnd hm
  have h5 := som h5
  refine sx_asg (i := 4) (vi := 4) (φ := (dat (PyData.int times4))) B T rfl rfl (EX.to (ex_if (tx_cmp op_eq r2_eqI (nomark _) (ex_call (a := (q_well_here, t2.2, 2)) (b := t3) (gi := 0) (rest := (q_ahead, ol (List.map (eP (eT PyData.int) PyData.int) w_ahead)) :: os) B rfl c_l_pick (by decide) h3 (ax_cons (ex_v (i := 0) (j := 0) B rfl rfl rfl) (ax_cons ex_int ax_nil))) ex_int) (fun hk => EX.to (ex_v (i := 4) (j := 4) B rfl rfl rfl) (by rw [if_pos hk])) (fun hk => EX.to (ex_neg (ex_v (i := 4) (j := 4) B rfl rfl rfl)) (by rw [if_neg (by rw [hk]; exact Bool.false_ne_true)]))) (congrArg (fun z_ => (PyData.int z_)) h5)) ?_
  refine sx_if (WX.tx (wx_and (tx_cmp op_gt r2_gt (nomark _) (ex_v (i := 3) (j := 3) B rfl rfl rfl) ex_int) (fun _ => (wx_and1 (tx_cmp op_gt r2_gt (nomark _) (EX.to (ex_fn (j := 1) B rfl g_len (by decide +kernel) call_len_seq (rc_lenL (ds := List.map (eP (eT PyData.int) PyData.int) w_ahead) (rdl_own 1 rfl)) (ax_cons (ex_v (i := 2) (j := 2) B rfl rfl rfl) ax_nil)) (by rw [List.length_map])) ex_int))) (fun _ => rfl) rfl)) (fun hk => ?_) (fun hk => ?_)
  · have hm := ifT hm hk
    obtain ⟨t6, h6, hm⟩ := bnd hm
    obtain ⟨t7, h7, hm⟩ := bnd hm
    refine sx_unp (gx_pair B (gx_name (i := 5) (vi := 5) B T rfl rfl) (gx_name (i := 6) (vi := 6) B T rfl rfl)) (ex_idxL (enc := (eP (eT PyData.int) PyData.int)) h7 (rdl_own 1 rfl) (ex_v (i := 2) (j := 2) B rfl rfl rfl) (ex_call (a := (q_well_here, t3.2, (w_ahead.length : Int))) (b := t6) (gi := 0) (rest := (q_ahead, ol (List.map (eP (eT PyData.int) PyData.int) w_ahead)) :: os) B rfl c_l_pick (by decide) h6 (ax_cons (ex_v (i := 0) (j := 0) B rfl rfl rfl) (ax_cons (EX.to (ex_fn (j := 1) B rfl g_len (by decide +kernel) call_len_seq (rc_lenL (ds := List.map (eP (eT PyData.int) PyData.int) w_ahead) (rdl_own 1 rfl)) (ax_cons (ex_v (i := 2) (j := 2) B rfl rfl rfl) ax_nil)) (by rw [List.length_map])) ax_nil)))) ?_
    refine sx_if (tx_cmp op_eq r2_eqI (nomark _) (ex_v (i := 3) (j := 3) B rfl rfl rfl) ex_int) (fun hk => ?_) (fun hk => ?_)
    · have hm := ifT hm hk
      obtain rfl := som hm
      exact sx_ret (ex_tup (ds := [(PyData.tuple (List.map PyData.int t7.1)), (PyData.int (-t7.2))]) (hl := len_ok (n := 2) rfl) (ax_cons (ex_v (i := 5) (j := 5) B rfl rfl rfl) (ax_cons (ex_neg (ex_v (i := 6) (j := 6) B rfl rfl rfl)) ax_nil))) (fun F H v e o c => R.rt F H v e o c)
    · have hm := ifF hm hk
      refine sx_fall ?_ rfl
      obtain ⟨t8, h8, hm⟩ := bnd hm
      refine sx_asg (i := 7) (vi := 7) (φ := (dat (PyData.int t8.1))) B T rfl rfl (ex_call (a := (q_well_here, t6.2, ((t7.1.length : Int) + 1))) (b := t8) (gi := 0) (rest := (q_ahead, ol (List.map (eP (eT PyData.int) PyData.int) w_ahead)) :: os) B rfl c_l_pick (by decide) h8 (ax_cons (ex_v (i := 0) (j := 0) B rfl rfl rfl) (ax_cons (ex_add (EX.to (ex_fn (j := 1) B rfl g_len (by decide +kernel) call_len_seq (rc_lenT (ds := List.map PyData.int t7.1) rdt_dat) (ax_cons (ex_v (i := 5) (j := 5) B rfl rfl rfl) ax_nil)) (by rw [List.length_map])) ex_int) ax_nil))) ?_
      obtain ⟨t10, h10, hm⟩ := bnd hm
      obtain rfl := som hm
      exact sx_ret (ex_tup (ds := [(PyData.tuple (List.map PyData.int t10)), (PyData.int times4)]) (hl := len_ok (n := 2) rfl) (ax_cons (ex_if (tx_cmp op_eq r2_eqI (nomark _) (ex_v (i := 3) (j := 3) B rfl rfl rfl) ex_int) (fun hk => by (have hm := ifT h10 hk; obtain ⟨t9, h9, hm⟩ := bnd hm; obtain rfl := som hm; exact (EX.to (ex_catT (enc := PyData.int) h9 (ex_cutT (enc := PyData.int) rdt_dat (ex_v (i := 5) (j := 5) B rfl rfl rfl) (px_some (ex_v (i := 7) (j := 7) B rfl rfl rfl)) px_none) (ex_cutT (enc := PyData.int) rdt_dat (ex_v (i := 5) (j := 5) B rfl rfl rfl) px_none (px_some (ex_v (i := 7) (j := 7) B rfl rfl rfl)))) (by rfl)))) (fun hk => by (have hm := ifF h10 hk; obtain rfl := som hm; exact (EX.to (ex_v (i := 5) (j := 5) B rfl rfl rfl) (by rfl))))) (ax_cons (ex_v (i := 4) (j := 4) B rfl rfl rfl) ax_nil))) (fun F H v e o c => R.rt F H v e o c)
  · have hm := ifF hm hk
    refine sx_fall ?_ rfl
    obtain ⟨t11, h11, hm⟩ := bnd hm
    refine sx_asg (i := 5) (vi := 5) (φ := (dat (PyData.tuple (List.map PyData.int t11.1)))) B T rfl rfl (ex_call (a := (q_well_here, t3.2, letters, 6)) (b := t11) (gi := 2) (rest := (q_ahead, ol (List.map (eP (eT PyData.int) PyData.int) w_ahead)) :: os) B rfl c_l_walk (by decide) h11 (ax_cons (ex_v (i := 0) (j := 0) B rfl rfl rfl) (ax_cons (ex_v (i := 1) (j := 1) B rfl rfl rfl) (ax_cons ex_int ax_nil)))) ?_
    obtain ⟨s16, h_s16, hm⟩ := bnd hm
    refine sx_join [sl (own q_well_here), sl (dat (PyData.int letters)), sl (own q_ahead), sl (dat (PyData.int t1.1)), sl (dat (PyData.int times4)), sl (dat (PyData.tuple (List.map PyData.int s16.1))), un, un, un] ((q_well_here, ol (List.map PyData.int s16.2)) :: (q_ahead, ol (List.map (eP (eT PyData.int) PyData.int) w_ahead)) :: os) (?_) (fun Q => ?_)
    · clear h_s16
      obtain rfl := som hm
      exact sx_ret (ex_tup (ds := [(PyData.tuple (List.map PyData.int s16.1)), (PyData.int times4)]) (hl := len_ok (n := 2) rfl) (ax_cons (ex_v (i := 5) (j := 5) B rfl rfl rfl) (ax_cons (ex_v (i := 4) (j := 4) B rfl rfl rfl) ax_nil))) (fun F H v e o c => R.rt F H v e o c)
    · have hm := h_s16
      refine sx_if (tx_cmp op_eq r2_eqI (nomark _) (ex_v (i := 3) (j := 3) B rfl rfl rfl) ex_int) (fun hk => ?_) (fun hk => ?_)
      · have hm := ifT hm hk
        obtain ⟨t12, h12, hm⟩ := bnd hm
        refine sx_asg (i := 8) (vi := 8) (φ := (dat (PyData.tuple (List.map PyData.int t12.1)))) B T rfl rfl (ex_call (a := (q_well_here, t11.2, letters, 3)) (b := t12) (gi := 2) (rest := (q_ahead, ol (List.map (eP (eT PyData.int) PyData.int) w_ahead)) :: os) B rfl c_l_walk (by decide) h12 (ax_cons (ex_v (i := 0) (j := 0) B rfl rfl rfl) (ax_cons (ex_v (i := 1) (j := 1) B rfl rfl rfl) (ax_cons ex_int ax_nil)))) ?_
        obtain ⟨t13, h13, hm⟩ := bnd hm
        obtain ⟨t14, h14, hm⟩ := bnd hm
        obtain ⟨t15, h15, hm⟩ := bnd hm
        refine sx_asg (i := 5) (vi := 5) (φ := (dat (PyData.tuple (List.map PyData.int t15)))) B T rfl rfl (ex_catT (enc := PyData.int) h15 (ex_catT (enc := PyData.int) h13 (ex_v (i := 8) (j := 8) B rfl rfl rfl) (ex_v (i := 5) (j := 5) B rfl rfl rfl)) (ex_call (a := t12.1) (b := t14) (gi := 3) (rest := (q_well_here, ol (List.map PyData.int t12.2)) :: (q_ahead, ol (List.map (eP (eT PyData.int) PyData.int) w_ahead)) :: os) B rfl c_l_back (by decide) h14 (ax_cons (ex_v (i := 8) (j := 8) B rfl rfl rfl) ax_nil))) ?_
        obtain rfl := som hm
        exact sx_fall (SX.weak Q (by exact ⟨.inl rfl, .inl rfl, .inl rfl, .inl rfl, .inl rfl, .inl rfl, .inl rfl, .inl rfl, .inr rfl, trivial⟩)) rfl
      · have hm := ifF hm hk
        obtain rfl := som hm
        exact sx_fall Q rfl
theorem cal_l_part {P : Program} {w : World} {K : PySem.W.Frag} {mg : Str → Option Value} {base : Heap} {f : Addr} {fd : FuncData} (Fn : Fun K "_law_part" "_law_part" s_l_part f fd) (hmg : mg "_law_part" = some (.ref f)) (hb : Binds K fd ["_law_well_here", "_law_letters", "_law_ahead"] []) (c_l_pick : Cal P w K mg base 1 "_law_pick" s_l_pick ["_law_well_here", "_law_many"] (sp_l_pick K)) (g_len : mg "len" = none) (c_l_walk : Cal P w K mg base 2 "_law_walk" s_l_walk ["_law_well_here", "_law_letters", "_law_most"] (sp_l_walk K)) (c_l_back : Cal P w K mg base 1 "_law_back" s_l_back ["_law_walk_here"] (sp_l_back K)) : Cal P w K mg base 3 "_law_part" s_l_part ["_law_well_here", "_law_letters", "_law_ahead"] (sp_l_part K) :=
  cal_Z (V := V_l_part) (Gs := G_l_part) (nl := 6) Fn sc_l_part (by decide +kernel) (by decide +kernel) hmg hb (fun _ => rfl) rfl fun _ _ _ _ _ _ _ a b F0 os D B T hm R => body_l_part rfl B T c_l_pick g_len c_l_walk c_l_back a.1 a.2.1 a.2.2.1 a.2.2.2.1 a.2.2.2.2 b F0 os D hm R
/-! ### _law_short -/
abbrev s_l_short : Stmt := top 50
def N_l_short : List Str := ["_law_well_here", "_law_letters", "_law_most", "_law_found", "_law_turn"]
def V_l_short : List Str := ["_law_well_here", "_law_letters", "_law_most", "_law_found", "_law_turn"]
def G_l_short : List Str := ["range", "_law_pick", "_law_part", "tuple"]
theorem sc_l_short : FnScope N_l_short ["_law_well_here", "_law_letters", "_law_most"] (defScope s_l_short) := ⟨rfl, rfl, rfl, by decide +kernel, rfl, by decide +kernel, by decide +kernel⟩
abbrev sp_l_short (K : PySem.W.Frag) : Sp := spZ (α := (Addr × (List Int) × Int × Int)) (β := ((List ((List Int) × Int)) × (List Int))) (fun a => [own a.1, (dat (PyData.int a.2.2.1)), (dat (PyData.int a.2.2.2))]) (fun a => (a.1, ol (List.map PyData.int a.2.1)) :: []) (fun a => m_l_short a.2.1 a.2.2.1 a.2.2.2) (fun a b => (dat (PyData.tuple (List.map (eP (eT PyData.int) PyData.int) b.1)))) (fun a b => (a.1, ol (List.map PyData.int b.2)) :: [])
set_option maxHeartbeats 4000000 in
theorem body_l_short {X : Cx} (hsc : X.env.scope = defScope s_l_short) (B : Bd X N_l_short V_l_short G_l_short 3) (T : Bt X V_l_short) (g_range : X.mg "range" = none) (c_l_pick : Cal X.prog X.w X.K X.mg X.base 1 "_law_pick" s_l_pick ["_law_well_here", "_law_many"] (sp_l_pick X.K)) (c_l_part : Cal X.prog X.w X.K X.mg X.base 3 "_law_part" s_l_part ["_law_well_here", "_law_letters", "_law_ahead"] (sp_l_part X.K)) (g_tuple : X.mg "tuple" = none) (q_well_here : Addr) (w_well_here : (List Int)) (letters : Int) (most : Int) (b : ((List ((List Int) × Int)) × (List Int))) (F0 : Hp) (os : Os) (D : Ends) (hm : m_l_short w_well_here letters most = some b) (R : RetZ F0 ((q_well_here, ol (List.map PyData.int b.2)) :: os) (dat (PyData.tuple (List.map (eP (eT PyData.int) PyData.int) b.1))) D) :
    SX X [sl (own q_well_here), sl (dat (PyData.int letters)), sl (dat (PyData.int most)), un, un] ((q_well_here, ol (List.map PyData.int w_well_here)) :: os) F0 (defBody s_l_short) D := by
  unfold m_l_short at hm
  refine sx_asgN (i := 3) (vi := 3) (n := ol (List.map (eP (eT PyData.int) PyData.int) ([] : (List ((List Int) × Int))))) B T rfl rfl (en_lst (ds := []) ax_nil) (fun q_found0 => ?_)
  obtain ⟨t1, h1, hm⟩ := bnd hm
  obtain ⟨t2, h2, hm⟩ := bnd hm
  obtain ⟨f5, h10, hm⟩ := bnd hm
  refine sx_for (c := anyOs) (fun (s3 : ((List Int) × (List ((List Int) × Int)))) (turn4 : Int) => ((m_l_part s3.1 letters s3.2).bind fun t8 => (appO t8.2.2 t8.1).bind fun t9 => some (t8.2.1, t9))) (fun (s3 : ((List Int) × (List ((List Int) × Int)))) (_ : Unit) => [sl (own q_well_here), sl (dat (PyData.int letters)), sl (dat (PyData.int most)), sl (own q_found0), un]) (fun (s3 : ((List Int) × (List ((List Int) × Int)))) (_ : Unit) => (q_well_here, ol (List.map PyData.int s3.1)) :: (q_found0, ol (List.map (eP (eT PyData.int) PyData.int) s3.2)) :: os) B T (fun turn4 => gx_name (i := 4) (vi := 4) (φ := (dat (PyData.int turn4))) B T rfl rfl) (t1.2, ([] : (List ((List Int) × Int)))) () f5 h10 (ix_rng1 (gi := 0) B rfl g_range h2 (EX.pre (ex_call (a := (q_well_here, w_well_here, (most + 1))) (b := t1) (gi := 1) (rest := (q_found0, ol (List.map (eP (eT PyData.int) PyData.int) ([] : (List ((List Int) × Int))))) :: os) B rfl c_l_pick (by decide) h1 (ax_cons (ex_v (i := 0) (j := 0) B rfl rfl rfl) (ax_cons (ex_add (ex_v (i := 2) (j := 2) B rfl rfl rfl) ex_int) ax_nil))) (perm_at (k := 1) rfl))) ⟨.inl rfl, .inl rfl, .inl rfl, .inl rfl, .inl rfl, trivial⟩ (fun _ _ => trivial) (fun F7 e6 s3 _ turn4 z11 hx hm => ?_) (fun _ => ?_)
  · clear h10
    obtain ⟨t8, h8, hm⟩ := bnd hm
    obtain ⟨t9, h9, hm⟩ := bnd hm
    refine sx_expr (ex_app (enc := (eP (eT PyData.int) PyData.int)) (j := 1) (xs0 := s3.2) (xs := t8.2.2) (y := t8.1) h9 (ex_v (i := 3) (j := 3) B rfl rfl rfl) rfl (EX.pre (EX.pre (ex_call (a := (q_well_here, s3.1, letters, q_found0, s3.2)) (b := t8) (gi := 2) (rest := os) B rfl c_l_part (by decide) h8 (ax_cons (ex_v (i := 0) (j := 0) B rfl rfl rfl) (ax_cons (ex_v (i := 1) (j := 1) B rfl rfl rfl) (ax_cons (ex_v (i := 3) (j := 3) B rfl rfl rfl) ax_nil)))) (perm_at (k := 1) rfl)) (perm_at (k := 1) rfl)) rfl) ?_
    obtain rfl := som hm
    exact sx_nil fun σ H a => ⟨(), (a.weak ⟨.inl rfl, .inl rfl, .inl rfl, .inl rfl, .inr rfl, trivial⟩)⟩
  · skip
    refine sx_frz (j := 1) (i := 3) rfl rfl ?_
    obtain rfl := som hm
    exact sx_ret (ex_ty (j := 3) B rfl g_tuple (by decide +kernel) call_tuple_of (rc_tupL (ds := List.map (eP (eT PyData.int) PyData.int) f5.2) rdl_dat) (ax_cons (ex_v (i := 3) (j := 3) B rfl rfl rfl) ax_nil)) (fun F H v e o c => R.rt F H v e o c)
theorem cal_l_short {P : Program} {w : World} {K : PySem.W.Frag} {mg : Str → Option Value} {base : Heap} {f : Addr} {fd : FuncData} (Fn : Fun K "_law_short" "_law_short" s_l_short f fd) (hmg : mg "_law_short" = some (.ref f)) (hb : Binds K fd ["_law_well_here", "_law_letters", "_law_most"] []) (g_range : mg "range" = none) (c_l_pick : Cal P w K mg base 1 "_law_pick" s_l_pick ["_law_well_here", "_law_many"] (sp_l_pick K)) (c_l_part : Cal P w K mg base 3 "_law_part" s_l_part ["_law_well_here", "_law_letters", "_law_ahead"] (sp_l_part K)) (g_tuple : mg "tuple" = none) : Cal P w K mg base 4 "_law_short" s_l_short ["_law_well_here", "_law_letters", "_law_most"] (sp_l_short K) :=
  cal_Z (V := V_l_short) (Gs := G_l_short) (nl := 2) Fn sc_l_short (by decide +kernel) (by decide +kernel) hmg hb (fun _ => rfl) rfl fun _ _ _ _ _ _ _ a b F0 os D B T hm R => body_l_short rfl B T g_range c_l_pick c_l_part g_tuple a.1 a.2.1 a.2.2.1 a.2.2.2 b F0 os D hm R
/-! ### _law_out -/
abbrev s_l_out : Stmt := top 51
def N_l_out : List Str := ["_law_short_here", "_law_steps", "_law_walk_here", "_law_times"]
def V_l_out : List Str := ["_law_short_here", "_law_steps", "_law_walk_here", "_law_times"]
def G_l_out : List Str := ["_law_back", "abs", "_law_straight"]
theorem sc_l_out : FnScope N_l_out ["_law_short_here"] (defScope s_l_out) := ⟨rfl, rfl, rfl, by decide +kernel, rfl, by decide +kernel, by decide +kernel⟩
abbrev sp_l_out (K : PySem.W.Frag) : Sp := spZ (α := (List ((List Int) × Int))) (β := (List Int)) (fun a => [(dat (PyData.tuple (List.map (eP (eT PyData.int) PyData.int) a)))]) (fun a => []) (fun a => m_l_out a) (fun a b => (dat (PyData.tuple (List.map PyData.int b)))) (fun a b => [])
set_option maxHeartbeats 4000000 in
theorem body_l_out {X : Cx} (hsc : X.env.scope = defScope s_l_out) (B : Bd X N_l_out V_l_out G_l_out 1) (T : Bt X V_l_out) (c_l_back : Cal X.prog X.w X.K X.mg X.base 1 "_law_back" s_l_back ["_law_walk_here"] (sp_l_back X.K)) (g_abs : X.mg "abs" = none) (c_l_straight : Cal X.prog X.w X.K X.mg X.base 1 "_law_straight" s_l_straight ["_law_walk_here"] (sp_l_straight X.K)) (short_here : (List ((List Int) × Int))) (b : (List Int)) (F0 : Hp) (os : Os) (D : Ends) (hm : m_l_out short_here = some b) (R : RetZ F0 (os) (dat (PyData.tuple (List.map PyData.int b))) D) :
    SX X [sl (dat (PyData.tuple (List.map (eP (eT PyData.int) PyData.int) short_here))), un, un, un] (os) F0 (defBody s_l_out) D := by
  unfold m_l_out at hm
  refine sx_asg (i := 1) (vi := 1) (φ := (dat (PyData.tuple (List.map PyData.int ([] : (List Int)))))) B T rfl rfl (ex_tup (ds := []) ax_nil) ?_
  obtain ⟨f3, h10, hm⟩ := bnd hm
  refine sx_for (c := anyOs) (fun (s1 : (List Int)) (x2 : ((List Int) × Int)) => ((if (decide (0 < x2.2)) = true then some x2.1 else ((m_l_back x2.1).bind fun t6 => some t6)).bind fun t7 => (repT t7 (absI x2.2)).bind fun t8 => (catO (α := Int) s1 t8).bind fun t9 => some t9)) (fun (s1 : (List Int)) (_ : Unit) => [sl (dat (PyData.tuple (List.map (eP (eT PyData.int) PyData.int) short_here))), sl (dat (PyData.tuple (List.map PyData.int s1))), un, un]) (fun (s1 : (List Int)) (_ : Unit) => os) B T (fun x2 => gx_pair B (gx_name (i := 2) (vi := 2) (φ := (dat (PyData.tuple (List.map PyData.int x2.1)))) B T rfl rfl) (gx_name (i := 3) (vi := 3) (φ := (dat (PyData.int x2.2))) B T rfl rfl)) ([] : (List Int)) () f3 h10 (ix_tup (enc := (eP (eT PyData.int) PyData.int)) (ex_v (i := 0) (j := 0) B rfl rfl rfl) rdt_dat) ⟨.inl rfl, .inl rfl, .inl rfl, .inl rfl, trivial⟩ (fun _ _ => trivial) (fun F5 e4 s1 _ x2 z12 hx hm => ?_) (fun _ => ?_)
  · clear h10
    obtain ⟨t7, h7, hm⟩ := bnd hm
    obtain ⟨t8, h8, hm⟩ := bnd hm
    obtain ⟨t9, h9, hm⟩ := bnd hm
    refine sx_asg (i := 1) (vi := 1) (φ := (dat (PyData.tuple (List.map PyData.int t9)))) B T rfl rfl (ex_catT (enc := PyData.int) h9 (ex_v (i := 1) (j := 1) B rfl rfl rfl) (ex_repT (enc := PyData.int) h8 (ex_if (tx_cmp op_gt r2_gt (nomark _) (ex_v (i := 3) (j := 3) B rfl rfl rfl) ex_int) (fun hk => by (have hm := ifT h7 hk; obtain rfl := som hm; exact (EX.to (ex_v (i := 2) (j := 2) B rfl rfl rfl) (by rfl)))) (fun hk => by (have hm := ifF h7 hk; obtain ⟨t6, h6, hm⟩ := bnd hm; obtain rfl := som hm; exact (EX.to (ex_call (a := x2.1) (b := t6) (gi := 0) (rest := os) B rfl c_l_back (by decide) h6 (ax_cons (ex_v (i := 2) (j := 2) B rfl rfl rfl) ax_nil)) (by rfl))))) (ex_fn (j := 1) B rfl g_abs (by decide +kernel) call_abs rc_abs (ax_cons (ex_v (i := 3) (j := 3) B rfl rfl rfl) ax_nil)))) ?_
    obtain rfl := som hm
    exact sx_nil fun σ H a => ⟨(), (a.weak ⟨.inl rfl, .inl rfl, .inr rfl, .inr rfl, trivial⟩)⟩
  · skip
    obtain ⟨t11, h11, hm⟩ := bnd hm
    obtain rfl := som hm
    exact sx_ret (ex_call (a := f3) (b := t11) (gi := 2) (rest := os) B rfl c_l_straight (by decide) h11 (ax_cons (ex_v (i := 1) (j := 1) B rfl rfl rfl) ax_nil)) (fun F H v e o c => R.rt F H v e o c)
theorem cal_l_out {P : Program} {w : World} {K : PySem.W.Frag} {mg : Str → Option Value} {base : Heap} {f : Addr} {fd : FuncData} (Fn : Fun K "_law_out" "_law_out" s_l_out f fd) (hmg : mg "_law_out" = some (.ref f)) (hb : Binds K fd ["_law_short_here"] []) (c_l_back : Cal P w K mg base 1 "_law_back" s_l_back ["_law_walk_here"] (sp_l_back K)) (g_abs : mg "abs" = none) (c_l_straight : Cal P w K mg base 1 "_law_straight" s_l_straight ["_law_walk_here"] (sp_l_straight K)) : Cal P w K mg base 2 "_law_out" s_l_out ["_law_short_here"] (sp_l_out K) :=
  cal_Z (V := V_l_out) (Gs := G_l_out) (nl := 3) Fn sc_l_out (by decide +kernel) (by decide +kernel) hmg hb (fun _ => rfl) rfl fun _ _ _ _ _ _ _ a b F0 os D B T hm R => body_l_out rfl B T c_l_back g_abs c_l_straight a b F0 os D hm R
/-! ### _law_long -/
abbrev s_l_long : Stmt := top 52
def N_l_long : List Str := ["_law_well_here", "_law_letters", "_law_walk_here", "_law_back_here", "_law_size", "_law_other", "_law_found", "_law_lead", "_law_often"]
def V_l_long : List Str := ["_law_well_here", "_law_letters", "_law_walk_here", "_law_back_here", "_law_size", "_law_other", "_law_found", "_law_lead"]
def G_l_long : List Str := ["_law_walk", "_law_back", "_law_pick", "tuple"]
theorem sc_l_long : FnScope N_l_long ["_law_well_here", "_law_letters"] (defScope s_l_long) := ⟨rfl, rfl, rfl, by decide +kernel, rfl, by decide +kernel, by decide +kernel⟩
abbrev sp_l_long (K : PySem.W.Frag) : Sp := spZ (α := (Addr × (List Int) × Int)) (β := ((List ((List Int) × Int)) × (List Int))) (fun a => [own a.1, (dat (PyData.int a.2.2))]) (fun a => (a.1, ol (List.map PyData.int a.2.1)) :: []) (fun a => m_l_long a.2.1 a.2.2) (fun a b => (dat (PyData.tuple (List.map (eP (eT PyData.int) PyData.int) b.1)))) (fun a b => (a.1, ol (List.map PyData.int b.2)) :: [])
set_option maxHeartbeats 4000000 in
theorem body_l_long {X : Cx} (hsc : X.env.scope = defScope s_l_long) (B : Bd X N_l_long V_l_long G_l_long 2) (T : Bt X V_l_long) (c_l_walk : Cal X.prog X.w X.K X.mg X.base 2 "_law_walk" s_l_walk ["_law_well_here", "_law_letters", "_law_most"] (sp_l_walk X.K)) (c_l_back : Cal X.prog X.w X.K X.mg X.base 1 "_law_back" s_l_back ["_law_walk_here"] (sp_l_back X.K)) (c_l_pick : Cal X.prog X.w X.K X.mg X.base 1 "_law_pick" s_l_pick ["_law_well_here", "_law_many"] (sp_l_pick X.K)) (g_tuple : X.mg "tuple" = none) (q_well_here : Addr) (w_well_here : (List Int)) (letters : Int) (b : ((List ((List Int) × Int)) × (List Int))) (F0 : Hp) (os : Os) (D : Ends) (hm : m_l_long w_well_here letters = some b) (R : RetZ F0 ((q_well_here, ol (List.map PyData.int b.2)) :: os) (dat (PyData.tuple (List.map (eP (eT PyData.int) PyData.int) b.1))) D) :
    SX X [sl (own q_well_here), sl (dat (PyData.int letters)), un, un, un, un, un, un, un] ((q_well_here, ol (List.map PyData.int w_well_here)) :: os) F0 (defBody s_l_long) D := by
  unfold m_l_long at hm
  obtain ⟨t1, h1, hm⟩ := bnd hm
  refine sx_asg (i := 2) (vi := 2) (φ := (dat (PyData.tuple (List.map PyData.int t1.1)))) B T rfl rfl (ex_call (a := (q_well_here, w_well_here, letters, 60)) (b := t1) (gi := 0) (rest := os) B rfl c_l_walk (by decide) h1 (ax_cons (ex_v (i := 0) (j := 0) B rfl rfl rfl) (ax_cons (ex_v (i := 1) (j := 1) B rfl rfl rfl) (ax_cons ex_int ax_nil)))) ?_
  obtain ⟨t2, h2, hm⟩ := bnd hm
  obtain ⟨t3, h3, hm⟩ := bnd hm
  refine sx_par2 (i := 3) (j := 4) _ hsc B rfl rfl (by decide) (by decide +kernel) (by decide +kernel) (by intro env he; cases env; cases he; first | rfl | kernel_rfl) (aq_x (φ := (dat (PyData.tuple (List.map PyData.int t2)))) (ex_call (a := t1.1) (b := t2) (gi := 1) (rest := (q_well_here, ol (List.map PyData.int t1.2)) :: os) B rfl c_l_back (by decide) h2 (ax_cons (ex_v (i := 2) (j := 2) B rfl rfl rfl) ax_nil)) (aq_x (φ := (dat (PyData.int t3.1))) (ex_call (a := (q_well_here, t1.2, 60)) (b := t3) (gi := 2) (rest := os) B rfl c_l_pick (by decide) h3 (ax_cons (ex_v (i := 0) (j := 0) B rfl rfl rfl) (ax_cons ex_int ax_nil))) aq_nil)) (fun v0 v1 os_ hr_ => ?_) (by rintro φs os_ ⟨_, rfl, _, rfl, rfl, rfl⟩; exact ⟨_, _, rfl⟩)
  obtain ⟨_, e0, _, e1, e8, e9⟩ := hr_
  cases e0; cases e1; cases e8; cases e9
  obtain ⟨t4, h4, hm⟩ := bnd hm
  obtain ⟨t5, h5, hm⟩ := bnd hm
  refine sx_asg (i := 5) (vi := 5) (φ := (dat (PyData.tuple (List.map PyData.int t5)))) B T rfl rfl (ex_catT (enc := PyData.int) h5 (ex_cutT (enc := PyData.int) rdt_dat (ex_v (i := 3) (j := 3) B rfl rfl rfl) px_none (px_some (ex_v (i := 4) (j := 4) B rfl rfl rfl))) (ex_call (a := (q_well_here, t3.2, letters, (60 - t3.1))) (b := t4) (gi := 0) (rest := os) B rfl c_l_walk (by decide) h4 (ax_cons (ex_v (i := 0) (j := 0) B rfl rfl rfl) (ax_cons (ex_v (i := 1) (j := 1) B rfl rfl rfl) (ax_cons (ex_sub ex_int (ex_v (i := 4) (j := 4) B rfl rfl rfl)) ax_nil))))) ?_
  obtain ⟨t6, h6, hm⟩ := bnd hm
  obtain ⟨t7, h7, hm⟩ := bnd hm
  refine sx_asg (i := 6) (vi := 6) (φ := (dat (PyData.list (List.map (eP (eT PyData.int) PyData.int) ([(t1.1, (1 + t6.1)), (t5, (1 + t7.1))]))))) B T rfl rfl (EN.ex (en_lst (ds := [(PyData.tuple [(PyData.tuple (List.map PyData.int (t1.1, (1 + t6.1)).1)), (PyData.int (t1.1, (1 + t6.1)).2)]), (PyData.tuple [(PyData.tuple (List.map PyData.int (t5, (1 + t7.1)).1)), (PyData.int (t5, (1 + t7.1)).2)])]) (hl := len_ok (n := 2) rfl) (ax_cons (ex_tup (ds := [(PyData.tuple (List.map PyData.int t1.1)), (PyData.int (1 + t6.1))]) (hl := len_ok (n := 2) rfl) (ax_cons (ex_v (i := 2) (j := 2) B rfl rfl rfl) (ax_cons (ex_add ex_int (ex_call (a := (q_well_here, t4.2, 3)) (b := t6) (gi := 2) (rest := os) B rfl c_l_pick (by decide) h6 (ax_cons (ex_v (i := 0) (j := 0) B rfl rfl rfl) (ax_cons ex_int ax_nil)))) ax_nil))) (ax_cons (ex_tup (ds := [(PyData.tuple (List.map PyData.int t5)), (PyData.int (1 + t7.1))]) (hl := len_ok (n := 2) rfl) (ax_cons (ex_v (i := 5) (j := 5) B rfl rfl rfl) (ax_cons (ex_add ex_int (ex_call (a := (q_well_here, t6.2, 3)) (b := t7) (gi := 2) (rest := os) B rfl c_l_pick (by decide) h7 (ax_cons (ex_v (i := 0) (j := 0) B rfl rfl rfl) (ax_cons ex_int ax_nil)))) ax_nil))) ax_nil)))) ?_
  obtain ⟨t8, h8, hm⟩ := bnd hm
  obtain ⟨s15, h_s15, hm⟩ := bnd hm
  refine sx_join [sl (own q_well_here), sl (dat (PyData.int letters)), sl (dat (PyData.tuple (List.map PyData.int t1.1))), sl (dat (PyData.tuple (List.map PyData.int t2))), sl (dat (PyData.int t3.1)), sl (dat (PyData.tuple (List.map PyData.int t5))), sl (dat (PyData.list (List.map (eP (eT PyData.int) PyData.int) s15.1))), un, un] ((q_well_here, ol (List.map PyData.int s15.2)) :: os) (?_) (fun Q => ?_)
  · clear h_s15
    obtain ⟨t19, h19, hm⟩ := bnd hm
    obtain rfl := som hm
    exact sx_ret (ex_ty (j := 3) B rfl g_tuple (by decide +kernel) call_tuple_of (rc_tupL (ds := List.map (eP (eT PyData.int) PyData.int) t19.1) rdl_dat) (ax_cons (EN.ex (EN.weak (es' := [sl (own q_well_here), sl (dat (PyData.int letters)), sl (dat (PyData.tuple (List.map PyData.int t1.1))), sl (dat (PyData.tuple (List.map PyData.int t2))), sl (dat (PyData.int t3.1)), un, sl (dat (PyData.list (List.map (eP (eT PyData.int) PyData.int) s15.1))), un, un]) (en_lc (lc_mk2 (i := 5) (j := 8) (d1 := fun x16 => (PyData.tuple (List.map PyData.int x16.1))) (d2 := fun x16 => (PyData.int x16.2)) (c := anyOs) (enc := (eP (eT PyData.int) PyData.int)) (fun (s17 : (List Int)) (x16 : ((List Int) × Int)) => ((m_l_pick s17 4).bind fun t18 => some (some (x16.1, (if (decide (0 < t18.1)) = true then x16.2 else (-x16.2))), t18.2))) (fun (s17 : (List Int)) (tl1 : Os) => (q_well_here, ol (List.map PyData.int s17)) :: tl1) s15.2 (t19.1) t19.2 B rfl rfl (by decide) rfl rfl (by rw [B.hN, hsc]; decide +kernel) (by rw [hsc]; decide +kernel) (by rw [hsc]; decide +kernel) (by decide) (lcE_ok h19) (ix_list (enc := (eP (eT PyData.int) PyData.int)) (c := anyOs) (ex_v (i := 6) (j := 6) B rfl rfl rfl) (fun _ _ => rdl_dat) trivial) (fun _ _ => trivial) (fun _ _ _ => (List.Perm.swap _ _ _)) (fun s17 x16 t tl1 hx hf => by (obtain ⟨t18, h18, hf⟩ := bnd hf; obtain rfl := som hf; exact ⟨true, _, fun X1 hX => by (have B1 := Bd.fam (W' := ["_law_well_here", "_law_other", "_law_often"]) (G' := ["_law_pick"]) B hX (by (try rw [hsc]); decide +kernel); have c_l_pick' := fam_cal hX c_l_pick; exact ⟨.nil, fun _ => ⟨_, rfl, (ex_tup (ds := [(PyData.tuple (List.map PyData.int x16.1)), (PyData.int (if (decide (0 < t18.1)) = true then x16.2 else (-x16.2)))]) (hl := len_ok (n := 2) rfl) (ax_cons (ex_v (i := 5) (j := 1) B1 rfl rfl rfl) (ax_cons (ex_if (tx_cmp op_gt r2_gt (nomark _) (ex_call (a := (q_well_here, s17, 4)) (b := t18) (gi := 0) (rest := tl1) B1 rfl c_l_pick' (by decide) h18 (ax_cons (ex_v (i := 0) (j := 0) B1 rfl rfl rfl) (ax_cons ex_int ax_nil))) ex_int) (fun hk => EX.to (ex_v (i := 8) (j := 2) B1 rfl rfl rfl) (by rw [if_pos hk])) (fun hk => EX.to (ex_neg (ex_v (i := 8) (j := 2) B1 rfl rfl rfl)) (by rw [if_neg (by rw [hk]; exact Bool.false_ne_true)]))) ax_nil)))⟩, fun h => Bool.noConfusion h⟩)⟩)))) ⟨.inl rfl, .inl rfl, .inl rfl, .inl rfl, .inl rfl, .inr rfl, .inl rfl, .inl rfl, .inl rfl, trivial⟩)) ax_nil)) (fun F H v e o c => R.rt F H v e o c)
  · have hm := h_s15
    refine sx_if (tx_cmp op_eq r2_eqI (nomark _) (ex_call (a := (q_well_here, t7.2, 2)) (b := t8) (gi := 2) (rest := os) B rfl c_l_pick (by decide) h8 (ax_cons (ex_v (i := 0) (j := 0) B rfl rfl rfl) (ax_cons ex_int ax_nil))) ex_int) (fun hk => ?_) (fun hk => ?_)
    · have hm := ifT hm hk
      refine sx_asg (i := 7) (vi := 7) (φ := (dat (PyData.tuple (List.map PyData.int (cut t1.1 none (some 25)))))) B T rfl rfl (ex_cutT (enc := PyData.int) rdt_dat (ex_v (i := 2) (j := 2) B rfl rfl rfl) px_none (px_some ex_int)) ?_
      obtain ⟨t9, h9, hm⟩ := bnd hm
      obtain ⟨t10, h10, hm⟩ := bnd hm
      obtain ⟨t11, h11, hm⟩ := bnd hm
      obtain ⟨t12, h12, hm⟩ := bnd hm
      obtain ⟨t13, h13, hm⟩ := bnd hm
      obtain ⟨t14, h14, hm⟩ := bnd hm
      refine sx_asg (i := 6) (vi := 6) (φ := (dat (PyData.list (List.map (eP (eT PyData.int) PyData.int) t14)))) B T rfl rfl (EN.ex (en_cat (enc := (eP (eT PyData.int) PyData.int)) h14 (EN.ex (en_lst (ds := [(PyData.tuple [(PyData.tuple (List.map PyData.int (t12, (1 + t13.1)).1)), (PyData.int (t12, (1 + t13.1)).2)])]) (hl := len_ok (n := 1) rfl) (ax_cons (ex_tup (ds := [(PyData.tuple (List.map PyData.int t12)), (PyData.int (1 + t13.1))]) (hl := len_ok (n := 2) rfl) (ax_cons (ex_catT (enc := PyData.int) h12 (ex_catT (enc := PyData.int) h10 (ex_v (i := 7) (j := 7) B rfl rfl rfl) (ex_call (a := (q_well_here, t8.2, letters, 10)) (b := t9) (gi := 0) (rest := os) B rfl c_l_walk (by decide) h9 (ax_cons (ex_v (i := 0) (j := 0) B rfl rfl rfl) (ax_cons (ex_v (i := 1) (j := 1) B rfl rfl rfl) (ax_cons ex_int ax_nil))))) (ex_call (a := (cut t1.1 none (some 25))) (b := t11) (gi := 1) (rest := (q_well_here, ol (List.map PyData.int t9.2)) :: os) B rfl c_l_back (by decide) h11 (ax_cons (ex_v (i := 7) (j := 7) B rfl rfl rfl) ax_nil))) (ax_cons (ex_add ex_int (ex_call (a := (q_well_here, t9.2, 3)) (b := t13) (gi := 2) (rest := os) B rfl c_l_pick (by decide) h13 (ax_cons (ex_v (i := 0) (j := 0) B rfl rfl rfl) (ax_cons ex_int ax_nil)))) ax_nil))) ax_nil))) (ex_v (i := 6) (j := 6) B rfl rfl rfl))) ?_
      obtain rfl := som hm
      exact sx_fall (SX.weak Q (by exact ⟨.inl rfl, .inl rfl, .inl rfl, .inl rfl, .inl rfl, .inl rfl, .inl rfl, .inr rfl, .inl rfl, trivial⟩)) rfl
    · have hm := ifF hm hk
      obtain rfl := som hm
      exact sx_fall Q rfl
theorem cal_l_long {P : Program} {w : World} {K : PySem.W.Frag} {mg : Str → Option Value} {base : Heap} {f : Addr} {fd : FuncData} (Fn : Fun K "_law_long" "_law_long" s_l_long f fd) (hmg : mg "_law_long" = some (.ref f)) (hb : Binds K fd ["_law_well_here", "_law_letters"] []) (c_l_walk : Cal P w K mg base 2 "_law_walk" s_l_walk ["_law_well_here", "_law_letters", "_law_most"] (sp_l_walk K)) (c_l_back : Cal P w K mg base 1 "_law_back" s_l_back ["_law_walk_here"] (sp_l_back K)) (c_l_pick : Cal P w K mg base 1 "_law_pick" s_l_pick ["_law_well_here", "_law_many"] (sp_l_pick K)) (g_tuple : mg "tuple" = none) : Cal P w K mg base 3 "_law_long" s_l_long ["_law_well_here", "_law_letters"] (sp_l_long K) :=
  cal_Z (V := V_l_long) (Gs := G_l_long) (nl := 7) Fn sc_l_long (by decide +kernel) (by decide +kernel) hmg hb (fun _ => rfl) rfl fun _ _ _ _ _ _ _ a b F0 os D B T hm R => body_l_long rfl B T c_l_walk c_l_back c_l_pick g_tuple a.1 a.2.1 a.2.2 b F0 os D hm R
/-! ### _law_beside -/
abbrev s_l_beside : Stmt := top 53
def N_l_beside : List Str := ["_law_well_here", "_law_letters", "_law_short_here", "_law_way", "_law_at", "_law_walk_here", "_law_times", "_law_part_here", "_law_mine", "_law_other", "_law_often"]
def V_l_beside : List Str := ["_law_well_here", "_law_letters", "_law_short_here", "_law_way", "_law_at", "_law_walk_here", "_law_times", "_law_part_here", "_law_mine", "_law_other", "_law_often"]
def G_l_beside : List Str := ["_law_pick", "len", "_law_short", "tuple", "_law_walk"]
theorem sc_l_beside : FnScope N_l_beside ["_law_well_here", "_law_letters", "_law_short_here"] (defScope s_l_beside) := ⟨rfl, rfl, rfl, by decide +kernel, rfl, by decide +kernel, by decide +kernel⟩
abbrev sp_l_beside (K : PySem.W.Frag) : Sp := spZ (α := (Addr × (List Int) × Int × (List ((List Int) × Int)))) (β := ((List ((List Int) × Int)) × (List Int))) (fun a => [own a.1, (dat (PyData.int a.2.2.1)), (dat (PyData.tuple (List.map (eP (eT PyData.int) PyData.int) a.2.2.2)))]) (fun a => (a.1, ol (List.map PyData.int a.2.1)) :: []) (fun a => m_l_beside a.2.1 a.2.2.1 a.2.2.2) (fun a b => (dat (PyData.tuple (List.map (eP (eT PyData.int) PyData.int) b.1)))) (fun a b => (a.1, ol (List.map PyData.int b.2)) :: [])
set_option maxHeartbeats 4000000 in
theorem body_l_beside {X : Cx} (hsc : X.env.scope = defScope s_l_beside) (B : Bd X N_l_beside V_l_beside G_l_beside 4) (T : Bt X V_l_beside) (c_l_pick : Cal X.prog X.w X.K X.mg X.base 1 "_law_pick" s_l_pick ["_law_well_here", "_law_many"] (sp_l_pick X.K)) (g_len : X.mg "len" = none) (c_l_short : Cal X.prog X.w X.K X.mg X.base 4 "_law_short" s_l_short ["_law_well_here", "_law_letters", "_law_most"] (sp_l_short X.K)) (g_tuple : X.mg "tuple" = none) (c_l_back : Cal X.prog X.w X.K X.mg X.base 1 "_law_back" s_l_back ["_law_walk_here"] (sp_l_back X.K)) (c_l_walk : Cal X.prog X.w X.K X.mg X.base 2 "_law_walk" s_l_walk ["_law_well_here", "_law_letters", "_law_most"] (sp_l_walk X.K)) (q_well_here : Addr) (w_well_here : (List Int)) (letters : Int) (short_here : (List ((List Int) × Int))) (b : ((List ((List Int) × Int)) × (List Int))) (F0 : Hp) (os : Os) (D : Ends) (hm : m_l_beside w_well_here letters short_here = some b) (R : RetZ F0 ((q_well_here, ol (List.map PyData.int b.2)) :: os) (dat (PyData.tuple (List.map (eP (eT PyData.int) PyData.int) b.1))) D) :
    SX X [sl (own q_well_here), sl (dat (PyData.int letters)), sl (dat (PyData.tuple (List.map (eP (eT PyData.int) PyData.int) short_here))), un, un, un, un, un, un, un, un] ((q_well_here, ol (List.map PyData.int w_well_here)) :: os) F0 (defBody s_l_beside) D := by
  unfold m_l_beside at hm
  obtain ⟨t1, h1, hm⟩ := bnd hm
  refine sx_asg (i := 3) (vi := 3) (φ := (dat (PyData.int t1.1))) B T rfl rfl (ex_call (a := (q_well_here, w_well_here, 7)) (b := t1) (gi := 0) (rest := os) B rfl c_l_pick (by decide) h1 (ax_cons (ex_v (i := 0) (j := 0) B rfl rfl rfl) (ax_cons ex_int ax_nil))) ?_
  refine sx_if (WX.tx (wx_or (tx_cmp op_eq r2_eqI (nomark _) (ex_v (i := 3) (j := 3) B rfl rfl rfl) ex_int) (fun _ => (wx_or1 (tx_cmp op_eq r2_eqI (nomark _) (EX.to (ex_fn (j := 1) B rfl g_len (by decide +kernel) call_len_seq (rc_lenT (ds := List.map (eP (eT PyData.int) PyData.int) short_here) rdt_dat) (ax_cons (ex_v (i := 2) (j := 2) B rfl rfl rfl) ax_nil)) (by rw [List.length_map])) ex_int))) (fun _ => rfl) rfl)) (fun hk => ?_) (fun hk => ?_)
  · have hm := ifT hm hk
    obtain ⟨t2, h2, hm⟩ := bnd hm
    obtain rfl := som hm
    exact sx_ret (ex_call (a := (q_well_here, t1.2, letters, 6)) (b := t2) (gi := 2) (rest := os) B rfl c_l_short (by decide) h2 (ax_cons (ex_v (i := 0) (j := 0) B rfl rfl rfl) (ax_cons (ex_v (i := 1) (j := 1) B rfl rfl rfl) (ax_cons ex_int ax_nil)))) (fun F H v e o c => R.rt F H v e o c)
  · have hm := ifF hm hk
    refine sx_fall ?_ rfl
    obtain ⟨t3, h3, hm⟩ := bnd hm
    refine sx_asg (i := 4) (vi := 4) (φ := (dat (PyData.int t3.1))) B T rfl rfl (ex_call (a := (q_well_here, t1.2, (short_here.length : Int))) (b := t3) (gi := 0) (rest := os) B rfl c_l_pick (by decide) h3 (ax_cons (ex_v (i := 0) (j := 0) B rfl rfl rfl) (ax_cons (EX.to (ex_fn (j := 1) B rfl g_len (by decide +kernel) call_len_seq (rc_lenT (ds := List.map (eP (eT PyData.int) PyData.int) short_here) rdt_dat) (ax_cons (ex_v (i := 2) (j := 2) B rfl rfl rfl) ax_nil)) (by rw [List.length_map])) ax_nil))) ?_
    obtain ⟨t4, h4, hm⟩ := bnd hm
    refine sx_unp (gx_pair B (gx_name (i := 5) (vi := 5) B T rfl rfl) (gx_name (i := 6) (vi := 6) B T rfl rfl)) (ex_idxT (enc := (eP (eT PyData.int) PyData.int)) h4 rdt_dat (ex_v (i := 2) (j := 2) B rfl rfl rfl) (ex_v (i := 4) (j := 4) B rfl rfl rfl)) ?_
    refine sx_if (tx_cmp op_eq r2_eqI (nomark _) (ex_v (i := 3) (j := 3) B rfl rfl rfl) ex_int) (fun hk => ?_) (fun hk => ?_)
    · have hm := ifT hm hk
      obtain ⟨t5, h5, hm⟩ := bnd hm
      refine sx_asg (i := 7) (vi := 7) (φ := (dat (PyData.int (t5.1 - 4)))) B T rfl rfl (ex_sub (ex_call (a := (q_well_here, t3.2, 9)) (b := t5) (gi := 0) (rest := os) B rfl c_l_pick (by decide) h5 (ax_cons (ex_v (i := 0) (j := 0) B rfl rfl rfl) (ax_cons ex_int ax_nil))) ex_int) ?_
      obtain ⟨t8, h8, hm⟩ := bnd hm
      refine sx_asgLc (i := 8) B T rfl (by rw [hsc]; exact lcl_of (by decide +kernel)) (lc_mk1 (j := 10) (vp := fun often6 => (dat (PyData.int often6))) (c := anyOs) (enc := (eP (eT PyData.int) PyData.int)) (fun (_ : Unit) (often6 : Int) => some (if (!decide (often6 = 0)) = true then some (t4.1, often6) else none, ())) (fun (_ : Unit) (tl1 : Os) => (q_well_here, ol (List.map PyData.int t5.2)) :: tl1) () (t8) () B rfl rfl (by rw [B.hN, hsc]; decide +kernel) (by rw [hsc]; decide +kernel) (by decide) (lcF_ok h8) (ix_tup (enc := PyData.int) (xs := [((t5.1 - 4), (t4.2 - (t5.1 - 4))).1, ((t5.1 - 4), (t4.2 - (t5.1 - 4))).2]) (ex_tup (ds := [(PyData.int (t5.1 - 4)), (PyData.int (t4.2 - (t5.1 - 4)))]) (hl := len_ok (n := 2) rfl) (ax_cons (ex_v (i := 7) (j := 7) B rfl rfl rfl) (ax_cons (ex_sub (ex_v (i := 6) (j := 6) B rfl rfl rfl) (ex_v (i := 7) (j := 7) B rfl rfl rfl)) ax_nil))) rdt_dat) (fun _ _ => trivial) (fun _ _ _ => (List.Perm.swap _ _ _)) (fun _ often6 t tl1 hx hf => by (obtain rfl := som hf; exact ⟨(!decide (often6 = 0)), _, fun X1 hX => by (have B1 := Bd.fam (W' := ["_law_walk_here", "_law_often"]) (G' := []) B hX (by (try rw [hsc]); decide +kernel); exact ⟨.one (tx_cmp op_ne r2_neI (nomark _) (ex_v (i := 10) (j := 1) B1 rfl rfl rfl) ex_int), fun h => ⟨_, if_pos h, (ex_tup (ds := [(PyData.tuple (List.map PyData.int t4.1)), (PyData.int often6)]) (hl := len_ok (n := 2) rfl) (ax_cons (ex_v (i := 5) (j := 0) B1 rfl rfl rfl) (ax_cons (ex_v (i := 10) (j := 1) B1 rfl rfl rfl) ax_nil)))⟩, fun h => ⟨if_neg (by rw [h]; exact Bool.false_ne_true), rfl⟩⟩)⟩))) (sw_ok (by rw [hsc]; decide +kernel) (by rw [hsc]; exact lcl_of (by decide +kernel)) (by decide) (by decide +kernel)) (fun q_mine8 => ?_)
      refine sx_frz (j := 0) (i := 8) rfl rfl ?_
      obtain ⟨t9, h9, hm⟩ := bnd hm
      obtain ⟨t10, h10, hm⟩ := bnd hm
      obtain rfl := som hm
      exact sx_ret (ex_catT (enc := (eP (eT PyData.int) PyData.int)) h10 (ex_catT (enc := (eP (eT PyData.int) PyData.int)) h9 (ex_cutT (enc := (eP (eT PyData.int) PyData.int)) rdt_dat (ex_v (i := 2) (j := 2) B rfl rfl rfl) px_none (px_some (ex_v (i := 4) (j := 4) B rfl rfl rfl))) (ex_ty (j := 3) B rfl g_tuple (by decide +kernel) call_tuple_of (rc_tupL (ds := List.map (eP (eT PyData.int) PyData.int) t8) rdl_dat) (ax_cons (ex_v (i := 8) (j := 8) B rfl rfl rfl) ax_nil))) (ex_cutT (enc := (eP (eT PyData.int) PyData.int)) rdt_dat (ex_v (i := 2) (j := 2) B rfl rfl rfl) (px_some (ex_add (ex_v (i := 4) (j := 4) B rfl rfl rfl) ex_int)) px_none)) (fun F H v e o c => R.rt F H v e o c)
    · have hm := ifF hm hk
      refine sx_fall ?_ rfl
      refine sx_if (tx_cmp op_eq r2_eqI (nomark _) (ex_v (i := 3) (j := 3) B rfl rfl rfl) ex_int) (fun hk => ?_) (fun hk => ?_)
      · have hm := ifT hm hk
        obtain ⟨t14, h14, hm⟩ := bnd hm
        obtain rfl := som hm
        exact sx_ret (ex_ty (j := 3) B rfl g_tuple (by decide +kernel) call_tuple_of (rc_tupL (ds := List.map (eP (eT PyData.int) PyData.int) t14) rdl_dat) (ax_cons (EN.ex (en_lc (lc_mk2 (i := 9) (j := 10) (d1 := fun x11 => (PyData.tuple (List.map PyData.int x11.1))) (d2 := fun x11 => (PyData.int x11.2)) (c := anyOs) (enc := (eP (eT PyData.int) PyData.int)) (fun (_ : Unit) (x11 : ((List Int) × Int)) => ((fun (x11 : ((List Int) × Int)) => ((m_l_back x11.1).bind fun t13 => some (t13, (-x11.2)))) x11).map fun y => (some y, ())) (fun (_ : Unit) (tl1 : Os) => (q_well_here, ol (List.map PyData.int t3.2)) :: tl1) () (t14) () B rfl rfl (by decide) rfl rfl (by rw [B.hN, hsc]; decide +kernel) (by rw [hsc]; decide +kernel) (by rw [hsc]; decide +kernel) (by decide) (lcO_ok h14) (ix_tup (enc := (eP (eT PyData.int) PyData.int)) (ex_v (i := 2) (j := 2) B rfl rfl rfl) rdt_dat) (fun _ _ => trivial) (fun _ _ _ => (List.Perm.swap _ _ _)) (fun _ x11 t tl1 hx hf => by (obtain ⟨y, hy, rfl⟩ := Option.map_eq_some_iff.mp hf; obtain ⟨t13, h13, hy⟩ := bnd hy; obtain rfl := som hy; exact ⟨true, _, fun X1 hX => by (have B1 := Bd.fam (W' := ["_law_other", "_law_often"]) (G' := ["_law_back"]) B hX (by (try rw [hsc]); decide +kernel); have c_l_back' := fam_cal hX c_l_back; exact ⟨.nil, fun _ => ⟨_, rfl, (ex_tup (ds := [(PyData.tuple (List.map PyData.int t13)), (PyData.int (-x11.2))]) (hl := len_ok (n := 2) rfl) (ax_cons (ex_call (a := x11.1) (b := t13) (gi := 0) (rest := (q_well_here, ol (List.map PyData.int t3.2)) :: tl1) B1 rfl c_l_back' (by decide) h13 (ax_cons (ex_v (i := 9) (j := 0) B1 rfl rfl rfl) ax_nil)) (ax_cons (ex_neg (ex_v (i := 10) (j := 1) B1 rfl rfl rfl)) ax_nil)))⟩, fun h => Bool.noConfusion h⟩)⟩))))) ax_nil)) (fun F H v e o c => R.rt F H v e o c)
      · have hm := ifF hm hk
        refine sx_fall ?_ rfl
        refine sx_if (tx_cmp op_eq r2_eqI (nomark _) (ex_v (i := 3) (j := 3) B rfl rfl rfl) ex_int) (fun hk => ?_) (fun hk => ?_)
        · have hm := ifT hm hk
          obtain ⟨t15, h15, hm⟩ := bnd hm
          obtain ⟨t16, h16, hm⟩ := bnd hm
          refine sx_par2 (i := 9) (j := 10) _ hsc B rfl rfl (by decide) (by decide +kernel) (by decide +kernel) (by intro env he; cases env; cases he; first | rfl | kernel_rfl) (aq_x (φ := (dat (PyData.tuple (List.map PyData.int t15.1)))) (ex_call (a := (q_well_here, t3.2, letters, 5)) (b := t15) (gi := 4) (rest := os) B rfl c_l_walk (by decide) h15 (ax_cons (ex_v (i := 0) (j := 0) B rfl rfl rfl) (ax_cons (ex_v (i := 1) (j := 1) B rfl rfl rfl) (ax_cons ex_int ax_nil)))) (aq_x (φ := (dat (PyData.int (1 + t16.1)))) (ex_add ex_int (ex_call (a := (q_well_here, t15.2, 9)) (b := t16) (gi := 0) (rest := os) B rfl c_l_pick (by decide) h16 (ax_cons (ex_v (i := 0) (j := 0) B rfl rfl rfl) (ax_cons ex_int ax_nil)))) aq_nil)) (fun v0 v1 os_ hr_ => ?_) (by rintro φs os_ ⟨_, rfl, _, rfl, rfl, rfl⟩; exact ⟨_, _, rfl⟩)
          obtain ⟨_, e0, _, e1, e8, e9⟩ := hr_
          cases e0; cases e1; cases e8; cases e9
          obtain ⟨t17, h17, hm⟩ := bnd hm
          obtain ⟨t18, h18, hm⟩ := bnd hm
          obtain rfl := som hm
          exact sx_ret (ex_catT (enc := (eP (eT PyData.int) PyData.int)) h18 (ex_catT (enc := (eP (eT PyData.int) PyData.int)) h17 (ex_cutT (enc := (eP (eT PyData.int) PyData.int)) rdt_dat (ex_v (i := 2) (j := 2) B rfl rfl rfl) px_none (px_some (ex_v (i := 4) (j := 4) B rfl rfl rfl))) (ex_tup (ds := [(PyData.tuple [(PyData.tuple (List.map PyData.int (t15.1, (1 + t16.1)).1)), (PyData.int (t15.1, (1 + t16.1)).2)]), (PyData.tuple [(PyData.tuple (List.map PyData.int (t15.1, (-(1 + t16.1))).1)), (PyData.int (t15.1, (-(1 + t16.1))).2)])]) (hl := len_ok (n := 2) rfl) (ax_cons (ex_tup (ds := [(PyData.tuple (List.map PyData.int t15.1)), (PyData.int (1 + t16.1))]) (hl := len_ok (n := 2) rfl) (ax_cons (ex_v (i := 9) (j := 9) B rfl rfl rfl) (ax_cons (ex_v (i := 10) (j := 10) B rfl rfl rfl) ax_nil))) (ax_cons (ex_tup (ds := [(PyData.tuple (List.map PyData.int t15.1)), (PyData.int (-(1 + t16.1)))]) (hl := len_ok (n := 2) rfl) (ax_cons (ex_v (i := 9) (j := 9) B rfl rfl rfl) (ax_cons (ex_neg (ex_v (i := 10) (j := 10) B rfl rfl rfl)) ax_nil))) ax_nil)))) (ex_cutT (enc := (eP (eT PyData.int) PyData.int)) rdt_dat (ex_v (i := 2) (j := 2) B rfl rfl rfl) (px_some (ex_v (i := 4) (j := 4) B rfl rfl rfl)) px_none)) (fun F H v e o c => R.rt F H v e o c)
        · have hm := ifF hm hk
          refine sx_fall ?_ rfl
          refine sx_if (tx_cmp op_eq r2_eqI (nomark _) (ex_v (i := 3) (j := 3) B rfl rfl rfl) ex_int) (fun hk => ?_) (fun hk => ?_)
          · have hm := ifT hm hk
            obtain ⟨t19, h19, hm⟩ := bnd hm
            obtain ⟨t20, h20, hm⟩ := bnd hm
            obtain rfl := som hm
            exact sx_ret (ex_catT (enc := (eP (eT PyData.int) PyData.int)) h20 (ex_catT (enc := (eP (eT PyData.int) PyData.int)) h19 (ex_cutT (enc := (eP (eT PyData.int) PyData.int)) rdt_dat (ex_v (i := 2) (j := 2) B rfl rfl rfl) px_none (px_some (ex_v (i := 4) (j := 4) B rfl rfl rfl))) (ex_tup (ds := [(PyData.tuple [(PyData.tuple (List.map PyData.int (t4.1, (if (!decide (t4.2 = (-1))) = true then (t4.2 + 1) else 1)).1)), (PyData.int (t4.1, (if (!decide (t4.2 = (-1))) = true then (t4.2 + 1) else 1)).2)])]) (hl := len_ok (n := 1) rfl) (ax_cons (ex_tup (ds := [(PyData.tuple (List.map PyData.int t4.1)), (PyData.int (if (!decide (t4.2 = (-1))) = true then (t4.2 + 1) else 1))]) (hl := len_ok (n := 2) rfl) (ax_cons (ex_v (i := 5) (j := 5) B rfl rfl rfl) (ax_cons (ex_if (tx_cmp op_ne r2_neI (nomark _) (ex_v (i := 6) (j := 6) B rfl rfl rfl) (ex_neg ex_int)) (fun hk => EX.to (ex_add (ex_v (i := 6) (j := 6) B rfl rfl rfl) ex_int) (by rw [if_pos hk])) (fun hk => EX.to ex_int (by rw [if_neg (by rw [hk]; exact Bool.false_ne_true)]))) ax_nil))) ax_nil))) (ex_cutT (enc := (eP (eT PyData.int) PyData.int)) rdt_dat (ex_v (i := 2) (j := 2) B rfl rfl rfl) (px_some (ex_add (ex_v (i := 4) (j := 4) B rfl rfl rfl) ex_int)) px_none)) (fun F H v e o c => R.rt F H v e o c)
          · have hm := ifF hm hk
            refine sx_fall ?_ rfl
            refine sx_if (tx_cmp op_eq r2_eqI (nomark _) (ex_v (i := 3) (j := 3) B rfl rfl rfl) ex_int) (fun hk => ?_) (fun hk => ?_)
            · have hm := ifT hm hk
              obtain ⟨t21, h21, hm⟩ := bnd hm
              obtain ⟨t22, h22, hm⟩ := bnd hm
              obtain ⟨t23, h23, hm⟩ := bnd hm
              obtain rfl := som hm
              exact sx_ret (ex_catT (enc := (eP (eT PyData.int) PyData.int)) h23 (ex_v (i := 2) (j := 2) B rfl rfl rfl) (ex_tup (ds := [(PyData.tuple [(PyData.tuple (List.map PyData.int ([(1 + t21.1)], (1 - (2 * t22.1))).1)), (PyData.int ([(1 + t21.1)], (1 - (2 * t22.1))).2)])]) (hl := len_ok (n := 1) rfl) (ax_cons (ex_tup (ds := [(PyData.tuple (List.map PyData.int ([(1 + t21.1)]))), (PyData.int (1 - (2 * t22.1)))]) (hl := len_ok (n := 2) rfl) (ax_cons (ex_tup (ds := [(PyData.int (1 + t21.1))]) (hl := len_ok (n := 1) rfl) (ax_cons (ex_add ex_int (ex_call (a := (q_well_here, t3.2, letters)) (b := t21) (gi := 0) (rest := os) B rfl c_l_pick (by decide) h21 (ax_cons (ex_v (i := 0) (j := 0) B rfl rfl rfl) (ax_cons (ex_v (i := 1) (j := 1) B rfl rfl rfl) ax_nil)))) ax_nil)) (ax_cons (ex_sub ex_int (ex_mulL (by decide) ex_int (ex_call (a := (q_well_here, t21.2, 2)) (b := t22) (gi := 0) (rest := os) B rfl c_l_pick (by decide) h22 (ax_cons (ex_v (i := 0) (j := 0) B rfl rfl rfl) (ax_cons ex_int ax_nil))))) ax_nil))) ax_nil))) (fun F H v e o c => R.rt F H v e o c)
            · have hm := ifF hm hk
              refine sx_fall ?_ rfl
              obtain ⟨t24, h24, hm⟩ := bnd hm
              obtain rfl := som hm
              exact sx_ret (ex_catT (enc := (eP (eT PyData.int) PyData.int)) h24 (ex_cutT (enc := (eP (eT PyData.int) PyData.int)) rdt_dat (ex_v (i := 2) (j := 2) B rfl rfl rfl) px_none (px_some (ex_v (i := 4) (j := 4) B rfl rfl rfl))) (ex_cutT (enc := (eP (eT PyData.int) PyData.int)) rdt_dat (ex_v (i := 2) (j := 2) B rfl rfl rfl) (px_some (ex_add (ex_v (i := 4) (j := 4) B rfl rfl rfl) ex_int)) px_none)) (fun F H v e o c => R.rt F H v e o c)
theorem cal_l_beside {P : Program} {w : World} {K : PySem.W.Frag} {mg : Str → Option Value} {base : Heap} {f : Addr} {fd : FuncData} (Fn : Fun K "_law_beside" "_law_beside" s_l_beside f fd) (hmg : mg "_law_beside" = some (.ref f)) (hb : Binds K fd ["_law_well_here", "_law_letters", "_law_short_here"] []) (c_l_pick : Cal P w K mg base 1 "_law_pick" s_l_pick ["_law_well_here", "_law_many"] (sp_l_pick K)) (g_len : mg "len" = none) (c_l_short : Cal P w K mg base 4 "_law_short" s_l_short ["_law_well_here", "_law_letters", "_law_most"] (sp_l_short K)) (g_tuple : mg "tuple" = none) (c_l_back : Cal P w K mg base 1 "_law_back" s_l_back ["_law_walk_here"] (sp_l_back K)) (c_l_walk : Cal P w K mg base 2 "_law_walk" s_l_walk ["_law_well_here", "_law_letters", "_law_most"] (sp_l_walk K)) : Cal P w K mg base 5 "_law_beside" s_l_beside ["_law_well_here", "_law_letters", "_law_short_here"] (sp_l_beside K) :=
  cal_Z (V := V_l_beside) (Gs := G_l_beside) (nl := 8) Fn sc_l_beside (by decide +kernel) (by decide +kernel) hmg hb (fun _ => rfl) rfl fun _ _ _ _ _ _ _ a b F0 os D B T hm R => body_l_beside rfl B T c_l_pick g_len c_l_short g_tuple c_l_back c_l_walk a.1 a.2.1 a.2.2.1 a.2.2.2 b F0 os D hm R
/-! ### _law_unlike -/
abbrev s_l_unlike : Stmt := top 54
def N_l_unlike : List Str := ["_law_one", "_law_other", "_law_place"]
def V_l_unlike : List Str := ["_law_one", "_law_other", "_law_place"]
def G_l_unlike : List Str := ["range", "min", "len"]
theorem sc_l_unlike : FnScope N_l_unlike ["_law_one", "_law_other"] (defScope s_l_unlike) := ⟨rfl, rfl, rfl, by decide +kernel, rfl, by decide +kernel, by decide +kernel⟩
abbrev sp_l_unlike (K : PySem.W.Frag) : Sp := spZ (α := ((List Int) × (List Int))) (β := (Option Int)) (fun a => [(dat (PyData.tuple (List.map PyData.int a.1))), (dat (PyData.tuple (List.map PyData.int a.2)))]) (fun a => []) (fun a => m_l_unlike a.1 a.2) (fun a b => (dat ((eO PyData.int) b))) (fun a b => [])
set_option maxHeartbeats 4000000 in
theorem body_l_unlike {X : Cx} (hsc : X.env.scope = defScope s_l_unlike) (B : Bd X N_l_unlike V_l_unlike G_l_unlike 0) (T : Bt X V_l_unlike) (g_range : X.mg "range" = none) (g_min : X.mg "min" = none) (g_len : X.mg "len" = none) (one : (List Int)) (other : (List Int)) (b : (Option Int)) (F0 : Hp) (os : Os) (D : Ends) (hm : m_l_unlike one other = some b) (R : RetZ F0 (os) (dat ((eO PyData.int) b)) D) :
    SX X [sl (dat (PyData.tuple (List.map PyData.int one))), sl (dat (PyData.tuple (List.map PyData.int other))), un] (os) F0 (defBody s_l_unlike) D := by
  unfold m_l_unlike at hm
  refine sx_if (tx_eqR (e := (eT PyData.int)) (x := one) (y := other) B (eqv_tup eqv_int) (sh_tup sh_int) (by decide) rdx_dat rdx_dat (ex_v (i := 0) (j := 0) B rfl rfl rfl) (ex_v (i := 1) (j := 1) B rfl rfl rfl)) (fun hk => ?_) (fun hk => ?_)
  · have hm := ifT hm hk
    obtain rfl := som hm
    exact sx_ret ex_none (fun F H v e o c => R.rt F H v e o c)
  · have hm := ifF hm hk
    refine sx_fall ?_ rfl
    obtain ⟨t1, h1, hm⟩ := bnd hm
    obtain ⟨f4o, h9, hm⟩ := bnd hm
    refine sx_forR (c := anyOs) (fun (s2 : Unit) (place3 : Int) => (((idx one place3).bind fun t7 => (idx other place3).bind fun t8 => (if (!decide (t7 = t8)) = true then some (Step.ret (some place3)) else some (Step.go ()))) : Option (Step (Option Int) Unit))) (fun (s2 : Unit) (_ : Unit) => [sl (dat (PyData.tuple (List.map PyData.int one))), sl (dat (PyData.tuple (List.map PyData.int other))), un]) (fun (s2 : Unit) (_ : Unit) => os) (fun (r : (Option Int)) v H => ∃ F, Same F0 F ∧ Ow F (os) H ∧ Cl (dat ((eO PyData.int) r)) F v) B T (fun place3 => gx_name (i := 2) (vi := 2) (φ := (dat (PyData.int place3))) B T rfl rfl) () () f4o h9 (ix_rng1 (gi := 0) B rfl g_range h1 (ex_fn (j := 1) B rfl g_min (by decide +kernel) (call_min2 B.calm) rc_min (ax_cons (EX.to (ex_fn (j := 2) B rfl g_len (by decide +kernel) call_len_seq (rc_lenT (ds := List.map PyData.int one) rdt_dat) (ax_cons (ex_v (i := 0) (j := 0) B rfl rfl rfl) ax_nil)) (by rw [List.length_map])) (ax_cons (EX.to (ex_fn (j := 2) B rfl g_len (by decide +kernel) call_len_seq (rc_lenT (ds := List.map PyData.int other) rdt_dat) (ax_cons (ex_v (i := 1) (j := 1) B rfl rfl rfl) ax_nil)) (by rw [List.length_map])) ax_nil)))) ⟨.inl rfl, .inl rfl, .inl rfl, trivial⟩ (fun _ _ => trivial) (fun F6 e5 s2 _ place3 z11 hx hm2 => ?_) (fun f4 _ ho => ?_) (fun r10 v H ho hr => ?_)
    · clear hm h9
      have hm := hm2
      obtain ⟨t7, h7, hm⟩ := bnd hm
      obtain ⟨t8, h8, hm⟩ := bnd hm
      refine sx_if (tx_cmp op_ne r2_neI (nomark _) (ex_idxT (enc := PyData.int) h7 rdt_dat (ex_v (i := 0) (j := 0) B rfl rfl rfl) (ex_v (i := 2) (j := 2) B rfl rfl rfl)) (ex_idxT (enc := PyData.int) h8 rdt_dat (ex_v (i := 1) (j := 1) B rfl rfl rfl) (ex_v (i := 2) (j := 2) B rfl rfl rfl))) (fun hk => ?_) (fun hk => ?_)
      · have hm := ifT hm hk
        exact sx_ret (ex_v (i := 2) (j := 2) B rfl rfl rfl) (fun F H v e o c => ⟨_, (som hm).symm, F, (e5.trans e), o, c⟩)
      · have hm := ifF hm hk
        refine sx_fall ?_ rfl
        exact sx_nil fun σ H a => ⟨_, (), (som hm).symm, (a.weak ⟨.inl rfl, .inl rfl, .inr rfl, trivial⟩)⟩
    · cases ho
      have hm := elimR hm
      obtain rfl := som hm
      exact sx_ret (ex_fn (j := 1) B rfl g_min (by decide +kernel) (call_min2 B.calm) rc_min (ax_cons (EX.to (ex_fn (j := 2) B rfl g_len (by decide +kernel) call_len_seq (rc_lenT (ds := List.map PyData.int one) rdt_dat) (ax_cons (ex_v (i := 0) (j := 0) B rfl rfl rfl) ax_nil)) (by rw [List.length_map])) (ax_cons (EX.to (ex_fn (j := 2) B rfl g_len (by decide +kernel) call_len_seq (rc_lenT (ds := List.map PyData.int other) rdt_dat) (ax_cons (ex_v (i := 1) (j := 1) B rfl rfl rfl) ax_nil)) (by rw [List.length_map])) ax_nil))) (fun F H v e o c => R.rt F H v e o c)
    · cases ho
      have hm := elimL hm
      obtain rfl := som hm
      obtain ⟨F, e, o, c⟩ := hr
      exact R.rt F H v e o c
theorem cal_l_unlike {P : Program} {w : World} {K : PySem.W.Frag} {mg : Str → Option Value} {base : Heap} {f : Addr} {fd : FuncData} (Fn : Fun K "_law_unlike" "_law_unlike" s_l_unlike f fd) (hmg : mg "_law_unlike" = some (.ref f)) (hb : Binds K fd ["_law_one", "_law_other"] []) (g_range : mg "range" = none) (g_min : mg "min" = none) (g_len : mg "len" = none) : Cal P w K mg base 1 "_law_unlike" s_l_unlike ["_law_one", "_law_other"] (sp_l_unlike K) :=
  cal_Z (V := V_l_unlike) (Gs := G_l_unlike) (nl := 1) Fn sc_l_unlike (by decide +kernel) (by decide +kernel) hmg hb (fun _ => rfl) rfl fun _ _ _ _ _ _ _ a b F0 os D B T hm R => body_l_unlike rfl B T g_range g_min g_len a.1 a.2 b F0 os D hm R
/-! ### _law_steps_right -/
abbrev s_l_steps_right : Stmt := top 55
def N_l_steps_right : List Str := ["_law_well_here", "_law_letters", "_law_short_here", "_law_plain", "_law_last", "_law_place", "_law_most", "_law_count", "_law_due"]
def V_l_steps_right : List Str := ["_law_well_here", "_law_letters", "_law_short_here", "_law_plain", "_law_last", "_law_place", "_law_most", "_law_count", "_law_due"]
def G_l_steps_right : List Str := ["len", "_law_pick", "min", "repr", "short_steps"]
theorem sc_l_steps_right : FnScope N_l_steps_right ["_law_well_here", "_law_letters", "_law_short_here", "_law_plain"] (defScope s_l_steps_right) := ⟨rfl, rfl, rfl, by decide +kernel, rfl, by decide +kernel, by decide +kernel⟩
theorem kw_short_steps_0_count_place_short_letters : KwOk "short_steps" s_p_short_steps ["letters", "short", "place", "count"] ["count", "place", "short", "letters"] 0 [3, 2, 1, 0] := fun _ _ _ _ _ _ us ws h1 h2 => match us, ws, h1, h2 with | [], [_, _, _, _], _, _ => rfl
abbrev sp_l_steps_right (K : PySem.W.Frag) : Sp := spZ (α := (Addr × (List Int) × Int × (List ((List Int) × Int)) × (List Int))) (β := (Bool × (List Int))) (fun a => [own a.1, (dat (PyData.int a.2.2.1)), (dat (PyData.tuple (List.map (eP (eT PyData.int) PyData.int) a.2.2.2.1))), (dat (PyData.tuple (List.map PyData.int a.2.2.2.2)))]) (fun a => (a.1, ol (List.map PyData.int a.2.1)) :: []) (fun a => m_l_steps_right a.2.1 a.2.2.1 a.2.2.2.1 a.2.2.2.2) (fun a b => (dat (PyData.bool b.1))) (fun a b => (a.1, ol (List.map PyData.int b.2)) :: [])
set_option maxHeartbeats 4000000 in
theorem body_l_steps_right {X : Cx} (hsc : X.env.scope = defScope s_l_steps_right) (B : Bd X N_l_steps_right V_l_steps_right G_l_steps_right 8) (T : Bt X V_l_steps_right) (g_len : X.mg "len" = none) (c_l_pick : Cal X.prog X.w X.K X.mg X.base 1 "_law_pick" s_l_pick ["_law_well_here", "_law_many"] (sp_l_pick X.K)) (g_min : X.mg "min" = none) (g_repr : X.mg "repr" = none) (c_p_short_steps : Cal X.prog X.w X.K X.mg X.base 8 "short_steps" s_p_short_steps ["letters", "short", "place", "count"] (sp_p_short_steps X.K)) (q_well_here : Addr) (w_well_here : (List Int)) (letters : Int) (short_here : (List ((List Int) × Int))) (plain : (List Int)) (b : (Bool × (List Int))) (F0 : Hp) (os : Os) (D : Ends) (hm : m_l_steps_right w_well_here letters short_here plain = some b) (R : RetZ F0 ((q_well_here, ol (List.map PyData.int b.2)) :: os) (dat (PyData.bool b.1)) D) :
    SX X [sl (own q_well_here), sl (dat (PyData.int letters)), sl (dat (PyData.tuple (List.map (eP (eT PyData.int) PyData.int) short_here))), sl (dat (PyData.tuple (List.map PyData.int plain))), un, un, un, un, un] ((q_well_here, ol (List.map PyData.int w_well_here)) :: os) F0 (defBody s_l_steps_right) D := by
  unfold m_l_steps_right at hm
  refine sx_asg (i := 4) (vi := 4) (φ := (dat (PyData.int ((plain.length : Int) - 1)))) B T rfl rfl (ex_sub (EX.to (ex_fn (j := 0) B rfl g_len (by decide +kernel) call_len_seq (rc_lenT (ds := List.map PyData.int plain) rdt_dat) (ax_cons (ex_v (i := 3) (j := 3) B rfl rfl rfl) ax_nil)) (by rw [List.length_map])) ex_int) ?_
  obtain ⟨t1, h1, hm⟩ := bnd hm
  obtain ⟨t2, h2, hm⟩ := bnd hm
  obtain ⟨f5o, h22, hm⟩ := bnd hm
  refine sx_forR (c := anyOs) (fun (s3 : (List Int)) (place4 : Int) => (((m_l_pick s3 (minI 60 ((plain.length : Int) - place4))).bind fun t8 => ((lpR (fun (s9 : Unit) (count10 : Int) => (((reprO (PyData.tuple (List.map PyData.int (cut plain (some place4) (some (place4 + count10)))))).bind fun t14 => ((m_p_short_steps letters short_here place4 count10).bind fun t15 => (reprO (PyData.tuple (List.map PyData.int t15))).bind fun t16 => (if (!decide (t16 = t14)) = true then some (Step.ret (false, t8.2)) else ((m_p_short_steps letters short_here place4 count10).bind fun t17 => (reprO (PyData.tuple (List.map PyData.int t17))).bind fun t18 => (if (!decide (t18 = t14)) = true then some (Step.ret (false, t8.2)) else some (Step.go ())))))) : Option (Step (Bool × (List Int)) Unit))) ([1, (minI 60 ((plain.length : Int) - place4)), (1 + t8.1)]) ()).bind fun f11o => Sum.elim (fun r20 => some (Step.ret r20)) (fun f11 => some (Step.go t8.2)) f11o)) : Option (Step (Bool × (List Int)) (List Int)))) (fun (s3 : (List Int)) (_ : Unit) => [sl (own q_well_here), sl (dat (PyData.int letters)), sl (dat (PyData.tuple (List.map (eP (eT PyData.int) PyData.int) short_here))), sl (dat (PyData.tuple (List.map PyData.int plain))), sl (dat (PyData.int ((plain.length : Int) - 1))), un, un, un, un]) (fun (s3 : (List Int)) (_ : Unit) => (q_well_here, ol (List.map PyData.int s3)) :: os) (fun (r : (Bool × (List Int))) v H => ∃ F, Same F0 F ∧ Ow F ((q_well_here, ol (List.map PyData.int r.2)) :: os) H ∧ Cl (dat (PyData.bool r.1)) F v) B T (fun place4 => gx_name (i := 5) (vi := 5) (φ := (dat (PyData.int place4))) B T rfl rfl) t2.2 () f5o h22 (ix_list (enc := PyData.int) (c := anyOs) (EN.ex (en_lst (ds := [(PyData.int 0), (PyData.int ((plain.length : Int) - 1)), (PyData.int t1.1), (PyData.int t2.1)]) (hl := len_ok (n := 4) rfl) (ax_cons ex_int (ax_cons (ex_v (i := 4) (j := 4) B rfl rfl rfl) (ax_cons (ex_call (a := (q_well_here, w_well_here, (plain.length : Int))) (b := t1) (gi := 1) (rest := os) B rfl c_l_pick (by decide) h1 (ax_cons (ex_v (i := 0) (j := 0) B rfl rfl rfl) (ax_cons (EX.to (ex_fn (j := 0) B rfl g_len (by decide +kernel) call_len_seq (rc_lenT (ds := List.map PyData.int plain) rdt_dat) (ax_cons (ex_v (i := 3) (j := 3) B rfl rfl rfl) ax_nil)) (by rw [List.length_map])) ax_nil))) (ax_cons (ex_call (a := (q_well_here, t1.2, (plain.length : Int))) (b := t2) (gi := 1) (rest := os) B rfl c_l_pick (by decide) h2 (ax_cons (ex_v (i := 0) (j := 0) B rfl rfl rfl) (ax_cons (EX.to (ex_fn (j := 0) B rfl g_len (by decide +kernel) call_len_seq (rc_lenT (ds := List.map PyData.int plain) rdt_dat) (ax_cons (ex_v (i := 3) (j := 3) B rfl rfl rfl) ax_nil)) (by rw [List.length_map])) ax_nil))) ax_nil)))))) (fun _ _ => rdl_dat) trivial) ⟨.inl rfl, .inl rfl, .inl rfl, .inl rfl, .inl rfl, .inl rfl, .inl rfl, .inl rfl, .inl rfl, trivial⟩ (fun _ _ => trivial) (fun F7 e6 s3 _ place4 z24 hx hm2 => ?_) (fun f5 _ ho => ?_) (fun r23 v H ho hr => ?_)
  · clear hm h22
    have hm := hm2
    refine sx_asg (i := 6) (vi := 6) (φ := (dat (PyData.int (minI 60 ((plain.length : Int) - place4))))) B T rfl rfl (ex_fn (j := 2) B rfl g_min (by decide +kernel) (call_min2 B.calm) rc_min (ax_cons ex_int (ax_cons (ex_sub (EX.to (ex_fn (j := 0) B rfl g_len (by decide +kernel) call_len_seq (rc_lenT (ds := List.map PyData.int plain) rdt_dat) (ax_cons (ex_v (i := 3) (j := 3) B rfl rfl rfl) ax_nil)) (by rw [List.length_map])) (ex_v (i := 5) (j := 5) B rfl rfl rfl)) ax_nil))) ?_
    obtain ⟨t8, h8, hm⟩ := bnd hm
    obtain ⟨f11o, h19, hm⟩ := bnd hm
    refine sx_forR (c := anyOs) (fun (s9 : Unit) (count10 : Int) => (((reprO (PyData.tuple (List.map PyData.int (cut plain (some place4) (some (place4 + count10)))))).bind fun t14 => ((m_p_short_steps letters short_here place4 count10).bind fun t15 => (reprO (PyData.tuple (List.map PyData.int t15))).bind fun t16 => (if (!decide (t16 = t14)) = true then some (Step.ret (false, t8.2)) else ((m_p_short_steps letters short_here place4 count10).bind fun t17 => (reprO (PyData.tuple (List.map PyData.int t17))).bind fun t18 => (if (!decide (t18 = t14)) = true then some (Step.ret (false, t8.2)) else some (Step.go ())))))) : Option (Step (Bool × (List Int)) Unit))) (fun (s9 : Unit) (_ : Unit) => [sl (own q_well_here), sl (dat (PyData.int letters)), sl (dat (PyData.tuple (List.map (eP (eT PyData.int) PyData.int) short_here))), sl (dat (PyData.tuple (List.map PyData.int plain))), sl (dat (PyData.int ((plain.length : Int) - 1))), sl (dat (PyData.int place4)), sl (dat (PyData.int (minI 60 ((plain.length : Int) - place4)))), un, un]) (fun (s9 : Unit) (_ : Unit) => (q_well_here, ol (List.map PyData.int t8.2)) :: os) (fun (r : (Bool × (List Int))) v H => ∃ F, Same F0 F ∧ Ow F ((q_well_here, ol (List.map PyData.int r.2)) :: os) H ∧ Cl (dat (PyData.bool r.1)) F v) B T (fun count10 => gx_name (i := 7) (vi := 7) (φ := (dat (PyData.int count10))) B T rfl rfl) () () f11o h19 (ix_list (enc := PyData.int) (c := anyOs) (EN.ex (en_lst (ds := [(PyData.int 1), (PyData.int (minI 60 ((plain.length : Int) - place4))), (PyData.int (1 + t8.1))]) (hl := len_ok (n := 3) rfl) (ax_cons ex_int (ax_cons (ex_v (i := 6) (j := 6) B rfl rfl rfl) (ax_cons (ex_add ex_int (ex_call (a := (q_well_here, s3, (minI 60 ((plain.length : Int) - place4)))) (b := t8) (gi := 1) (rest := os) B rfl c_l_pick (by decide) h8 (ax_cons (ex_v (i := 0) (j := 0) B rfl rfl rfl) (ax_cons (ex_v (i := 6) (j := 6) B rfl rfl rfl) ax_nil)))) ax_nil))))) (fun _ _ => rdl_dat) trivial) ⟨.inl rfl, .inl rfl, .inl rfl, .inl rfl, .inl rfl, .inl rfl, .inl rfl, .inl rfl, .inl rfl, trivial⟩ (fun _ _ => trivial) (fun F13 e12 s9 _ count10 z21 hx hm2 => ?_) (fun f11 _ ho => ?_) (fun r20 v H ho hr => ?_)
    · clear hm h19
      have hm := hm2
      obtain ⟨t14, h14, hm⟩ := bnd hm
      refine sx_asg (i := 8) (vi := 8) (φ := (dat (PyData.str t14))) B T rfl rfl (ex_fn (j := 3) B rfl g_repr (by decide +kernel) (call_repr B.gd B.room) (rc_repr h14) (ax_cons (ex_cutT (enc := PyData.int) rdt_dat (ex_v (i := 3) (j := 3) B rfl rfl rfl) (px_some (ex_v (i := 5) (j := 5) B rfl rfl rfl)) (px_some (ex_add (ex_v (i := 5) (j := 5) B rfl rfl rfl) (ex_v (i := 7) (j := 7) B rfl rfl rfl)))) ax_nil)) ?_
      obtain ⟨t15, h15, hm⟩ := bnd hm
      obtain ⟨t16, h16, hm⟩ := bnd hm
      refine sx_if (tx_cmp op_ne r2_neS (nomark _) (ex_fn (j := 3) B rfl g_repr (by decide +kernel) (call_repr B.gd B.room) (rc_repr h16) (ax_cons (ex_call (a := (letters, short_here, place4, count10)) (b := t15) (gi := 4) (rest := (q_well_here, ol (List.map PyData.int t8.2)) :: os) B rfl c_p_short_steps (by decide) h15 (ax_cons (ex_v (i := 1) (j := 1) B rfl rfl rfl) (ax_cons (ex_v (i := 2) (j := 2) B rfl rfl rfl) (ax_cons (ex_v (i := 5) (j := 5) B rfl rfl rfl) (ax_cons (ex_v (i := 7) (j := 7) B rfl rfl rfl) ax_nil))))) ax_nil)) (ex_v (i := 8) (j := 8) B rfl rfl rfl)) (fun hk => ?_) (fun hk => ?_)
      · have hm := ifT hm hk
        exact sx_ret ex_bool (fun F H v e o c => ⟨_, (som hm).symm, F, ((e6.trans e12).trans e), o, c⟩)
      · have hm := ifF hm hk
        refine sx_fall ?_ rfl
        obtain ⟨t17, h17, hm⟩ := bnd hm
        obtain ⟨t18, h18, hm⟩ := bnd hm
        refine sx_if (tx_cmp op_ne r2_neS (nomark _) (ex_fn (j := 3) B rfl g_repr (by decide +kernel) (call_repr B.gd B.room) (rc_repr h18) (ax_cons (ex_callk0 (a := (letters, short_here, place4, count10)) (b := t17) (gi := 4) (rest := (q_well_here, ol (List.map PyData.int t8.2)) :: os) B rfl c_p_short_steps (by decide) kw_short_steps_0_count_place_short_letters (by decide) h17 (kx_cons (ex_v (i := 7) (j := 7) B rfl rfl rfl) (kx_cons (ex_v (i := 5) (j := 5) B rfl rfl rfl) (kx_cons (ex_v (i := 2) (j := 2) B rfl rfl rfl) (kx_cons (ex_v (i := 1) (j := 1) B rfl rfl rfl) kx_nil)))) rfl) ax_nil)) (ex_v (i := 8) (j := 8) B rfl rfl rfl)) (fun hk => ?_) (fun hk => ?_)
        · have hm := ifT hm hk
          exact sx_ret ex_bool (fun F H v e o c => ⟨_, (som hm).symm, F, ((e6.trans e12).trans e), o, c⟩)
        · have hm := ifF hm hk
          refine sx_fall ?_ rfl
          exact sx_nil fun σ H a => ⟨_, (), (som hm).symm, (a.weak ⟨.inl rfl, .inl rfl, .inl rfl, .inl rfl, .inl rfl, .inl rfl, .inl rfl, .inr rfl, .inr rfl, trivial⟩)⟩
    · cases ho
      have hm := elimR hm
      exact sx_nil fun σ H a => ⟨_, (), (som hm).symm, (a.weak ⟨.inl rfl, .inl rfl, .inl rfl, .inl rfl, .inl rfl, .inr rfl, .inr rfl, .inl rfl, .inl rfl, trivial⟩)⟩
    · cases ho
      have hm := elimL hm
      exact ⟨_, (som hm).symm, hr⟩
  · cases ho
    have hm := elimR hm
    obtain rfl := som hm
    exact sx_ret ex_bool (fun F H v e o c => R.rt F H v e o c)
  · cases ho
    have hm := elimL hm
    obtain rfl := som hm
    obtain ⟨F, e, o, c⟩ := hr
    exact R.rt F H v e o c
theorem cal_l_steps_right {P : Program} {w : World} {K : PySem.W.Frag} {mg : Str → Option Value} {base : Heap} {f : Addr} {fd : FuncData} (Fn : Fun K "_law_steps_right" "_law_steps_right" s_l_steps_right f fd) (hmg : mg "_law_steps_right" = some (.ref f)) (hb : Binds K fd ["_law_well_here", "_law_letters", "_law_short_here", "_law_plain"] []) (g_len : mg "len" = none) (c_l_pick : Cal P w K mg base 1 "_law_pick" s_l_pick ["_law_well_here", "_law_many"] (sp_l_pick K)) (g_min : mg "min" = none) (g_repr : mg "repr" = none) (c_p_short_steps : Cal P w K mg base 8 "short_steps" s_p_short_steps ["letters", "short", "place", "count"] (sp_p_short_steps K)) : Cal P w K mg base 9 "_law_steps_right" s_l_steps_right ["_law_well_here", "_law_letters", "_law_short_here", "_law_plain"] (sp_l_steps_right K) :=
  cal_Z (V := V_l_steps_right) (Gs := G_l_steps_right) (nl := 5) Fn sc_l_steps_right (by decide +kernel) (by decide +kernel) hmg hb (fun _ => rfl) rfl fun _ _ _ _ _ _ _ a b F0 os D B T hm R => body_l_steps_right rfl B T g_len c_l_pick g_min g_repr c_p_short_steps a.1 a.2.1 a.2.2.1 a.2.2.2.1 a.2.2.2.2 b F0 os D hm R
/-! ### _law_pair_right -/
abbrev s_l_pair_right : Stmt := top 56
def N_l_pair_right : List Str := ["_law_letters", "_law_one", "_law_other", "_law_due"]
def V_l_pair_right : List Str := ["_law_letters", "_law_one", "_law_other", "_law_due"]
def G_l_pair_right : List Str := ["repr", "first_unlike", "same_walk"]
theorem sc_l_pair_right : FnScope N_l_pair_right ["_law_letters", "_law_one", "_law_other", "_law_due"] (defScope s_l_pair_right) := ⟨rfl, rfl, rfl, by decide +kernel, rfl, by decide +kernel, by decide +kernel⟩
theorem kw_first_unlike_0_other_one_letters : KwOk "first_unlike" s_p_first_unlike ["letters", "one", "other"] ["other", "one", "letters"] 0 [2, 1, 0] := fun _ _ _ _ _ _ us ws h1 h2 => match us, ws, h1, h2 with | [], [_, _, _], _, _ => rfl
theorem kw_same_walk_0_other_one_letters : KwOk "same_walk" s_p_same_walk ["letters", "one", "other"] ["other", "one", "letters"] 0 [2, 1, 0] := fun _ _ _ _ _ _ us ws h1 h2 => match us, ws, h1, h2 with | [], [_, _, _], _, _ => rfl
abbrev sp_l_pair_right (K : PySem.W.Frag) : Sp := spZ (α := (Int × (List ((List Int) × Int)) × (List ((List Int) × Int)) × (Option Int))) (β := Bool) (fun a => [(dat (PyData.int a.1)), (dat (PyData.tuple (List.map (eP (eT PyData.int) PyData.int) a.2.1))), (dat (PyData.tuple (List.map (eP (eT PyData.int) PyData.int) a.2.2.1))), (dat ((eO PyData.int) a.2.2.2))]) (fun a => []) (fun a => m_l_pair_right a.1 a.2.1 a.2.2.1 a.2.2.2) (fun a b => (dat (PyData.bool b))) (fun a b => [])
set_option maxHeartbeats 4000000 in
theorem body_l_pair_right {X : Cx} (hsc : X.env.scope = defScope s_l_pair_right) (B : Bd X N_l_pair_right V_l_pair_right G_l_pair_right 9) (T : Bt X V_l_pair_right) (g_repr : X.mg "repr" = none) (c_p_first_unlike : Cal X.prog X.w X.K X.mg X.base 8 "first_unlike" s_p_first_unlike ["letters", "one", "other"] (sp_p_first_unlike X.K)) (c_p_same_walk : Cal X.prog X.w X.K X.mg X.base 9 "same_walk" s_p_same_walk ["letters", "one", "other"] (sp_p_same_walk X.K)) (letters : Int) (one : (List ((List Int) × Int))) (other : (List ((List Int) × Int))) (due : (Option Int)) (b : Bool) (F0 : Hp) (os : Os) (D : Ends) (hm : m_l_pair_right letters one other due = some b) (R : RetZ F0 (os) (dat (PyData.bool b)) D) :
    SX X [sl (dat (PyData.int letters)), sl (dat (PyData.tuple (List.map (eP (eT PyData.int) PyData.int) one))), sl (dat (PyData.tuple (List.map (eP (eT PyData.int) PyData.int) other))), sl (dat ((eO PyData.int) due))] (os) F0 (defBody s_l_pair_right) D := by
  unfold m_l_pair_right at hm
  obtain ⟨t1, h1, hm⟩ := bnd hm
  obtain ⟨t2, h2, hm⟩ := bnd hm
  obtain ⟨t3, h3, hm⟩ := bnd hm
  refine sx_if (tx_cmp op_ne r2_neS (nomark _) (ex_fn (j := 0) B rfl g_repr (by decide +kernel) (call_repr B.gd B.room) (rc_repr h2) (ax_cons (ex_call (a := (letters, one, other)) (b := t1) (gi := 1) (rest := os) B rfl c_p_first_unlike (by decide) h1 (ax_cons (ex_v (i := 0) (j := 0) B rfl rfl rfl) (ax_cons (ex_v (i := 1) (j := 1) B rfl rfl rfl) (ax_cons (ex_v (i := 2) (j := 2) B rfl rfl rfl) ax_nil)))) ax_nil)) (ex_fn (j := 0) B rfl g_repr (by decide +kernel) (call_repr B.gd B.room) (rc_repr h3) (ax_cons (ex_v (i := 3) (j := 3) B rfl rfl rfl) ax_nil))) (fun hk => ?_) (fun hk => ?_)
  · have hm := ifT hm hk
    obtain rfl := som hm
    exact sx_ret ex_bool (fun F H v e o c => R.rt F H v e o c)
  · have hm := ifF hm hk
    refine sx_fall ?_ rfl
    cases hq22 : due with
    | none =>
      rw [hq22] at hm
      obtain ⟨t4, h4, hm⟩ := bnd hm
      obtain ⟨t5, h5, hm⟩ := bnd hm
      obtain ⟨t6, h6, hm⟩ := bnd hm
      refine sx_if (tx_cmp op_ne r2_neS (nomark _) (ex_fn (j := 0) B rfl g_repr (by decide +kernel) (call_repr B.gd B.room) (rc_repr h5) (ax_cons (ex_call (a := (letters, one, other)) (b := t4) (gi := 2) (rest := os) B rfl c_p_same_walk (by decide) h4 (ax_cons (ex_v (i := 0) (j := 0) B rfl rfl rfl) (ax_cons (ex_v (i := 1) (j := 1) B rfl rfl rfl) (ax_cons (ex_v (i := 2) (j := 2) B rfl rfl rfl) ax_nil)))) ax_nil)) (ex_fn (j := 0) B rfl g_repr (by decide +kernel) (call_repr B.gd B.room) (rc_repr h6) (ax_cons (ex_cmp op_isN (r2_isN (d := PyData.none) (t := true) rfl) (nomark _) (ex_v (i := 3) (j := 3) B rfl rfl rfl) ex_none) ax_nil))) (fun hk => ?_) (fun hk => ?_)
      · have hm := ifT hm hk
        obtain rfl := som hm
        exact sx_ret ex_bool (fun F H v e o c => R.rt F H v e o c)
      · have hm := ifF hm hk
        refine sx_fall ?_ rfl
        obtain ⟨t7, h7, hm⟩ := bnd hm
        obtain ⟨t8, h8, hm⟩ := bnd hm
        obtain ⟨t9, h9, hm⟩ := bnd hm
        refine sx_if (tx_cmp op_ne r2_neS (nomark _) (ex_fn (j := 0) B rfl g_repr (by decide +kernel) (call_repr B.gd B.room) (rc_repr h8) (ax_cons (ex_callk0 (a := (letters, other, one)) (b := t7) (gi := 1) (rest := os) B rfl c_p_first_unlike (by decide) kw_first_unlike_0_other_one_letters (by decide) h7 (kx_cons (ex_v (i := 1) (j := 1) B rfl rfl rfl) (kx_cons (ex_v (i := 2) (j := 2) B rfl rfl rfl) (kx_cons (ex_v (i := 0) (j := 0) B rfl rfl rfl) kx_nil))) rfl) ax_nil)) (ex_fn (j := 0) B rfl g_repr (by decide +kernel) (call_repr B.gd B.room) (rc_repr h9) (ax_cons (ex_v (i := 3) (j := 3) B rfl rfl rfl) ax_nil))) (fun hk => ?_) (fun hk => ?_)
        · have hm := ifT hm hk
          obtain rfl := som hm
          exact sx_ret ex_bool (fun F H v e o c => R.rt F H v e o c)
        · have hm := ifF hm hk
          refine sx_fall ?_ rfl
          obtain ⟨t10, h10, hm⟩ := bnd hm
          obtain ⟨t11, h11, hm⟩ := bnd hm
          obtain ⟨t12, h12, hm⟩ := bnd hm
          obtain rfl := som hm
          exact sx_ret (ex_cmp op_eq r2_eqS (nomark _) (ex_fn (j := 0) B rfl g_repr (by decide +kernel) (call_repr B.gd B.room) (rc_repr h11) (ax_cons (ex_callk0 (a := (letters, other, one)) (b := t10) (gi := 2) (rest := os) B rfl c_p_same_walk (by decide) kw_same_walk_0_other_one_letters (by decide) h10 (kx_cons (ex_v (i := 1) (j := 1) B rfl rfl rfl) (kx_cons (ex_v (i := 2) (j := 2) B rfl rfl rfl) (kx_cons (ex_v (i := 0) (j := 0) B rfl rfl rfl) kx_nil))) rfl) ax_nil)) (ex_fn (j := 0) B rfl g_repr (by decide +kernel) (call_repr B.gd B.room) (rc_repr h12) (ax_cons (ex_cmp op_isN (r2_isN (d := PyData.none) (t := true) rfl) (nomark _) (ex_v (i := 3) (j := 3) B rfl rfl rfl) ex_none) ax_nil))) (fun F H v e o c => R.rt F H v e o c)
    | some due13 =>
      rw [hq22] at hm
      obtain ⟨t14, h14, hm⟩ := bnd hm
      obtain ⟨t15, h15, hm⟩ := bnd hm
      obtain ⟨t16, h16, hm⟩ := bnd hm
      refine sx_if (tx_cmp op_ne r2_neS (nomark _) (ex_fn (j := 0) B rfl g_repr (by decide +kernel) (call_repr B.gd B.room) (rc_repr h15) (ax_cons (ex_call (a := (letters, one, other)) (b := t14) (gi := 2) (rest := os) B rfl c_p_same_walk (by decide) h14 (ax_cons (ex_v (i := 0) (j := 0) B rfl rfl rfl) (ax_cons (ex_v (i := 1) (j := 1) B rfl rfl rfl) (ax_cons (ex_v (i := 2) (j := 2) B rfl rfl rfl) ax_nil)))) ax_nil)) (ex_fn (j := 0) B rfl g_repr (by decide +kernel) (call_repr B.gd B.room) (rc_repr h16) (ax_cons (ex_cmp op_isN (r2_isN (d := (PyData.int due13)) (t := false) rfl) (nomark _) (ex_v (i := 3) (j := 3) B rfl rfl rfl) ex_none) ax_nil))) (fun hk => ?_) (fun hk => ?_)
      · have hm := ifT hm hk
        obtain rfl := som hm
        exact sx_ret ex_bool (fun F H v e o c => R.rt F H v e o c)
      · have hm := ifF hm hk
        refine sx_fall ?_ rfl
        obtain ⟨t17, h17, hm⟩ := bnd hm
        obtain ⟨t18, h18, hm⟩ := bnd hm
        obtain ⟨t19, h19, hm⟩ := bnd hm
        refine sx_if (tx_cmp op_ne r2_neS (nomark _) (ex_fn (j := 0) B rfl g_repr (by decide +kernel) (call_repr B.gd B.room) (rc_repr h18) (ax_cons (ex_callk0 (a := (letters, other, one)) (b := t17) (gi := 1) (rest := os) B rfl c_p_first_unlike (by decide) kw_first_unlike_0_other_one_letters (by decide) h17 (kx_cons (ex_v (i := 1) (j := 1) B rfl rfl rfl) (kx_cons (ex_v (i := 2) (j := 2) B rfl rfl rfl) (kx_cons (ex_v (i := 0) (j := 0) B rfl rfl rfl) kx_nil))) rfl) ax_nil)) (ex_fn (j := 0) B rfl g_repr (by decide +kernel) (call_repr B.gd B.room) (rc_repr h19) (ax_cons (ex_v (i := 3) (j := 3) B rfl rfl rfl) ax_nil))) (fun hk => ?_) (fun hk => ?_)
        · have hm := ifT hm hk
          obtain rfl := som hm
          exact sx_ret ex_bool (fun F H v e o c => R.rt F H v e o c)
        · have hm := ifF hm hk
          refine sx_fall ?_ rfl
          obtain ⟨t20, h20, hm⟩ := bnd hm
          obtain ⟨t21, h21, hm⟩ := bnd hm
          obtain ⟨t22, h22, hm⟩ := bnd hm
          obtain rfl := som hm
          exact sx_ret (ex_cmp op_eq r2_eqS (nomark _) (ex_fn (j := 0) B rfl g_repr (by decide +kernel) (call_repr B.gd B.room) (rc_repr h21) (ax_cons (ex_callk0 (a := (letters, other, one)) (b := t20) (gi := 2) (rest := os) B rfl c_p_same_walk (by decide) kw_same_walk_0_other_one_letters (by decide) h20 (kx_cons (ex_v (i := 1) (j := 1) B rfl rfl rfl) (kx_cons (ex_v (i := 2) (j := 2) B rfl rfl rfl) (kx_cons (ex_v (i := 0) (j := 0) B rfl rfl rfl) kx_nil))) rfl) ax_nil)) (ex_fn (j := 0) B rfl g_repr (by decide +kernel) (call_repr B.gd B.room) (rc_repr h22) (ax_cons (ex_cmp op_isN (r2_isN (d := (PyData.int due13)) (t := false) rfl) (nomark _) (ex_v (i := 3) (j := 3) B rfl rfl rfl) ex_none) ax_nil))) (fun F H v e o c => R.rt F H v e o c)
theorem cal_l_pair_right {P : Program} {w : World} {K : PySem.W.Frag} {mg : Str → Option Value} {base : Heap} {f : Addr} {fd : FuncData} (Fn : Fun K "_law_pair_right" "_law_pair_right" s_l_pair_right f fd) (hmg : mg "_law_pair_right" = some (.ref f)) (hb : Binds K fd ["_law_letters", "_law_one", "_law_other", "_law_due"] []) (g_repr : mg "repr" = none) (c_p_first_unlike : Cal P w K mg base 8 "first_unlike" s_p_first_unlike ["letters", "one", "other"] (sp_p_first_unlike K)) (c_p_same_walk : Cal P w K mg base 9 "same_walk" s_p_same_walk ["letters", "one", "other"] (sp_p_same_walk K)) : Cal P w K mg base 10 "_law_pair_right" s_l_pair_right ["_law_letters", "_law_one", "_law_other", "_law_due"] (sp_l_pair_right K) :=
  cal_Z (V := V_l_pair_right) (Gs := G_l_pair_right) (nl := 0) Fn sc_l_pair_right (by decide +kernel) (by decide +kernel) hmg hb (fun _ => rfl) rfl fun _ _ _ _ _ _ _ a b F0 os D B T hm R => body_l_pair_right rfl B T g_repr c_p_first_unlike c_p_same_walk a.1 a.2.1 a.2.2.1 a.2.2.2 b F0 os D hm R
/-! ### law -/
abbrev s_l_law : Stmt := top 57
def N_l_law : List Str := ["_law_script", "_law_k", "_law_well_here", "_law_letters", "_law_shorts", "_law_turn", "_law_plains", "_law_at", "_law_short_here", "_law_plain", "_law_ahead"]
def V_l_law : List Str := ["_law_script", "_law_k", "_law_well_here", "_law_letters", "_law_shorts", "_law_turn", "_law_plains", "_law_at", "_law_short_here", "_law_plain", "_law_ahead"]
def G_l_law : List Str := ["range", "max", "min", "len", "_law_well", "_law_pick", "_law_long", "_law_short", "_law_beside", "enumerate", "is_short", "repr", "short_length", "_law_steps_right", "_law_pair_right", "_law_unlike", "zip"]
theorem sc_l_law : FnScope N_l_law ["_law_script"] (defScope s_l_law) := ⟨rfl, rfl, rfl, by decide +kernel, rfl, by decide +kernel, by decide +kernel⟩
theorem kw_is_short_0_value_letters : KwOk "is_short" s_p_is_short ["letters", "value"] ["value", "letters"] 0 [1, 0] := fun _ _ _ _ _ _ us ws h1 h2 => match us, ws, h1, h2 with | [], [_, _], _, _ => rfl
theorem kw_short_length_0_short_letters : KwOk "short_length" s_p_short_length ["letters", "short"] ["short", "letters"] 0 [1, 0] := fun _ _ _ _ _ _ us ws h1 h2 => match us, ws, h1, h2 with | [], [_, _], _, _ => rfl
abbrev sp_l_law (K : PySem.W.Frag) : Sp := spZ (α := (List Int)) (β := Bool) (fun a => [(scr K a)]) (fun a => []) (fun a => m_l_law a) (fun a b => (dat (PyData.bool b))) (fun a b => [])
set_option maxHeartbeats 4000000 in
theorem body_l_law {X : Cx} (hsc : X.env.scope = defScope s_l_law) (B : Bd X N_l_law V_l_law G_l_law 10) (T : Bt X V_l_law) (g_range : X.mg "range" = none) (g_max : X.mg "max" = none) (g_min : X.mg "min" = none) (g_len : X.mg "len" = none) (c_l_well : Cal X.prog X.w X.K X.mg X.base 1 "_law_well" s_l_well ["_law_script", "_law_k"] (sp_l_well X.K)) (c_l_pick : Cal X.prog X.w X.K X.mg X.base 1 "_law_pick" s_l_pick ["_law_well_here", "_law_many"] (sp_l_pick X.K)) (c_l_long : Cal X.prog X.w X.K X.mg X.base 3 "_law_long" s_l_long ["_law_well_here", "_law_letters"] (sp_l_long X.K)) (c_l_short : Cal X.prog X.w X.K X.mg X.base 4 "_law_short" s_l_short ["_law_well_here", "_law_letters", "_law_most"] (sp_l_short X.K)) (c_l_beside : Cal X.prog X.w X.K X.mg X.base 5 "_law_beside" s_l_beside ["_law_well_here", "_law_letters", "_law_short_here"] (sp_l_beside X.K)) (c_l_out : Cal X.prog X.w X.K X.mg X.base 2 "_law_out" s_l_out ["_law_short_here"] (sp_l_out X.K)) (g_enumerate : X.mg "enumerate" = none) (c_p_is_short : Cal X.prog X.w X.K X.mg X.base 6 "is_short" s_p_is_short ["letters", "value"] (sp_p_is_short X.K)) (g_repr : X.mg "repr" = none) (c_p_short_length : Cal X.prog X.w X.K X.mg X.base 8 "short_length" s_p_short_length ["letters", "short"] (sp_p_short_length X.K)) (c_l_steps_right : Cal X.prog X.w X.K X.mg X.base 9 "_law_steps_right" s_l_steps_right ["_law_well_here", "_law_letters", "_law_short_here", "_law_plain"] (sp_l_steps_right X.K)) (c_l_pair_right : Cal X.prog X.w X.K X.mg X.base 10 "_law_pair_right" s_l_pair_right ["_law_letters", "_law_one", "_law_other", "_law_due"] (sp_l_pair_right X.K)) (c_l_unlike : Cal X.prog X.w X.K X.mg X.base 1 "_law_unlike" s_l_unlike ["_law_one", "_law_other"] (sp_l_unlike X.K)) (g_zip : X.mg "zip" = none) (script : (List Int)) (b : Bool) (F0 : Hp) (os : Os) (D : Ends) (hm : m_l_law script = some b) (R : RetZ F0 (os) (dat (PyData.bool b)) D) :
    SX X [sl (scr X.K script), un, un, un, un, un, un, un, un, un, un] (os) F0 (defBody s_l_law) D := by
  unfold m_l_law at hm
  obtain ⟨t1, h1, hm⟩ := bnd hm
  obtain ⟨f4o, h63, hm⟩ := bnd hm
  refine sx_forR (c := anyOs) (fun (s2 : Unit) (k_3 : Int) => (((m_l_well script k_3).bind fun t7 => ((m_l_pick t7 4).bind fun t8 => ((rngO 0 2).bind fun t10 => ((lp (fun (s11 : ((List (List ((List Int) × Int))) × (List Int))) (turn12 : Int) => ((m_l_pick s11.2 4).bind fun t16 => (if (decide (t16.1 = 0)) = true then ((m_l_long t16.2 (1 + t8.1)).bind fun t17 => some (t17.1, t17.2)) else ((m_l_short t16.2 (1 + t8.1) 6).bind fun t18 => some (t18.1, t18.2))).bind fun t19 => (appO s11.1 t19.1).bind fun t20 => ((idx t20 (-1)).bind fun t21 => (m_l_beside t19.2 (1 + t8.1) t21).bind fun t22 => (appO t20 t22.1).bind fun t23 => some (t23, t22.2)))) t10 (([] : (List (List ((List Int) × Int)))), t8.2)).bind fun f13 => ((lcO (β := (List Int)) (fun (short_here25 : (List ((List Int) × Int))) => ((m_l_out short_here25).bind fun t27 => some t27)) f13.1).bind fun t28 => ((lpR (fun (s29 : (List Int)) (x30 : (Int × (List ((List Int) × Int)))) => (((idx t28 x30.1).bind fun t34 => ((m_p_is_short (1 + t8.1) x30.2).bind fun t35 => (if (!decide (t35 = true)) = true then some true else ((m_p_is_short (1 + t8.1) x30.2).bind fun t36 => some (!decide (t36 = true)))).bind fun t37 => (if t37 = true then some (Step.ret false) else ((m_p_short_length (1 + t8.1) x30.2).bind fun t38 => (reprO (PyData.int t38)).bind fun t39 => (reprO (PyData.int (t34.length : Int))).bind fun t40 => (if (!decide (t39 = t40)) = true then some (Step.ret false) else ((if (decide (0 < (t34.length : Int))) = true then ((m_l_steps_right s29 (1 + t8.1) x30.2 t34).bind fun t41 => some ((!t41.1), t41.2)) else some (false, s29)).bind fun t42 => (if t42.1 = true then some (Step.ret false) else ((m_l_pair_right (1 + t8.1) x30.2 x30.2 none).bind fun t43 => (if (!t43) = true then some (Step.ret false) else ((idx f13.1 (maxI 0 (x30.1 - 1))).bind fun t44 => (idx t28 (maxI 0 (x30.1 - 1))).bind fun t45 => (m_l_unlike t45 t34).bind fun t46 => (m_l_pair_right (1 + t8.1) t44 x30.2 t46).bind fun t47 => (if (!t47) = true then some (Step.ret false) else some (Step.go t42.2)))))))))))) : Option (Step Bool (List Int)))) (enum f13.1) f13.2).bind fun f31o => Sum.elim (fun r60 => some (Step.ret r60)) (fun f31 => ((lpR (fun (s49 : Unit) (x50 : ((List ((List Int) × Int)) × (List Int))) => (((m_p_short_length (1 + t8.1) x50.1).bind fun t54 => (reprO (PyData.int t54)).bind fun t55 => (reprO (PyData.int (x50.2.length : Int))).bind fun t56 => (if (!decide (t55 = t56)) = true then some (Step.ret false) else some (Step.go ()))) : Option (Step Bool Unit))) (List.zip f13.1 t28) ()).bind fun f51o => Sum.elim (fun r58 => some (Step.ret r58)) (fun f51 => some (Step.go ())) f51o)) f31o)))))) : Option (Step Bool Unit))) (fun (s2 : Unit) (_ : Unit) => [sl (scr X.K script), un, un, un, un, un, un, un, un, un, un]) (fun (s2 : Unit) (_ : Unit) => os) (fun (r : Bool) v H => ∃ F, Same F0 F ∧ Ow F (os) H ∧ Cl (dat (PyData.bool r)) F v) B T (fun k_3 => gx_name (i := 1) (vi := 1) (φ := (dat (PyData.int k_3))) B T rfl rfl) () () f4o h63 (ix_rng1 (gi := 0) B rfl g_range h1 (ex_fn (j := 1) B rfl g_max (by decide +kernel) (call_max2 B.calm) rc_max (ax_cons ex_int (ax_cons (ex_fn (j := 2) B rfl g_min (by decide +kernel) (call_min2 B.calm) rc_min (ax_cons ex_int (ax_cons (EX.to (ex_fn (j := 3) B rfl g_len (by decide +kernel) call_len_seq (rc_lenL (ds := List.map PyData.int script) rdl_scr) (ax_cons (ex_v (i := 0) (j := 0) B rfl rfl rfl) ax_nil)) (by rw [List.length_map])) ax_nil))) ax_nil)))) ⟨.inl rfl, .inl rfl, .inl rfl, .inl rfl, .inl rfl, .inl rfl, .inl rfl, .inl rfl, .inl rfl, .inl rfl, .inl rfl, trivial⟩ (fun _ _ => trivial) (fun F6 e5 s2 _ k_3 z65 hx hm2 => ?_) (fun f4 _ ho => ?_) (fun r64 v H ho hr => ?_)
  · clear hm h63
    have hm := hm2
    obtain ⟨t7, h7, hm⟩ := bnd hm
    refine sx_asgN (i := 2) (vi := 2) (n := ol (List.map PyData.int t7)) B T rfl rfl (en_call (a := (script, k_3)) (b := t7) (gi := 4) (rest := os) B rfl c_l_well (by decide) h7 (ax_cons (ex_v (i := 0) (j := 0) B rfl rfl rfl) (ax_cons (ex_v (i := 1) (j := 1) B rfl rfl rfl) ax_nil))) (fun q_well_here7 => ?_)
    obtain ⟨t8, h8, hm⟩ := bnd hm
    refine sx_par2 (i := 3) (j := 4) _ hsc B rfl rfl (by decide) (by decide +kernel) (by decide +kernel) (by intro env he; cases env; cases he; first | rfl | kernel_rfl) (aq_x (φ := (dat (PyData.int (1 + t8.1)))) (ex_add ex_int (ex_call (a := (q_well_here7, t7, 4)) (b := t8) (gi := 5) (rest := os) B rfl c_l_pick (by decide) h8 (ax_cons (ex_v (i := 2) (j := 2) B rfl rfl rfl) (ax_cons ex_int ax_nil)))) (aq_n (n := ol (List.map (eT (eP (eT PyData.int) PyData.int)) ([] : (List (List ((List Int) × Int)))))) (en_lst (ds := []) ax_nil) (fun q_shorts9 => aq_nil))) (fun v0 v1 os_ hr_ => ?_) (by rintro φs os_ ⟨_, rfl, q_shorts9, _, rfl, rfl, rfl⟩; exact ⟨_, _, rfl⟩)
    obtain ⟨_, e0, q_shorts9, _, e1, e8, e9⟩ := hr_
    cases e0; cases e1; cases e8; cases e9
    obtain ⟨t10, h10, hm⟩ := bnd hm
    obtain ⟨f13, h24, hm⟩ := bnd hm
    refine sx_for (c := anyOs) (fun (s11 : ((List (List ((List Int) × Int))) × (List Int))) (turn12 : Int) => ((m_l_pick s11.2 4).bind fun t16 => (if (decide (t16.1 = 0)) = true then ((m_l_long t16.2 (1 + t8.1)).bind fun t17 => some (t17.1, t17.2)) else ((m_l_short t16.2 (1 + t8.1) 6).bind fun t18 => some (t18.1, t18.2))).bind fun t19 => (appO s11.1 t19.1).bind fun t20 => ((idx t20 (-1)).bind fun t21 => (m_l_beside t19.2 (1 + t8.1) t21).bind fun t22 => (appO t20 t22.1).bind fun t23 => some (t23, t22.2)))) (fun (s11 : ((List (List ((List Int) × Int))) × (List Int))) (_ : Unit) => [sl (scr X.K script), sl (dat (PyData.int k_3)), sl (own q_well_here7), sl (dat (PyData.int (1 + t8.1))), sl (own q_shorts9), un, un, un, un, un, un]) (fun (s11 : ((List (List ((List Int) × Int))) × (List Int))) (_ : Unit) => (q_shorts9, ol (List.map (eT (eP (eT PyData.int) PyData.int)) s11.1)) :: (q_well_here7, ol (List.map PyData.int s11.2)) :: os) B T (fun turn12 => gx_name (i := 5) (vi := 5) (φ := (dat (PyData.int turn12))) B T rfl rfl) (([] : (List (List ((List Int) × Int)))), t8.2) () f13 h24 (ix_rng1 (gi := 0) B rfl g_range h10 ex_int) ⟨.inl rfl, .inl rfl, .inl rfl, .inl rfl, .inl rfl, .inl rfl, .inl rfl, .inl rfl, .inl rfl, .inl rfl, .inl rfl, trivial⟩ (fun _ _ => trivial) (fun F15 e14 s11 _ turn12 z62 hx hm => ?_) (fun _ => ?_)
    · clear h24
      obtain ⟨t16, h16, hm⟩ := bnd hm
      obtain ⟨t19, h19, hm⟩ := bnd hm
      obtain ⟨t20, h20, hm⟩ := bnd hm
      refine sx_expr (ex_appW (enc := (eT (eP (eT PyData.int) PyData.int))) (xs0 := s11.1) (xs := s11.1) (y := t19.1) h20 (ex_v (i := 4) (j := 4) B rfl rfl rfl) (wr_flat (f := (olT (eT (eP (eT PyData.int) PyData.int)))) (d := s11.1) 0 rfl) (ex_if (os2 := (q_well_here7, ol (List.map PyData.int t19.2)) :: (q_shorts9, ol (List.map (eT (eP (eT PyData.int) PyData.int)) s11.1)) :: os) (tx_cmp op_eq r2_eqI (nomark _) (EX.pre (ex_call (a := (q_well_here7, s11.2, 4)) (b := t16) (gi := 5) (rest := (q_shorts9, ol (List.map (eT (eP (eT PyData.int) PyData.int)) s11.1)) :: os) B rfl c_l_pick (by decide) h16 (ax_cons (ex_v (i := 2) (j := 2) B rfl rfl rfl) (ax_cons ex_int ax_nil))) (perm_at (k := 1) rfl)) ex_int) (fun hk => by (have hm := ifT h19 hk; obtain ⟨t17, h17, hm⟩ := bnd hm; obtain rfl := som hm; exact (EX.to (ex_call (a := (q_well_here7, t16.2, (1 + t8.1))) (b := t17) (gi := 6) (rest := (q_shorts9, ol (List.map (eT (eP (eT PyData.int) PyData.int)) s11.1)) :: os) B rfl c_l_long (by decide) h17 (ax_cons (ex_v (i := 2) (j := 2) B rfl rfl rfl) (ax_cons (ex_v (i := 3) (j := 3) B rfl rfl rfl) ax_nil))) (by rfl)))) (fun hk => by (have hm := ifF h19 hk; obtain ⟨t18, h18, hm⟩ := bnd hm; obtain rfl := som hm; exact (EX.to (ex_call (a := (q_well_here7, t16.2, (1 + t8.1), 6)) (b := t18) (gi := 7) (rest := (q_shorts9, ol (List.map (eT (eP (eT PyData.int) PyData.int)) s11.1)) :: os) B rfl c_l_short (by decide) h18 (ax_cons (ex_v (i := 2) (j := 2) B rfl rfl rfl) (ax_cons (ex_v (i := 3) (j := 3) B rfl rfl rfl) (ax_cons ex_int ax_nil)))) (by rfl))))) (wr_flat (f := (olT (eT (eP (eT PyData.int) PyData.int)))) (d := s11.1) 1 rfl)) ?_
      obtain ⟨t21, h21, hm⟩ := bnd hm
      obtain ⟨t22, h22, hm⟩ := bnd hm
      obtain ⟨t23, h23, hm⟩ := bnd hm
      refine sx_expr (ex_app (enc := (eT (eP (eT PyData.int) PyData.int))) (j := 1) (xs0 := t20) (xs := t20) (y := t22.1) h23 (ex_v (i := 4) (j := 4) B rfl rfl rfl) rfl (ex_call (a := (q_well_here7, t19.2, (1 + t8.1), t21)) (b := t22) (gi := 8) (rest := (q_shorts9, ol (List.map (eT (eP (eT PyData.int) PyData.int)) t20)) :: os) B rfl c_l_beside (by decide) h22 (ax_cons (ex_v (i := 2) (j := 2) B rfl rfl rfl) (ax_cons (ex_v (i := 3) (j := 3) B rfl rfl rfl) (ax_cons (ex_idxL (enc := (eT (eP (eT PyData.int) PyData.int))) h21 (rdl_own 1 rfl) (ex_v (i := 4) (j := 4) B rfl rfl rfl) (ex_neg ex_int)) ax_nil)))) rfl) ?_
      obtain rfl := som hm
      exact sx_nil fun σ H a => ⟨(), ((a.perm (perm_at (k := 1) rfl)).weak ⟨.inl rfl, .inl rfl, .inl rfl, .inl rfl, .inl rfl, .inr rfl, .inl rfl, .inl rfl, .inl rfl, .inl rfl, .inl rfl, trivial⟩)⟩
    · skip
      refine sx_frz (j := 0) (i := 4) rfl rfl ?_
      obtain ⟨t28, h28, hm⟩ := bnd hm
      refine sx_asgLc (i := 6) B T rfl (by rw [hsc]; exact lcl_of (by decide +kernel)) (lc_mk1 (j := 8) (vp := fun short_here25 => (dat (PyData.tuple (List.map (eP (eT PyData.int) PyData.int) short_here25)))) (c := anyOs) (enc := (eT PyData.int)) (fun (_ : Unit) (short_here25 : (List ((List Int) × Int))) => ((fun (short_here25 : (List ((List Int) × Int))) => ((m_l_out short_here25).bind fun t27 => some t27)) short_here25).map fun y => (some y, ())) (fun (_ : Unit) (tl1 : Os) => (q_well_here7, ol (List.map PyData.int f13.2)) :: tl1) () (t28) () B rfl rfl (by rw [B.hN, hsc]; decide +kernel) (by rw [hsc]; decide +kernel) (by decide) (lcO_ok h28) (ix_list (enc := (eT (eP (eT PyData.int) PyData.int))) (c := anyOs) (ex_v (i := 4) (j := 4) B rfl rfl rfl) (fun _ _ => rdl_dat) trivial) (fun _ _ => trivial) (fun _ _ _ => (List.Perm.swap _ _ _)) (fun _ short_here25 t tl1 hx hf => by (obtain ⟨y, hy, rfl⟩ := Option.map_eq_some_iff.mp hf; obtain ⟨t27, h27, hy⟩ := bnd hy; obtain rfl := som hy; exact ⟨true, _, fun X1 hX => by (have B1 := Bd.fam (W' := ["_law_short_here"]) (G' := ["_law_out"]) B hX (by (try rw [hsc]); decide +kernel); have c_l_out' := fam_cal hX c_l_out; exact ⟨.nil, fun _ => ⟨_, rfl, (ex_call (a := short_here25) (b := t27) (gi := 0) (rest := (q_well_here7, ol (List.map PyData.int f13.2)) :: tl1) B1 rfl c_l_out' (by decide) h27 (ax_cons (ex_v (i := 8) (j := 0) B1 rfl rfl rfl) ax_nil))⟩, fun h => Bool.noConfusion h⟩)⟩))) (sw_ok (by rw [hsc]; decide +kernel) (by rw [hsc]; exact lcl_of (by decide +kernel)) (by decide) (by decide +kernel)) (fun q_plains28 => ?_)
      refine sx_frz (j := 0) (i := 6) rfl rfl ?_
      obtain ⟨f31o, h48, hm⟩ := bnd hm
      refine sx_forR (c := anyOs) (fun (s29 : (List Int)) (x30 : (Int × (List ((List Int) × Int)))) => (((idx t28 x30.1).bind fun t34 => ((m_p_is_short (1 + t8.1) x30.2).bind fun t35 => (if (!decide (t35 = true)) = true then some true else ((m_p_is_short (1 + t8.1) x30.2).bind fun t36 => some (!decide (t36 = true)))).bind fun t37 => (if t37 = true then some (Step.ret false) else ((m_p_short_length (1 + t8.1) x30.2).bind fun t38 => (reprO (PyData.int t38)).bind fun t39 => (reprO (PyData.int (t34.length : Int))).bind fun t40 => (if (!decide (t39 = t40)) = true then some (Step.ret false) else ((if (decide (0 < (t34.length : Int))) = true then ((m_l_steps_right s29 (1 + t8.1) x30.2 t34).bind fun t41 => some ((!t41.1), t41.2)) else some (false, s29)).bind fun t42 => (if t42.1 = true then some (Step.ret false) else ((m_l_pair_right (1 + t8.1) x30.2 x30.2 none).bind fun t43 => (if (!t43) = true then some (Step.ret false) else ((idx f13.1 (maxI 0 (x30.1 - 1))).bind fun t44 => (idx t28 (maxI 0 (x30.1 - 1))).bind fun t45 => (m_l_unlike t45 t34).bind fun t46 => (m_l_pair_right (1 + t8.1) t44 x30.2 t46).bind fun t47 => (if (!t47) = true then some (Step.ret false) else some (Step.go t42.2)))))))))))) : Option (Step Bool (List Int)))) (fun (s29 : (List Int)) (_ : Unit) => [sl (scr X.K script), sl (dat (PyData.int k_3)), sl (own q_well_here7), sl (dat (PyData.int (1 + t8.1))), sl (dat (PyData.list (List.map (eT (eP (eT PyData.int) PyData.int)) f13.1))), un, sl (dat (PyData.list (List.map (eT PyData.int) t28))), un, un, un, un]) (fun (s29 : (List Int)) (_ : Unit) => (q_well_here7, ol (List.map PyData.int s29)) :: os) (fun (r : Bool) v H => ∃ F, Same F0 F ∧ Ow F (os) H ∧ Cl (dat (PyData.bool r)) F v) B T (fun x30 => gx_pair B (gx_name (i := 7) (vi := 7) (φ := (dat (PyData.int x30.1))) B T rfl rfl) (gx_name (i := 8) (vi := 8) (φ := (dat (PyData.tuple (List.map (eP (eT PyData.int) PyData.int) x30.2)))) B T rfl rfl)) f13.2 () f31o h48 (ix_enum (enc := (eT (eP (eT PyData.int) PyData.int))) (c := anyOs) (gi := 9) B rfl g_enumerate (ex_v (i := 4) (j := 4) B rfl rfl rfl) (fun _ _ => rdl_dat) trivial) ⟨.inl rfl, .inl rfl, .inl rfl, .inl rfl, .inl rfl, .inl rfl, .inl rfl, .inl rfl, .inl rfl, .inl rfl, .inl rfl, trivial⟩ (fun _ _ => trivial) (fun F33 e32 s29 _ x30 z61 hx hm2 => ?_) (fun f31 _ ho => ?_) (fun r60 v H ho hr => ?_)
      · clear hm h48
        have hm := hm2
        obtain ⟨t34, h34, hm⟩ := bnd hm
        refine sx_asg (i := 9) (vi := 9) (φ := (dat (PyData.tuple (List.map PyData.int t34)))) B T rfl rfl (ex_idxL (enc := (eT PyData.int)) h34 rdl_dat (ex_v (i := 6) (j := 6) B rfl rfl rfl) (ex_v (i := 7) (j := 7) B rfl rfl rfl)) ?_
        obtain ⟨t35, h35, hm⟩ := bnd hm
        obtain ⟨t37, h37, hm⟩ := bnd hm
        refine sx_if (WX.tx (wx_or (l := t37) (os2 := (q_well_here7, ol (List.map PyData.int s29)) :: os) (tx_cmp op_notBl r2_notB (nomark _) (ex_call (a := ((1 + t8.1), x30.2)) (b := t35) (gi := 10) (rest := (q_well_here7, ol (List.map PyData.int s29)) :: os) B rfl c_p_is_short (by decide) h35 (ax_cons (ex_v (i := 3) (j := 3) B rfl rfl rfl) (ax_cons (ex_v (i := 8) (j := 8) B rfl rfl rfl) ax_nil))) ex_bool) (fun hk => by (have hm := ifF h37 hk; obtain ⟨t36, h36, hm⟩ := bnd hm; obtain rfl := som hm; exact (wx_or1 (tx_cmp op_notBl r2_notB (nomark _) (ex_callk0 (a := ((1 + t8.1), x30.2)) (b := t36) (gi := 10) (rest := (q_well_here7, ol (List.map PyData.int s29)) :: os) B rfl c_p_is_short (by decide) kw_is_short_0_value_letters (by decide) h36 (kx_cons (ex_v (i := 8) (j := 8) B rfl rfl rfl) (kx_cons (ex_v (i := 3) (j := 3) B rfl rfl rfl) kx_nil)) rfl) ex_bool)))) (fun hk => by (have hm := ifT h37 hk; obtain rfl := som hm; rfl)) (or_fix (fun hk => by (have hm := ifT h37 hk; obtain rfl := som hm; rfl))))) (fun hk => ?_) (fun hk => ?_)
        · have hm := ifT hm hk
          exact sx_ret ex_bool (fun F H v e o c => ⟨_, (som hm).symm, F, ((e5.trans e32).trans e), (o.drop), c⟩)
        · have hm := ifF hm hk
          refine sx_fall ?_ rfl
          obtain ⟨t38, h38, hm⟩ := bnd hm
          obtain ⟨t39, h39, hm⟩ := bnd hm
          obtain ⟨t40, h40, hm⟩ := bnd hm
          refine sx_if (tx_cmp op_ne r2_neS (nomark _) (ex_fn (j := 11) B rfl g_repr (by decide +kernel) (call_repr B.gd B.room) (rc_repr h39) (ax_cons (ex_call (a := ((1 + t8.1), x30.2)) (b := t38) (gi := 12) (rest := (q_well_here7, ol (List.map PyData.int s29)) :: os) B rfl c_p_short_length (by decide) h38 (ax_cons (ex_v (i := 3) (j := 3) B rfl rfl rfl) (ax_cons (ex_v (i := 8) (j := 8) B rfl rfl rfl) ax_nil))) ax_nil)) (ex_fn (j := 11) B rfl g_repr (by decide +kernel) (call_repr B.gd B.room) (rc_repr h40) (ax_cons (EX.to (ex_fn (j := 3) B rfl g_len (by decide +kernel) call_len_seq (rc_lenT (ds := List.map PyData.int t34) rdt_dat) (ax_cons (ex_v (i := 9) (j := 9) B rfl rfl rfl) ax_nil)) (by rw [List.length_map])) ax_nil))) (fun hk => ?_) (fun hk => ?_)
          · have hm := ifT hm hk
            exact sx_ret ex_bool (fun F H v e o c => ⟨_, (som hm).symm, F, ((e5.trans e32).trans e), (o.drop), c⟩)
          · have hm := ifF hm hk
            refine sx_fall ?_ rfl
            obtain ⟨t42, h42, hm⟩ := bnd hm
            refine sx_if (WX.tx (wx_and (l := t42.1) (os2 := (q_well_here7, ol (List.map PyData.int t42.2)) :: os) (tx_cmp op_gt r2_gt (nomark _) (EX.to (ex_fn (j := 3) B rfl g_len (by decide +kernel) call_len_seq (rc_lenT (ds := List.map PyData.int t34) rdt_dat) (ax_cons (ex_v (i := 9) (j := 9) B rfl rfl rfl) ax_nil)) (by rw [List.length_map])) ex_int) (fun hk => by (have hm := ifT h42 hk; obtain ⟨t41, h41, hm⟩ := bnd hm; obtain rfl := som hm; exact (wx_and1 (tx_not (tx_val (ex_call (a := (q_well_here7, s29, (1 + t8.1), x30.2, t34)) (b := t41) (gi := 13) (rest := os) B rfl c_l_steps_right (by decide) h41 (ax_cons (ex_v (i := 2) (j := 2) B rfl rfl rfl) (ax_cons (ex_v (i := 3) (j := 3) B rfl rfl rfl) (ax_cons (ex_v (i := 8) (j := 8) B rfl rfl rfl) (ax_cons (ex_v (i := 9) (j := 9) B rfl rfl rfl) ax_nil))))) (by intro _; rfl)))))) (fun hk => by (have hm := ifF h42 hk; obtain rfl := som hm; rfl)) (and_fix (fun hk => by (have hm := ifF h42 hk; obtain rfl := som hm; rfl))))) (fun hk => ?_) (fun hk => ?_)
            · have hm := ifT hm hk
              exact sx_ret ex_bool (fun F H v e o c => ⟨_, (som hm).symm, F, ((e5.trans e32).trans e), (o.drop), c⟩)
            · have hm := ifF hm hk
              refine sx_fall ?_ rfl
              obtain ⟨t43, h43, hm⟩ := bnd hm
              refine sx_if (tx_not (tx_val (ex_call (a := ((1 + t8.1), x30.2, x30.2, none)) (b := t43) (gi := 14) (rest := (q_well_here7, ol (List.map PyData.int t42.2)) :: os) B rfl c_l_pair_right (by decide) h43 (ax_cons (ex_v (i := 3) (j := 3) B rfl rfl rfl) (ax_cons (ex_v (i := 8) (j := 8) B rfl rfl rfl) (ax_cons (ex_v (i := 8) (j := 8) B rfl rfl rfl) (ax_cons ex_none ax_nil))))) (by intro _; rfl))) (fun hk => ?_) (fun hk => ?_)
              · have hm := ifT hm hk
                exact sx_ret ex_bool (fun F H v e o c => ⟨_, (som hm).symm, F, ((e5.trans e32).trans e), (o.drop), c⟩)
              · have hm := ifF hm hk
                refine sx_fall ?_ rfl
                refine sx_asg (i := 10) (vi := 10) (φ := (dat (PyData.int (maxI 0 (x30.1 - 1))))) B T rfl rfl (ex_fn (j := 1) B rfl g_max (by decide +kernel) (call_max2 B.calm) rc_max (ax_cons ex_int (ax_cons (ex_sub (ex_v (i := 7) (j := 7) B rfl rfl rfl) ex_int) ax_nil))) ?_
                obtain ⟨t44, h44, hm⟩ := bnd hm
                obtain ⟨t45, h45, hm⟩ := bnd hm
                obtain ⟨t46, h46, hm⟩ := bnd hm
                obtain ⟨t47, h47, hm⟩ := bnd hm
                refine sx_if (tx_not (tx_val (ex_call (a := ((1 + t8.1), t44, x30.2, t46)) (b := t47) (gi := 14) (rest := (q_well_here7, ol (List.map PyData.int t42.2)) :: os) B rfl c_l_pair_right (by decide) h47 (ax_cons (ex_v (i := 3) (j := 3) B rfl rfl rfl) (ax_cons (ex_idxL (enc := (eT (eP (eT PyData.int) PyData.int))) h44 rdl_dat (ex_v (i := 4) (j := 4) B rfl rfl rfl) (ex_v (i := 10) (j := 10) B rfl rfl rfl)) (ax_cons (ex_v (i := 8) (j := 8) B rfl rfl rfl) (ax_cons (ex_call (a := (t45, t34)) (b := t46) (gi := 15) (rest := (q_well_here7, ol (List.map PyData.int t42.2)) :: os) B rfl c_l_unlike (by decide) h46 (ax_cons (ex_idxL (enc := (eT PyData.int)) h45 rdl_dat (ex_v (i := 6) (j := 6) B rfl rfl rfl) (ex_v (i := 10) (j := 10) B rfl rfl rfl)) (ax_cons (ex_v (i := 9) (j := 9) B rfl rfl rfl) ax_nil))) ax_nil))))) (by intro _; rfl))) (fun hk => ?_) (fun hk => ?_)
                · have hm := ifT hm hk
                  exact sx_ret ex_bool (fun F H v e o c => ⟨_, (som hm).symm, F, ((e5.trans e32).trans e), (o.drop), c⟩)
                · have hm := ifF hm hk
                  refine sx_fall ?_ rfl
                  exact sx_nil fun σ H a => ⟨_, (), (som hm).symm, (a.weak ⟨.inl rfl, .inl rfl, .inl rfl, .inl rfl, .inl rfl, .inl rfl, .inl rfl, .inr rfl, .inr rfl, .inr rfl, .inr rfl, trivial⟩)⟩
      · cases ho
        have hm := elimR hm
        obtain ⟨f51o, h57, hm⟩ := bnd hm
        refine sx_forR (c := anyOs) (fun (s49 : Unit) (x50 : ((List ((List Int) × Int)) × (List Int))) => (((m_p_short_length (1 + t8.1) x50.1).bind fun t54 => (reprO (PyData.int t54)).bind fun t55 => (reprO (PyData.int (x50.2.length : Int))).bind fun t56 => (if (!decide (t55 = t56)) = true then some (Step.ret false) else some (Step.go ()))) : Option (Step Bool Unit))) (fun (s49 : Unit) (_ : Unit) => [sl (scr X.K script), sl (dat (PyData.int k_3)), sl (own q_well_here7), sl (dat (PyData.int (1 + t8.1))), sl (dat (PyData.list (List.map (eT (eP (eT PyData.int) PyData.int)) f13.1))), un, sl (dat (PyData.list (List.map (eT PyData.int) t28))), un, un, un, un]) (fun (s49 : Unit) (_ : Unit) => (q_well_here7, ol (List.map PyData.int f31)) :: os) (fun (r : Bool) v H => ∃ F, Same F0 F ∧ Ow F (os) H ∧ Cl (dat (PyData.bool r)) F v) B T (fun x50 => gx_pair B (gx_name (i := 8) (vi := 8) (φ := (dat (PyData.tuple (List.map (eP (eT PyData.int) PyData.int) x50.1)))) B T rfl rfl) (gx_name (i := 9) (vi := 9) (φ := (dat (PyData.tuple (List.map PyData.int x50.2)))) B T rfl rfl)) () () f51o h57 (ix_zip (enc := (eT (eP (eT PyData.int) PyData.int))) (enc2 := (eT PyData.int)) (xs := f13.1) (ys := t28) (c := anyOs) (gi := 16) B rfl g_zip (ex_v (i := 4) (j := 4) B rfl rfl rfl) (ex_v (i := 6) (j := 6) B rfl rfl rfl) (fun _ _ => rdl_dat) (fun _ _ => rdl_dat) trivial) ⟨.inl rfl, .inl rfl, .inl rfl, .inl rfl, .inl rfl, .inl rfl, .inl rfl, .inl rfl, .inl rfl, .inl rfl, .inl rfl, trivial⟩ (fun _ _ => trivial) (fun F53 e52 s49 _ x50 z59 hx hm2 => ?_) (fun f51 _ ho => ?_) (fun r58 v H ho hr => ?_)
        · clear hm h57
          have hm := hm2
          obtain ⟨t54, h54, hm⟩ := bnd hm
          obtain ⟨t55, h55, hm⟩ := bnd hm
          obtain ⟨t56, h56, hm⟩ := bnd hm
          refine sx_if (tx_cmp op_ne r2_neS (nomark _) (ex_fn (j := 11) B rfl g_repr (by decide +kernel) (call_repr B.gd B.room) (rc_repr h55) (ax_cons (ex_callk0 (a := ((1 + t8.1), x50.1)) (b := t54) (gi := 12) (rest := (q_well_here7, ol (List.map PyData.int f31)) :: os) B rfl c_p_short_length (by decide) kw_short_length_0_short_letters (by decide) h54 (kx_cons (ex_v (i := 8) (j := 8) B rfl rfl rfl) (kx_cons (ex_v (i := 3) (j := 3) B rfl rfl rfl) kx_nil)) rfl) ax_nil)) (ex_fn (j := 11) B rfl g_repr (by decide +kernel) (call_repr B.gd B.room) (rc_repr h56) (ax_cons (EX.to (ex_fn (j := 3) B rfl g_len (by decide +kernel) call_len_seq (rc_lenT (ds := List.map PyData.int x50.2) rdt_dat) (ax_cons (ex_v (i := 9) (j := 9) B rfl rfl rfl) ax_nil)) (by rw [List.length_map])) ax_nil))) (fun hk => ?_) (fun hk => ?_)
          · have hm := ifT hm hk
            exact sx_ret ex_bool (fun F H v e o c => ⟨_, (som hm).symm, F, ((e5.trans e52).trans e), (o.drop), c⟩)
          · have hm := ifF hm hk
            refine sx_fall ?_ rfl
            exact sx_nil fun σ H a => ⟨_, (), (som hm).symm, (a.weak ⟨.inl rfl, .inl rfl, .inl rfl, .inl rfl, .inl rfl, .inl rfl, .inl rfl, .inl rfl, .inr rfl, .inr rfl, .inl rfl, trivial⟩)⟩
        · cases ho
          have hm := elimR hm
          exact sx_nil fun σ H a => ⟨_, (), (som hm).symm, ((a.drop).weak ⟨.inl rfl, .inr rfl, .inr rfl, .inr rfl, .inr rfl, .inl rfl, .inr rfl, .inl rfl, .inl rfl, .inl rfl, .inl rfl, trivial⟩)⟩
        · cases ho
          have hm := elimL hm
          exact ⟨_, (som hm).symm, hr⟩
      · cases ho
        have hm := elimL hm
        exact ⟨_, (som hm).symm, hr⟩
  · cases ho
    have hm := elimR hm
    obtain rfl := som hm
    exact sx_ret ex_bool (fun F H v e o c => R.rt F H v e o c)
  · cases ho
    have hm := elimL hm
    obtain rfl := som hm
    obtain ⟨F, e, o, c⟩ := hr
    exact R.rt F H v e o c
theorem cal_l_law {P : Program} {w : World} {K : PySem.W.Frag} {mg : Str → Option Value} {base : Heap} {f : Addr} {fd : FuncData} (Fn : Fun K "law" "law" s_l_law f fd) (hmg : mg "law" = some (.ref f)) (hb : Binds K fd ["_law_script"] []) (g_range : mg "range" = none) (g_max : mg "max" = none) (g_min : mg "min" = none) (g_len : mg "len" = none) (c_l_well : Cal P w K mg base 1 "_law_well" s_l_well ["_law_script", "_law_k"] (sp_l_well K)) (c_l_pick : Cal P w K mg base 1 "_law_pick" s_l_pick ["_law_well_here", "_law_many"] (sp_l_pick K)) (c_l_long : Cal P w K mg base 3 "_law_long" s_l_long ["_law_well_here", "_law_letters"] (sp_l_long K)) (c_l_short : Cal P w K mg base 4 "_law_short" s_l_short ["_law_well_here", "_law_letters", "_law_most"] (sp_l_short K)) (c_l_beside : Cal P w K mg base 5 "_law_beside" s_l_beside ["_law_well_here", "_law_letters", "_law_short_here"] (sp_l_beside K)) (c_l_out : Cal P w K mg base 2 "_law_out" s_l_out ["_law_short_here"] (sp_l_out K)) (g_enumerate : mg "enumerate" = none) (c_p_is_short : Cal P w K mg base 6 "is_short" s_p_is_short ["letters", "value"] (sp_p_is_short K)) (g_repr : mg "repr" = none) (c_p_short_length : Cal P w K mg base 8 "short_length" s_p_short_length ["letters", "short"] (sp_p_short_length K)) (c_l_steps_right : Cal P w K mg base 9 "_law_steps_right" s_l_steps_right ["_law_well_here", "_law_letters", "_law_short_here", "_law_plain"] (sp_l_steps_right K)) (c_l_pair_right : Cal P w K mg base 10 "_law_pair_right" s_l_pair_right ["_law_letters", "_law_one", "_law_other", "_law_due"] (sp_l_pair_right K)) (c_l_unlike : Cal P w K mg base 1 "_law_unlike" s_l_unlike ["_law_one", "_law_other"] (sp_l_unlike K)) (g_zip : mg "zip" = none) : Cal P w K mg base 11 "law" s_l_law ["_law_script"] (sp_l_law K) :=
  cal_Z (V := V_l_law) (Gs := G_l_law) (nl := 10) Fn sc_l_law (by decide +kernel) (by decide +kernel) hmg hb (fun _ => rfl) rfl fun _ _ _ _ _ _ _ a b F0 os D B T hm R => body_l_law rfl B T g_range g_max g_min g_len c_l_well c_l_pick c_l_long c_l_short c_l_beside c_l_out g_enumerate c_p_is_short g_repr c_p_short_length c_l_steps_right c_l_pair_right c_l_unlike g_zip a b F0 os D hm R
end L26
namespace L26
open PySem PySem.Spec L2 Z
theorem well_eq (w : List Int) (m : Int) : m_l_well w m = wellB w m := rfl
theorem pick_eq (w : List Int) (m : Int) : m_l_pick w m = pickB w m := rfl
theorem walk_eq (w : List Int) (l m : Int) : m_l_walk w l m = walkB w l m := rfl
theorem slist_eq (sh : List (List Int × Int)) : m_p_straight_list sh = S_straight_list sh := rfl
theorem part_eq (u v : List Str3) : m_p_parting_place u v = S_parting_place u v := rfl
theorem big : sizeLine = 16777216 := by decide
theorem back_ok' {w : List Int} (h : w.length ≤ 100000) : m_l_back w = some (iv w) := tback_okS h
abbrev Sh := List (List Int × Int)
/-! ### what is drawn -/
theorem iv_sok {L : Int} {w : List Int} (h : ∀ x ∈ w, Sok L x) : ∀ x ∈ iv w, Sok L x := fun x hx => by
  obtain ⟨y, hy, rfl⟩ := List.mem_map.mp hx
  exact (h y (List.mem_reverse.mp hy)).neg
theorem app_sok {L : Int} {u v : List Int} (h : ∀ x ∈ u, Sok L x) (k : ∀ x ∈ v, Sok L x) : ∀ x ∈ u ++ v, Sok L x := fun x hx => (List.mem_append.mp hx).elim (h x) (k x)
theorem mpart_ok {n : Nat} {L : Int} (hn : n + 20000 < 2 ^ 60) {w : List Int} (h : WeB n w) (h1 : 1 ≤ L) (h4 : L ≤ 4) {ah : Sh} (ha : Shw L 8 12 12 ah) :
    ∃ p w', m_l_part w L ah = some (p, w', ah) ∧ Shw L 1 12 12 [p] ∧ WeB (n + 10000) w' := by
  unfold m_l_part
  obtain ⟨v1, w1, e1, a1, b1, k1⟩ := pickB_ok (by omega) h (many := 6) (by decide) (by decide)
  obtain ⟨v2, w2, e2, a2, b2, k2⟩ := pickB_ok (by omega) k1 (many := 12) (by decide) (by decide)
  obtain ⟨v3, w3, e3, a3, b3, k3⟩ := pickB_ok (by omega) k2 (many := 2) (by decide) (by decide)
  have tt : (if (decide (v3 = 0)) = true then (1 + v2) else (-(1 + v2))) ≠ 0 ∧ -12 ≤ (if (decide (v3 = 0)) = true then (1 + v2) else (-(1 + v2))) ∧ (if (decide (v3 = 0)) = true then (1 + v2) else (-(1 + v2))) ≤ 12 := by
    split <;> omega
  generalize htt : (if (decide (v3 = 0)) = true then (1 + v2) else (-(1 + v2))) = tm at tt
  by_cases hc : ((decide (2 < v1)) && (decide (0 < (ah.length : Int)))) = true
  · have hc0 := hc
    rw [Bool.and_eq_true, decide_eq_true_eq, decide_eq_true_eq] at hc
    have hnum := ha.num
    obtain ⟨v6, w6, e6, a6, b6, k6⟩ := pickB_ok (by omega) k3 (many := (ah.length : Int)) (by omega) (by omega)
    obtain ⟨p, e7, hp⟩ := idx_mem a6 b6
    have pl := ha.len p hp
    have pt := ha.tim p hp
    by_cases hv : v1 = 3
    · refine ⟨(p.1, -p.2), w6, bindS e1 (bindS e2 (bindS e3 (bindS rfl ?_))), Shw.one (ha.ok p hp) pl (by show -p.2 ≠ 0; omega) (by show -12 ≤ -p.2; omega) (by show -p.2 ≤ 12; omega), k6.mono (by omega)⟩
      exact (if_pos hc0).trans (bindS e6 (bindS e7 (if_pos (decide_eq_true hv))))
    · obtain ⟨v8, w8, e8, a8, b8, k8⟩ := pickB_ok (by omega) k6 (many := (p.1.length : Int) + 1) (by omega) (by omega)
      obtain ⟨q, e10, q1, q2⟩ : ∃ q, (if (decide (v1 = 4)) = true then ((catO (α := Int) (cut p.1 (some v8) none) (cut p.1 none (some v8))).bind fun t9 => some t9) else some p.1 : Option (List Int)) = some q ∧ (∀ x ∈ q, Sok L x) ∧ q.length ≤ 12 := by
        by_cases hw : v1 = 4
        · rw [cut_from _ a8, cut_to _ a8]
          refine ⟨p.1.drop v8.toNat ++ p.1.take v8.toNat, (if_pos (decide_eq_true hw)).trans (bindS (cat_ok (by rw [List.length_drop, List.length_take, big]; omega)) rfl), app_sok (fun x hx => ha.ok p hp x (List.mem_of_mem_drop hx)) (fun x hx => ha.ok p hp x (List.mem_of_mem_take hx)), by rw [List.length_append, List.length_drop, List.length_take]; omega⟩
        · exact ⟨p.1, if_neg (by simpa using hw), ha.ok p hp, pl⟩
      refine ⟨(q, tm), w8, bindS e1 (bindS e2 (bindS e3 (bindS (a := tm) (congrArg some htt) ?_))), Shw.one q1 q2 tt.1 tt.2.1 tt.2.2, k8.mono (by omega)⟩
      exact (if_pos hc0).trans (bindS e6 (bindS e7 ((if_neg (by simpa using hv)).trans (bindS e8 (bindS e10 rfl)))))
  · obtain ⟨u, w11, e11, u1, u2, k11⟩ := walkB_ok (by omega) k3 h1 h4 (most := 6) (by decide) (by decide)
    obtain ⟨q, w16, e16, q1, q2, k16⟩ : ∃ q w16, (if (decide (v1 = 1)) = true then ((m_l_walk w11 L 3).bind fun t12 => ((catO (α := Int) t12.1 u).bind fun t13 => (m_l_back t12.1).bind fun t14 => (catO (α := Int) t13 t14).bind fun t15 => some (t15, t12.2))) else some (u, w11) : Option ((List Int) × (List Int))) = some (q, w16) ∧ (∀ x ∈ q, Sok L x) ∧ q.length ≤ 12 ∧ WeB (n + 10000) w16 := by
      by_cases hw : v1 = 1
      · obtain ⟨l, w12, e12, l1, l2, k12⟩ := walkB_ok (by omega) k11 h1 h4 (most := 3) (by decide) (by decide)
        refine ⟨l ++ u ++ iv l, w12, (if_pos (decide_eq_true hw)).trans (bindS e12 (bindS (cat_ok (xs := l) (ys := u) (by rw [big]; omega)) (bindS (back_ok' (w := l) (by omega)) (bindS (cat_ok (xs := l ++ u) (ys := iv l) (by rw [List.length_append, iv_len, big]; omega)) rfl)))), app_sok (app_sok l1 u1) (iv_sok l1), by rw [List.length_append, List.length_append, iv_len]; omega, k12.mono (by omega)⟩
      · exact ⟨u, w11, if_neg (by simpa using hw), u1, by omega, k11.mono (by omega)⟩
    refine ⟨(q, tm), w16, bindS e1 (bindS e2 (bindS e3 (bindS (a := tm) (congrArg some htt) ?_))), Shw.one q1 q2 tt.1 tt.2.1 tt.2.2, k16⟩
    exact (if_neg hc).trans (bindS e11 (bindS e16 rfl))
theorem mshort_ok {n : Nat} {L : Int} (hn : n + 200000 < 2 ^ 60) {w : List Int} (h : WeB n w) (h1 : 1 ≤ L) (h4 : L ≤ 4) : ∃ sh w', m_l_short w L 6 = some (sh, w') ∧ Shw L 6 12 12 sh ∧ WeB (n + 100000) w' := by
  unfold m_l_short
  obtain ⟨v1, w1, e1, a1, b1, k1⟩ := pickB_ok (by omega) h (many := 6 + 1) (by decide) (by decide)
  have hlr : (range' 0 v1).length = v1.toNat := by rw [rng_len, Int.sub_zero]
  obtain ⟨s', e3, k3⟩ := lp_goN (f := (fun (s3 : ((List Int) × (List ((List Int) × Int)))) (turn4 : Int) => ((m_l_part s3.1 L s3.2).bind fun t8 => (appO t8.2.2 t8.1).bind fun t9 => some (t8.2.1, t9)))) (xs := range' 0 v1) (fun i s => WeB (n + 1 + 10000 * i) s.1 ∧ s.2.length = i ∧ Shw L 8 12 12 s.2) (fun i x s hx hs => by
    have hi : i < v1.toNat := by
      have := (List.getElem?_eq_some_iff.mp hx).1
      omega
    obtain ⟨g1, g2, g3⟩ := hs
    obtain ⟨p, x1, f1, c1, d1⟩ := mpart_ok (by omega) g1 h1 h4 g3
    exact ⟨_, bindS f1 (bindS (app_ok (by rw [g2, big]; omega)) rfl), d1.mono (by omega), by rw [List.length_append, g2]; rfl, (g3.app c1).num' (by rw [List.length_append, g2]; show i + 1 ≤ 8; omega)⟩) (s0 := (w1, [])) ⟨k1.mono (by omega), rfl, Shw.nil⟩
  rw [hlr] at k3
  exact ⟨_, _, bindS e1 (bindS (rngO_ok (by omega)) (bindS e3 rfl)), k3.2.2.num' (by rw [k3.2.1]; omega), k3.1.mono (by omega)⟩
theorem mlong_ok {n : Nat} {L : Int} (hn : n + 200000 < 2 ^ 60) {w : List Int} (h : WeB n w) (h1 : 1 ≤ L) (h4 : L ≤ 4) : ∃ sh w', m_l_long w L = some (sh, w') ∧ Shw L 3 60 3 sh ∧ WeB (n + 100000) w' := by
  unfold m_l_long
  obtain ⟨u, w1, e1, u1, u2, k1⟩ := walkB_ok (by omega) h h1 h4 (most := 60) (by decide) (by decide)
  have e2 := back_ok' (w := u) (by omega)
  obtain ⟨v3, w3, e3, a3, b3, k3⟩ := pickB_ok (by omega) k1 (many := 60) (by decide) (by decide)
  obtain ⟨v, w4, e4, v1, v2, k4⟩ := walkB_ok (by omega) k3 h1 h4 (most := 60 - v3) (by omega) (by omega)
  have e5 : catO (α := Int) (cut (iv u) none (some v3)) v = some ((iv u).take v3.toNat ++ v) := by
    rw [cut_to _ a3]
    exact cat_ok (by rw [List.length_take, iv_len, big]; omega)
  have o1 : ∀ x ∈ (iv u).take v3.toNat ++ v, Sok L x := app_sok (fun x hx => iv_sok u1 x (List.mem_of_mem_take hx)) v1
  have o2 : ((iv u).take v3.toNat ++ v).length ≤ 60 := by rw [List.length_append, List.length_take, iv_len]; omega
  generalize (iv u).take v3.toNat ++ v = o at e5 o1 o2
  obtain ⟨v6, w6, e6, a6, b6, k6⟩ := pickB_ok (by omega) k4 (many := 3) (by decide) (by decide)
  obtain ⟨v7, w7, e7, a7, b7, k7⟩ := pickB_ok (by omega) k6 (many := 3) (by decide) (by decide)
  obtain ⟨v8, w8, e8, a8, b8, k8⟩ := pickB_ok (by omega) k7 (many := 2) (by decide) (by decide)
  have g0 : Shw L 2 60 3 [(u, (1 + v6)), (o, (1 + v7))] := (Shw.one (p := (u, 1 + v6)) u1 (by show u.length ≤ 60; omega) (by show 1 + v6 ≠ 0; omega) (by show -3 ≤ 1 + v6; omega) (by show 1 + v6 ≤ 3; omega)).app (Shw.one (p := (o, 1 + v7)) o1 o2 (by show 1 + v7 ≠ 0; omega) (by show -3 ≤ 1 + v7; omega) (by show 1 + v7 ≤ 3; omega))
  obtain ⟨q, w15, e15, q1, k15⟩ : ∃ q w15, (if (decide (v8 = 0)) = true then ((m_l_walk w8 L 10).bind fun t9 => (catO (α := Int) (cut u none (some 25)) t9.1).bind fun t10 => (m_l_back (cut u none (some 25))).bind fun t11 => (catO (α := Int) t10 t11).bind fun t12 => (m_l_pick t9.2 3).bind fun t13 => (catO (α := ((List Int) × Int)) ([(t12, (1 + t13.1))]) ([(u, (1 + v6)), (o, (1 + v7))])).bind fun t14 => some (t14, t13.2)) else some ([(u, (1 + v6)), (o, (1 + v7))], w8) : Option ((List ((List Int) × Int)) × (List Int))) = some (q, w15) ∧ Shw L 3 60 3 q ∧ WeB (n + 50000) w15 := by
    by_cases hv : v8 = 0
    · obtain ⟨x, w9, e9, x1, x2, k9⟩ := walkB_ok (by omega) k8 h1 h4 (most := 10) (by decide) (by decide)
      obtain ⟨v13, w13, e13, a13, b13, k13⟩ := pickB_ok (by omega) k9 (many := 3) (by decide) (by decide)
      have ec : cut u none (some 25) = u.take 25 := cut_to u (by decide)
      have lc : (u.take 25).length ≤ 25 := by rw [List.length_take]; omega
      have oc : ∀ y ∈ u.take 25, Sok L y := fun y hy => u1 y (List.mem_of_mem_take hy)
      rw [ec]
      refine ⟨[(u.take 25 ++ x ++ iv (u.take 25), 1 + v13)] ++ [(u, (1 + v6)), (o, (1 + v7))], w13, (if_pos (decide_eq_true hv)).trans (bindS e9 (bindS (cat_ok (xs := u.take 25) (ys := x) (by rw [big]; omega)) (bindS (back_ok' (w := u.take 25) (by omega)) (bindS (cat_ok (xs := u.take 25 ++ x) (ys := iv (u.take 25)) (by rw [List.length_append, iv_len, big]; omega)) (bindS e13 (bindS (cat_ok (xs := [(u.take 25 ++ x ++ iv (u.take 25), 1 + v13)]) (ys := [(u, (1 + v6)), (o, (1 + v7))]) (by rw [big]; show 1 + 2 ≤ _; decide)) rfl)))))), ?_, k13.mono (by omega)⟩
      exact (Shw.one (p := (u.take 25 ++ x ++ iv (u.take 25), 1 + v13)) (app_sok (app_sok oc x1) (iv_sok oc)) (by show (u.take 25 ++ x ++ iv (u.take 25)).length ≤ 60; rw [List.length_append, List.length_append, iv_len]; omega) (by show 1 + v13 ≠ 0; omega) (by show -3 ≤ 1 + v13; omega) (by show 1 + v13 ≤ 3; omega)).app g0
    · exact ⟨_, w8, if_neg (by simpa using hv), g0.mono (by decide) (by decide) (by decide), k8.mono (by omega)⟩
  have q3 := q1.num
  obtain ⟨ys, w19, e19, l19, q19, k19⟩ := lcE_goN (f := (fun (s17 : (List Int)) (x16 : ((List Int) × Int)) => ((m_l_pick s17 4).bind fun t18 => some (some (x16.1, (if (decide (0 < t18.1)) = true then x16.2 else (-x16.2))), t18.2)))) (fun p : List Int × Int => (∀ x ∈ p.1, Sok L x) ∧ p.1.length ≤ 60 ∧ p.2 ≠ 0 ∧ -3 ≤ p.2 ∧ p.2 ≤ 3) (xs := q) (fun i s => WeB (n + 50000 + i) s) (by rw [big]; omega) (fun i x s hx hs => by
    have hm := List.mem_of_getElem? hx
    have hi := (List.getElem?_eq_some_iff.mp hx).1
    obtain ⟨z, w', f1, c1, d1, g1⟩ := pickB_ok (by omega) hs (many := 4) (by decide) (by decide)
    have ht := q1.tim x hm
    refine ⟨_, w', bindS f1 rfl, ⟨q1.ok x hm, q1.len x hm, ?_⟩, g1⟩
    show (if (decide (0 < z)) = true then x.2 else (-x.2)) ≠ 0 ∧ -3 ≤ (if (decide (0 < z)) = true then x.2 else (-x.2)) ∧ (if (decide (0 < z)) = true then x.2 else (-x.2)) ≤ 3
    split <;> omega) (s0 := w15) k15
  exact ⟨ys, w19, bindS e1 (bindS e2 (bindS e3 (bindS e4 (bindS e5 (bindS e6 (bindS e7 (bindS e8 (bindS e15 (bindS e19 rfl))))))))), ⟨fun p hp => (q19 p hp).1, fun p hp => (q19 p hp).2.1, fun p hp => (q19 p hp).2.2, by omega⟩, k19.mono (by omega)⟩
theorem bindE {α β : Type} {m : Option α} {k : α → Option β} {a : α} {P : β → Prop} (h : m = some a) (h2 : ∃ r, k a = some r ∧ P r) : ∃ r, m.bind k = some r ∧ P r := by
  rw [h]
  exact h2
theorem ifTE {β : Type} {c : Bool} {x y : Option β} {P : β → Prop} (h : c = true) (h2 : ∃ r, x = some r ∧ P r) : ∃ r, (if c = true then x else y) = some r ∧ P r := by
  rw [if_pos h]
  exact h2
theorem ifFE {β : Type} {c : Bool} {x y : Option β} {P : β → Prop} (h : ¬ c = true) (h2 : ∃ r, y = some r ∧ P r) : ∃ r, (if c = true then x else y) = some r ∧ P r := by
  rw [if_neg h]
  exact h2
theorem Shw.take {L : Int} {m n i : Nat} {t : Int} {sh : Sh} (h : Shw L m n t sh) : Shw L i n t (sh.take i) := ⟨fun p hp => h.ok p (List.mem_of_mem_take hp), fun p hp => h.len p (List.mem_of_mem_take hp), fun p hp => h.tim p (List.mem_of_mem_take hp), by rw [List.length_take]; omega⟩
theorem Shw.drop {L : Int} {m n i : Nat} {t : Int} {sh : Sh} (h : Shw L m n t sh) : Shw L (m - i) n t (sh.drop i) := ⟨fun p hp => h.ok p (List.mem_of_mem_drop hp), fun p hp => h.len p (List.mem_of_mem_drop hp), fun p hp => h.tim p (List.mem_of_mem_drop hp), by have := h.num; rw [List.length_drop]; omega⟩
theorem cat2E {a b c : Sh} {w : List Int} {P : Sh × List Int → Prop} (h : a.length + b.length + c.length ≤ 100) (k : P (a ++ b ++ c, w)) : ∃ r, ((catO (α := (List Int) × Int) a b).bind fun x => (catO (α := (List Int) × Int) x c).bind fun y => some (y, w)) = some r ∧ P r :=
  bindE (cat_ok (by rw [big]; omega)) (bindE (cat_ok (by rw [List.length_append, big]; omega)) ⟨_, rfl, k⟩)
theorem mbeside_ok {n : Nat} {L : Int} (hn : n + 400000 < 2 ^ 60) {w : List Int} (h : WeB n w) (h1 : 1 ≤ L) (h4 : L ≤ 4) {sh : Sh} (hs : Shw L 6 60 12 sh) : ∃ r, m_l_beside w L sh = some r ∧ (Shw L 8 60 16 r.1 ∧ WeB (n + 200000) r.2) := by
  unfold m_l_beside
  obtain ⟨v1, w1, e1, a1, b1, k1⟩ := pickB_ok (by omega) h (many := 7) (by decide) (by decide)
  refine bindE e1 ?_
  by_cases hc : ((decide (v1 = 0)) || (decide ((sh.length : Int) = 0))) = true
  · obtain ⟨r, w2, e2, r2, k2⟩ := mshort_ok (by omega) k1 h1 h4
    exact ifTE hc (bindE e2 ⟨_, rfl, r2.mono (by decide) (by decide) (by decide), k2.mono (by omega)⟩)
  · refine ifFE hc ?_
    rw [Bool.or_eq_true, decide_eq_true_eq, decide_eq_true_eq] at hc
    have hnum := hs.num
    obtain ⟨v3, w3, e3, a3, b3, k3⟩ := pickB_ok (by omega) k1 (many := (sh.length : Int)) (by omega) (by omega)
    refine bindE e3 ?_
    obtain ⟨p, e4, hp⟩ := idx_mem a3 b3
    refine bindE e4 ?_
    have pl := hs.len p hp
    have pt := hs.tim p hp
    have po := hs.ok p hp
    have hS : Shw L 6 60 16 sh := hs.mono (by decide) (by decide) (by decide)
    have tk : Shw L v3.toNat 60 16 (sh.take v3.toNat) := Shw.take hS
    have dr : Shw L (6 - (v3 + 1).toNat) 60 16 (sh.drop (v3 + 1).toNat) := Shw.drop hS
    have dr0 : Shw L (6 - v3.toNat) 60 16 (sh.drop v3.toNat) := Shw.drop hS
    have c1 : cut sh none (some v3) = sh.take v3.toNat := cut_to _ a3
    have c2 : cut sh (some (v3 + 1)) none = sh.drop (v3 + 1).toNat := cut_from _ (by omega)
    have c3 : cut sh (some v3) none = sh.drop v3.toNat := cut_from _ a3
    have tn := tk.num
    have dn1 := dr.num
    have dn0 := dr0.num
    show ∃ r, (if (decide (v1 = 1)) = true then _ else _) = some r ∧ _
    rw [c1, c2, c3]
    by_cases hv1 : v1 = 1
    · refine ifTE (decide_eq_true hv1) ?_
      obtain ⟨v5, w5, e5, a5, b5, k5⟩ := pickB_ok (by omega) k3 (many := 9) (by decide) (by decide)
      refine bindE e5 (bindE (a := (([v5 - 4, p.2 - (v5 - 4)].filter (fun (often6 : Int) => (!decide (often6 = 0)))).map (fun (often6 : Int) => (p.1, often6)))) (if_pos (by rw [big]; show 2 < _; decide)) ?_)
      have g : Shw L 2 60 16 ([v5 - 4, p.2 - (v5 - 4)].filter (fun (often6 : Int) => (!decide (often6 = 0))) |>.map (fun (often6 : Int) => (p.1, often6))) := ⟨fun q hq => by
        obtain ⟨y, _, rfl⟩ := List.mem_map.mp hq
        exact po, fun q hq => by
        obtain ⟨y, _, rfl⟩ := List.mem_map.mp hq
        exact pl, fun q hq => by
        obtain ⟨y, hy, rfl⟩ := List.mem_map.mp hq
        obtain ⟨hy1, hy2⟩ := List.mem_filter.mp hy
        have h0 : y ≠ 0 := by simpa using hy2
        simp only [List.mem_cons, List.not_mem_nil, or_false] at hy1
        show y ≠ 0 ∧ -16 ≤ y ∧ y ≤ 16
        rcases hy1 with rfl | rfl <;> omega, by
        rw [List.length_map]
        exact Nat.le_trans (List.length_filter_le _ _) (Nat.le_refl 2)⟩
      have gl := g.num
      exact cat2E (by omega) ⟨((tk.app g).app dr).num' (by rw [List.length_append, List.length_append]; omega), k5.mono (by omega)⟩
    refine ifFE (by simpa using hv1) ?_
    by_cases hv2 : v1 = 2
    · refine ifTE (decide_eq_true hv2) (bindE (lcO_some (fun x : List Int × Int => (iv x.1, -x.2)) (by rw [big]; omega) (fun x hx => bindS (back_ok' (by have := hs.len x hx; omega)) rfl)) ⟨_, rfl, ⟨fun q hq => ?_, fun q hq => ?_, fun q hq => ?_, ?_⟩, k3.mono (by omega)⟩)
      · obtain ⟨y, hy, rfl⟩ := List.mem_map.mp hq
        exact iv_sok (hs.ok y hy)
      · obtain ⟨y, hy, rfl⟩ := List.mem_map.mp hq
        show (iv y.1).length ≤ 60
        rw [iv_len]
        exact hs.len y hy
      · obtain ⟨y, hy, rfl⟩ := List.mem_map.mp hq
        have := hs.tim y hy
        show -y.2 ≠ 0 ∧ -16 ≤ -y.2 ∧ -y.2 ≤ 16
        omega
      · show (List.map _ sh).length ≤ 8
        rw [List.length_map]
        omega
    refine ifFE (by simpa using hv2) ?_
    by_cases hv3 : v1 = 3
    · refine ifTE (decide_eq_true hv3) ?_
      obtain ⟨u, w5, e5, u1, u2, k5⟩ := walkB_ok (by omega) k3 h1 h4 (most := 5) (by decide) (by decide)
      obtain ⟨v6, w6, e6, a6, b6, k6⟩ := pickB_ok (by omega) k5 (many := 9) (by decide) (by decide)
      refine bindE e5 (bindE e6 (cat2E (b := [(u, (1 + v6)), (u, (-(1 + v6)))]) (by show _ + 2 + _ ≤ _; omega) ⟨?_, k6.mono (by omega)⟩))
      have g : Shw L 2 60 16 [(u, (1 + v6)), (u, (-(1 + v6)))] := (Shw.one (p := (u, 1 + v6)) u1 (by show u.length ≤ 60; omega) (by show 1 + v6 ≠ 0; omega) (by show -16 ≤ 1 + v6; omega) (by show 1 + v6 ≤ 16; omega)).app (Shw.one (p := (u, -(1 + v6))) u1 (by show u.length ≤ 60; omega) (by show -(1 + v6) ≠ 0; omega) (by show -16 ≤ -(1 + v6); omega) (by show -(1 + v6) ≤ 16; omega))
      exact ((tk.app g).app dr0).num' (by rw [List.length_append, List.length_append]; show _ + 2 + _ ≤ 8; omega)
    refine ifFE (by simpa using hv3) ?_
    by_cases hv4 : v1 = 4
    · refine ifTE (decide_eq_true hv4) (cat2E (by show _ + 1 + _ ≤ _; omega) ⟨?_, k3.mono (by omega)⟩)
      have ht : (if (!decide (p.2 = (-1))) = true then (p.2 + 1) else 1) ≠ 0 ∧ -16 ≤ (if (!decide (p.2 = (-1))) = true then (p.2 + 1) else 1) ∧ (if (!decide (p.2 = (-1))) = true then (p.2 + 1) else 1) ≤ 16 := by
        by_cases hm : p.2 = -1
        · rw [if_neg (by simp [hm])]
          decide
        · rw [if_pos (by simp [hm])]
          omega
      have g : Shw L 1 60 16 [(p.1, (if (!decide (p.2 = (-1))) = true then (p.2 + 1) else 1))] := Shw.one po pl ht.1 ht.2.1 ht.2.2
      exact ((tk.app g).app dr).num' (by rw [List.length_append, List.length_append]; show _ + 1 + _ ≤ 8; omega)
    refine ifFE (by simpa using hv4) ?_
    by_cases hv5 : v1 = 5
    · refine ifTE (decide_eq_true hv5) ?_
      obtain ⟨v5, w5, e5, a5, b5, k5⟩ := pickB_ok (by omega) k3 (many := L) (by omega) (by omega)
      obtain ⟨v6, w6, e6, a6, b6, k6⟩ := pickB_ok (by omega) k5 (many := 2) (by decide) (by decide)
      refine bindE e5 (bindE e6 (bindE (cat_ok (ys := [([(1 + v5)], (1 - (2 * v6)))]) (by rw [big]; show _ + 1 ≤ _; omega)) ⟨_, rfl, ?_, k6.mono (by omega)⟩))
      have g : Shw L 1 60 16 [([(1 + v5)], (1 - (2 * v6)))] := Shw.one (fun x hx => by rw [List.mem_singleton.mp hx]; exact ⟨by omega, by omega, by omega⟩) (by show 1 ≤ 60; decide) (by show 1 - 2 * v6 ≠ 0; omega) (by show -16 ≤ 1 - 2 * v6; omega) (by show 1 - 2 * v6 ≤ 16; omega)
      exact (hS.app g).num' (by rw [List.length_append]; show _ + 1 ≤ 8; omega)
    refine ifFE (by simpa using hv5) (bindE (cat_ok (by rw [big]; omega)) ⟨_, rfl, ?_, k3.mono (by omega)⟩)
    exact (tk.app dr).num' (by rw [List.length_append]; omega)
/-! ### written out -/
theorem times_len {n : Nat} {p : List Int × Int} (h : p.1.length ≤ n) (ht : -16 ≤ p.2 ∧ p.2 ≤ 16) : (timesW p.1 p.2).length ≤ 16 * n := by
  unfold timesW
  rw [rep_len]
  refine Nat.mul_le_mul (by omega) ?_
  split
  · exact h
  · rw [iv_len]; exact h
theorem lout_lp : ∀ (sh : Sh) (s : List Int), (∀ p ∈ sh, p.1.length ≤ 60 ∧ p.2 ≠ 0 ∧ -16 ≤ p.2 ∧ p.2 ≤ 16) → s.length + 960 * sh.length ≤ 100000 →
    lp (fun (s1 : (List Int)) (x2 : ((List Int) × Int)) => ((if (decide (0 < x2.2)) = true then some x2.1 else ((m_l_back x2.1).bind fun t6 => some t6)).bind fun t7 => (repT t7 (absI x2.2)).bind fun t8 => (catO (α := Int) s1 t8).bind fun t9 => some t9)) sh s = some (s ++ outW sh)
  | [], s, _, _ => by show some s = some (s ++ []); rw [List.append_nil]
  | p :: sh, s, h, hl => by
    obtain ⟨h1, h2, h3, h4⟩ := h p List.mem_cons_self
    rw [List.length_cons] at hl
    have ab : absI p.2 = (p.2.natAbs : Int) := by
      unfold absI
      split <;> omega
    have e1 : (if (decide (0 < p.2)) = true then some p.1 else ((m_l_back p.1).bind fun t6 => some t6)) = some (if 0 < p.2 then p.1 else iv p.1) := by
      by_cases hp : 0 < p.2
      · rw [if_pos (decide_eq_true hp), if_pos hp]
      · rw [if_neg (by simpa using hp), if_neg hp]
        exact bindS (back_ok' (by omega)) rfl
    have hw : (if 0 < p.2 then p.1 else iv p.1).length ≤ 60 := by
      split
      · exact h1
      · rw [iv_len]; exact h1
    have e2 : repT (if 0 < p.2 then p.1 else iv p.1) (absI p.2) = some (timesW p.1 p.2) := by
      rw [ab, rep_ok (by omega) (by omega) (by omega), Int.toNat_natCast]
      rfl
    have htl := times_len h1 ⟨h3, h4⟩
    refine bindS (bindS e1 (bindS e2 (bindS (cat_ok (by rw [big]; omega)) rfl))) ?_
    rw [lout_lp sh _ (fun q hq => h q (List.mem_cons_of_mem _ hq)) (by rw [List.length_append]; omega), List.append_assoc]
    rfl
theorem outW_len : ∀ {sh : Sh}, (∀ p ∈ sh, p.1.length ≤ 60 ∧ p.2 ≠ 0 ∧ -16 ≤ p.2 ∧ p.2 ≤ 16) → (outW sh).length ≤ 960 * sh.length
  | [], _ => Nat.zero_le _
  | p :: sh, h => by
    have h1 := h p List.mem_cons_self
    have h2 := outW_len fun q hq => h q (List.mem_cons_of_mem _ hq)
    have h3 := times_len h1.1 h1.2.2
    show (timesW p.1 p.2 ++ outW sh).length ≤ _
    rw [List.length_append, List.length_cons]
    omega
theorem Shw.all {L : Int} {m : Nat} {sh : Sh} (h : Shw L m 60 16 sh) : ∀ p ∈ sh, p.1.length ≤ 60 ∧ p.2 ≠ 0 ∧ -16 ≤ p.2 ∧ p.2 ≤ 16 := fun p hp => ⟨h.len p hp, h.tim p hp⟩
abbrev pl (sh : Sh) : List Int := red (outW sh)
theorem pl_len {L : Int} {sh : Sh} (h : Shw L 8 60 16 sh) : (outW sh).length ≤ 7680 ∧ (pl sh).length ≤ 7680 := by
  have h1 := outW_len (Shw.all h)
  have h2 := red_len (outW sh)
  have h3 := h.num
  show _ ∧ (red (outW sh)).length ≤ 7680
  omega
theorem lout_ok {L : Int} {sh : Sh} (h : Shw L 8 60 16 sh) : m_l_out sh = some (pl sh) := by
  have h3 := h.num
  have hl := (pl_len h).1
  unfold m_l_out
  exact bindS (lout_lp sh [] (Shw.all h) (by show 0 + _ ≤ _; omega)) (bindS (straight_ok (w := outW sh) (by rw [big]; omega)) rfl)
theorem cp_comm : ∀ u v : List Int, cp u v = cp v u
  | [], [] => rfl
  | [], _ :: _ => rfl
  | _ :: _, [] => rfl
  | x :: u, y :: v => by
    show (if x = y then cp u v + 1 else 0) = if y = x then cp v u + 1 else 0
    rw [cp_comm u v]
    by_cases h : x = y
    · rw [if_pos h, if_pos h.symm]
    · rw [if_neg h, if_neg fun z => h z.symm]
theorem unl_comm (u v : List Int) : unl u v = unl v u := by
  unfold unl
  rw [cp_comm u v]
  by_cases h : u = v
  · rw [if_pos h, if_pos h.symm]
  · rw [if_neg h, if_neg fun z => h z.symm]
theorem lunlike_ok {u v : List Int} (h1 : u.length ≤ 100000) (h2 : v.length ≤ 100000) : m_l_unlike u v = some (unl u v) := by
  unfold m_l_unlike unl
  by_cases h : u = v
  · rw [if_pos (decide_eq_true h), if_pos h]
  · rw [if_neg (by simpa using h), if_neg h]
    have em : minI (u.length : Int) (v.length : Int) = ((min u.length v.length : Nat) : Int) := by
      unfold minI
      split <;> omega
    rw [em]
    refine bindS (rngO_ok (by omega)) ?_
    have hlr : (range' 0 ((min u.length v.length : Nat) : Int)).length = min u.length v.length := by rw [rng_len]; omega
    have gi : ∀ (w : List Int) (i : Nat), i < w.length → idx w (i : Int) = some (w.getD i 0) ∧ w[i]? = some (w.getD i 0) := fun w i hi => ⟨idx_getD (by omega) (by omega), by rw [List.getD_eq_getElem?_getD, List.getElem?_eq_getElem hi]; rfl⟩
    rcases lpR_mix (f := fun (s2 : Unit) (place3 : Int) => (((idx u place3).bind fun t7 => (idx v place3).bind fun t8 => (if (!decide (t7 = t8)) = true then some (Step.ret (some place3)) else some (Step.go ()))) : Option (Step (Option Int) Unit)))
      (fun r : Option Int => r = some (cp u v : Int)) (xs := range' 0 ((min u.length v.length : Nat) : Int)) (fun i _ => ∀ j, j < i → u[j]? = v[j]? ∧ j < u.length) (fun i x st hx hP => by
        obtain ⟨rfl, hi⟩ := rng_at hx
        rw [Int.zero_add] at *
        obtain ⟨g1, g2⟩ := gi u i (by omega)
        obtain ⟨g3, g4⟩ := gi v i (by omega)
        by_cases he : u.getD i 0 = v.getD i 0
        · refine .inl ⟨(), bindS g1 (bindS g3 (if_neg (by rw [he]; simp))), fun j hj => ?_⟩
          by_cases hji : j = i
          · subst hji
            exact ⟨by rw [g2, g4, he], by omega⟩
          · exact hP j (by omega)
        · refine .inr ⟨_, bindS g1 (bindS g3 (if_pos (by rw [Bool.not_eq_true', decide_eq_false_iff_not]; exact he))), ?_⟩
          rw [cp_eq hP (.inr ⟨_, _, g2, g4, he⟩)]) (s0 := ()) (fun j hj => absurd hj (Nat.not_lt_zero _)) with ⟨s', e, hh⟩ | ⟨r, e, rfl⟩
    · refine bindS e ?_
      rw [hlr] at hh
      rw [cp_eq hh (.inl rfl)]
      rfl
    · exact bindS e rfl
/-! ### what the program tells -/
theorem step_ok {L x : Int} (h : Sok L x) : m_p_is_step x L = some true := by
  have a : 1 ≤ absI x ∧ absI x ≤ L := by
    obtain ⟨h1, h2, h3⟩ := h
    unfold absI
    split <;> constructor <;> omega
  unfold m_p_is_step m_p_is_integer
  simp [a.1, a.2]
theorem awalk_ok {L : Int} {w : List Int} (h : ∀ x ∈ w, Sok L x) (hn : w.length ≤ 10000) : m_p_is_a_walk w L = some true := by
  unfold m_p_is_a_walk
  rw [if_pos rfl, lcO_some (fun _ => true) (by rw [big]; omega) (fun x hx => by rw [step_ok (h x hx)]; rfl)]
  simp
theorem apart_ok {L : Int} {p : List Int × Int} (h : ∀ x ∈ p.1, Sok L x) (hn : p.1.length ≤ 60) (h0 : p.2 ≠ 0) (h1 : -16 ≤ p.2) (h2 : p.2 ≤ 16) : m_p_is_a_part p L = some true := by
  have a : 1 ≤ absI p.2 ∧ absI p.2 ≤ 1000000000000000000000000000000 := by
    unfold absI
    split <;> constructor <;> omega
  unfold m_p_is_a_part m_p_is_integer
  rw [awalk_ok h (by omega)]
  simp [a.1, a.2]
theorem ashort_ok {L : Int} {sh : Sh} (h : Shw L 8 60 16 sh) : m_p_is_a_short sh L = some true := by
  have hn := h.num
  unfold m_p_is_a_short
  rw [if_neg (by simp; omega), lcO_some (fun _ => true) (by rw [big]; omega) (fun p hp => by
    have ht := h.tim p hp
    rw [apart_ok (h.ok p hp) (h.len p hp) ht.1 ht.2.1 ht.2.2]
    rfl)]
  simp
theorem needs_ok {L : Int} {sh : Sh} (h : Shw L 8 60 16 sh) : m_p_need_short sh L = some () := by
  unfold m_p_need_short
  exact bindS (ashort_ok h) (if_neg (by simp))
theorem letters_ok {L : Int} (h1 : 1 ≤ L) (h4 : L ≤ 4) : m_p_need_letters L = some () := by
  unfold m_p_need_letters m_p_is_letters m_p_is_integer
  simp [h1, h4]
theorem need2_ok {L : Int} (h1 : 1 ≤ L) (h4 : L ≤ 4) {sh : Sh} (h : Shw L 8 60 16 sh) : m_p_need_letters_and_short L sh = some () := by
  unfold m_p_need_letters_and_short
  exact bindS (letters_ok h1 h4) (bindS (needs_ok h) rfl)
theorem isshort_ok {L : Int} (h1 : 1 ≤ L) (h4 : L ≤ 4) {sh : Sh} (h : Shw L 8 60 16 sh) : m_p_is_short L sh = some true := by
  unfold m_p_is_short
  exact bindS (letters_ok h1 h4) (bindS (ashort_ok h) rfl)
theorem list_ok {L : Int} {sh : Sh} (h : Shw L 8 60 16 sh) : ∃ r, m_p_straight_list sh = some r ∧ Lst 60 r ∧ r.length ≤ 24 ∧ denL r = pl sh := by
  have hn := h.num
  obtain ⟨r, e, k, q, f⟩ := straight_list_ok (by decide) (Shw.sho h) (by omega)
  exact ⟨r, e, k, by omega, f⟩
theorem length_ok {L : Int} (h1 : 1 ≤ L) (h4 : L ≤ 4) {sh : Sh} (h : Shw L 8 60 16 sh) : m_p_short_length L sh = some ((pl sh).length : Int) := by
  obtain ⟨r, e, k, q, f⟩ := list_ok h
  unfold m_p_short_length
  refine bindS (need2_ok h1 h4 h) (bindS e (bindS (steps_in_ok (l := r) k.ok (by omega)) ?_))
  rw [f]
theorem unlike_ok {L : Int} (h1 : 1 ≤ L) (h4 : L ≤ 4) {a b : Sh} (ha : Shw L 8 60 16 a) (hb : Shw L 8 60 16 b) : m_p_first_unlike L a b = some (unl (pl a) (pl b)) := by
  obtain ⟨r, e, k, q, f⟩ := list_ok ha
  obtain ⟨r2, e2, k2, q2, f2⟩ := list_ok hb
  unfold m_p_first_unlike
  refine bindS (need2_ok h1 h4 ha) (bindS (needs_ok hb) (bindS e (bindS e2 (bindS (parting_ok (by decide) k.ok k2.ok (by omega)) ?_))))
  rw [f, f2]
theorem same_ok {L : Int} (h1 : 1 ≤ L) (h4 : L ≤ 4) {a b : Sh} (ha : Shw L 8 60 16 a) (hb : Shw L 8 60 16 b) : m_p_same_walk L a b = some (unl (pl a) (pl b)).isNone := by
  unfold m_p_same_walk
  exact bindS (unlike_ok h1 h4 ha hb) rfl
theorem den_steps {s : Str3} (h : s.a ≠ []) (hc : 0 ≤ s.c) (hl : s.c ≤ 100000) : ((rngO 0 s.c).bind fun t12 => (lcO (β := Int) (fun (at_13 : Int) => ((m_p_step_of s at_13).bind fun t15 => some t15)) t12)) = some (den s) := by
  refine bindS (rngO_ok (by omega)) ((lcO_some (fun i : Int => pr s.a (s.b + i)) (by rw [rng_len, big]; omega) (fun x hx => bindS (step_of_ok (n := 0) h x) rfl)).trans (congrArg some ?_))
  unfold den dn range'
  rw [List.map_map, Int.sub_zero]
  exact List.map_congr_left fun i _ => by
    show pr s.a (s.b + (0 + (i : Int))) = pr s.a (s.b + (i : Int))
    rw [Int.zero_add]
theorem ext_lp : ∀ (l : List Str3) (s : List Int), (∀ t ∈ l, Stre 60 t) → s.length + (denL l).length ≤ 100000 → lp (fun (s7 : (List Int)) (stretch8 : (Tri (List Int) Int Int)) => ((rngO 0 stretch8.c).bind fun t12 => (lcO (β := Int) (fun (at_13 : Int) => ((m_p_step_of stretch8 at_13).bind fun t15 => some t15)) t12).bind fun t16 => (catO (α := Int) s7 t16).bind fun t17 => some t17)) l s = some (s ++ denL l)
  | [], s, _, _ => by show some s = some (s ++ []); rw [List.append_nil]
  | t :: l, s, h, hl => by
    have ht := h t List.mem_cons_self
    have hc := ht.c0
    rw [denL_cons, List.length_append, den_len] at hl
    have e1 := den_steps ht.ne (by omega) (by omega)
    unfold lp
    refine bindS (a := s ++ den t) ?_ ?_
    · have e2 : ((rngO 0 t.c).bind fun t12 => (lcO (β := Int) (fun (at_13 : Int) => ((m_p_step_of t at_13).bind fun t15 => some t15)) t12)).bind (fun t16 => (catO (α := Int) s t16).bind fun t17 => some t17) = some (s ++ den t) := bindS e1 (bindS (cat_ok (by rw [den_len, big]; omega)) rfl)
      rw [Option.bind_assoc] at e2
      exact e2
    · rw [ext_lp l _ (fun u hu => h u (List.mem_cons_of_mem _ hu)) (by rw [List.length_append, den_len]; omega), denL_cons, List.append_assoc]
theorem number_ok {x lo hi : Int} (h : lo ≤ x ∧ x ≤ hi) : m_p_need_number x lo hi = some () := by
  unfold m_p_need_number
  rw [if_neg]
  simp
  omega
theorem steps_ok {L : Int} (h1 : 1 ≤ L) (h4 : L ≤ 4) {sh : Sh} (h : Shw L 8 60 16 sh) {p c : Int} (p0 : 0 ≤ p) (p1 : p < (pl sh).length) (c0 : 1 ≤ c) (c1 : c ≤ 60) (c2 : p + c ≤ (pl sh).length) : m_p_short_steps L sh p c = some (cut (pl sh) (some p) (some (p + c))) := by
  obtain ⟨r, e, k, q, f⟩ := list_ok h
  have hl := (pl_len h).2
  obtain ⟨g, e2, g1, g2, g3⟩ := cut_out_ok (l := r) (b := p) (e := p + c) k.ok (by omega) p0 (by omega)
  have es := steps_in_ok (l := r) k.ok (by omega)
  rw [f] at es g3
  have mn : c ≤ minI 60 (((pl sh).length : Int) - p) := by
    unfold minI
    split <;> omega
  have gl : (denL g).length ≤ 100000 := by rw [g3, List.length_drop, List.length_take]; omega
  unfold m_p_short_steps
  refine bindS (need2_ok h1 h4 h) (bindS e (bindS es (bindS (number_ok (by omega)) (bindS (number_ok ⟨c0, mn⟩) (bindS e2 (bindS (ext_lp g [] g1 (by show 0 + _ ≤ _; omega)) ?_))))))
  rw [List.nil_append, g3, cut_mid _ p0 (by omega) (by omega) c2, List.drop_take]
/-! ### what is asked -/
theorem list_repr {w : List Int} (h : ∀ x ∈ w, x.natAbs ≤ 4) (hl : w.length ≤ 10000) : reprO (PyData.tuple (List.map PyData.int w)) = some (PyData.tuple (List.map PyData.int w)).shown :=
  (txt_tup (k := 0) (n := 21) (fun d hd => by
    obtain ⟨x, hx, rfl⟩ := List.mem_map.mp hd
    exact txt_int (k := 20) (by decide) (by decide) (by have := h x hx; omega))).repr (by decide) (by rw [List.length_map, big]; omega)
theorem int_repr {x : Int} (h : x.natAbs < 2 ^ 20) : reprO (PyData.int x) = some (PyData.int x).shown := (txt_int (k := 20) (by decide) (by decide) h).repr (by decide) (by rw [big]; decide)
theorem bool_repr (b : Bool) : reprO (PyData.bool b) = some (PyData.bool b).shown := Txt.repr (k := 0) (n := 10) ⟨by simp only [PyData.showable], by simp only [PyData.hasDict], by simp only [PyData.depth]; omega, by cases b <;> (simp only [PyData.shown]; decide)⟩ (by decide) (by rw [big]; decide)
theorem none_repr : reprO PyData.none = some PyData.none.shown := Txt.repr (k := 0) (n := 10) ⟨by simp only [PyData.showable], by simp only [PyData.hasDict], by simp only [PyData.depth]; omega, by simp only [PyData.shown]; decide⟩ (by decide) (by rw [big]; decide)
theorem opt_repr {o : Option Int} (h : ∀ x, o = some x → x.natAbs < 2 ^ 20) : reprO ((eO PyData.int) o) = some ((eO PyData.int) o).shown := by
  cases o with
  | none => exact none_repr
  | some x => exact int_repr (h x rfl)
theorem pl_sok {L : Int} {sh : Sh} (h : Shw L 8 60 16 sh) : ∀ x ∈ pl sh, Sok L x := by
  refine red_mem fun x hx => ?_
  have : ∀ (s : Sh), (∀ p ∈ s, ∀ x ∈ p.1, Sok L x) → ∀ x ∈ outW s, Sok L x := fun s => by
    induction s with
    | nil => exact fun _ _ z => nomatch z
    | cons p s ih =>
      intro hs
      refine app_sok (fun y hy => ?_) (ih fun q hq => hs q (List.mem_cons_of_mem _ hq))
      unfold timesW rep at hy
      have hy2 := flat_mem hy
      split at hy2
      · exact hs p List.mem_cons_self y hy2
      · exact iv_sok (hs p List.mem_cons_self) y hy2
  exact this sh h.ok x hx
theorem pair_ok {L : Int} (h1 : 1 ≤ L) (h4 : L ≤ 4) {a b : Sh} (ha : Shw L 8 60 16 a) (hb : Shw L 8 60 16 b) {o : Option Int} (ho : o = unl (pl a) (pl b)) : m_l_pair_right L a b o = some true := by
  have u1 := unlike_ok h1 h4 ha hb
  have u2 := unlike_ok h1 h4 hb ha
  have s1 := same_ok h1 h4 ha hb
  have s2 := same_ok h1 h4 hb ha
  rw [unl_comm (pl b)] at u2 s2
  have ho2 : ∀ x, o = some x → x.natAbs < 2 ^ 20 := fun x hx => by
    have hl := (pl_len ha).2
    have hc := (cp_le (pl a) (pl b)).1
    rw [ho] at hx
    unfold unl at hx
    split at hx
    · cases hx
    · cases hx
      rw [Int.natAbs_natCast]
      omega
  have hr := opt_repr ho2
  rw [← ho] at u1 u2 s1 s2
  unfold m_l_pair_right
  refine bindS u1 (bindS hr (bindS hr ((if_neg (by simp)).trans ?_)))
  cases o with
  | none => exact bindS s1 (bindS (bool_repr true) (bindS (bool_repr true) ((if_neg (by simp)).trans (bindS u2 (bindS hr (bindS none_repr ((if_neg (by simp)).trans (bindS s2 (bindS (bool_repr true) (bindS (bool_repr true) (congrArg some (decide_eq_true rfl)))))))))))) 
  | some x => exact bindS s1 (bindS (bool_repr false) (bindS (bool_repr false) ((if_neg (by simp)).trans (bindS u2 (bindS hr (bindS (int_repr (ho2 x rfl)) ((if_neg (by simp)).trans (bindS s2 (bindS (bool_repr false) (bindS (bool_repr false) (congrArg some (decide_eq_true rfl))))))))))))
theorem sright_ok {n : Nat} {L : Int} (hn : n + 1000 < 2 ^ 60) {w : List Int} (hw : WeB n w) (h1 : 1 ≤ L) (h4 : L ≤ 4) {sh : Sh} (h : Shw L 8 60 16 sh) (hp : 0 < (pl sh).length) : ∃ r, m_l_steps_right w L sh (pl sh) = some r ∧ (r.1 = true ∧ WeB (n + 10) r.2) := by
  have hl := (pl_len h).2
  have hok := pl_sok h
  unfold m_l_steps_right
  obtain ⟨v1, w1, e1, a1, b1, k1⟩ := pickB_ok (by omega) hw (many := ((pl sh).length : Int)) (by omega) (by omega)
  obtain ⟨v2, w2, e2, a2, b2, k2⟩ := pickB_ok (by omega) k1 (many := ((pl sh).length : Int)) (by omega) (by omega)
  refine bindE e1 (bindE e2 ?_)
  generalize hpl : pl sh = q at hp hl a1 b1 a2 b2 e1 e2 hok
  obtain ⟨s', e3, k3⟩ := lpR_goN (f := (fun (s3 : (List Int)) (place4 : Int) => (((m_l_pick s3 (minI 60 ((q.length : Int) - place4))).bind fun t8 => ((lpR (fun (s9 : Unit) (count10 : Int) => (((reprO (PyData.tuple (List.map PyData.int (cut q (some place4) (some (place4 + count10)))))).bind fun t14 => ((m_p_short_steps L sh place4 count10).bind fun t15 => (reprO (PyData.tuple (List.map PyData.int t15))).bind fun t16 => (if (!decide (t16 = t14)) = true then some (Step.ret (false, t8.2)) else ((m_p_short_steps L sh place4 count10).bind fun t17 => (reprO (PyData.tuple (List.map PyData.int t17))).bind fun t18 => (if (!decide (t18 = t14)) = true then some (Step.ret (false, t8.2)) else some (Step.go ())))))) : Option (Step (Bool × (List Int)) Unit))) ([1, (minI 60 ((q.length : Int) - place4)), (1 + t8.1)]) ()).bind fun f11o => Sum.elim (fun r20 => some (Step.ret r20)) (fun f11 => some (Step.go t8.2)) f11o)) : Option (Step (Bool × (List Int)) (List Int)))))
    (xs := [0, ((q.length : Int) - 1), v1, v2]) (fun i s => WeB (n + 2 + i) s) (fun i x s hx hs => by
      have hm := List.mem_of_getElem? hx
      have hi := (List.getElem?_eq_some_iff.mp hx).1
      have hx2 : 0 ≤ x ∧ x < q.length := by
        simp only [List.mem_cons, List.not_mem_nil, or_false] at hm
        omega
      have hi4 : i < 4 := hi
      have mn : minI 60 ((q.length : Int) - x) = min 60 ((q.length : Int) - x) := by
        unfold minI
        split <;> omega
      rw [mn]
      obtain ⟨v8, w8, e8, a8, b8, k8⟩ := pickB_ok (by omega) hs (many := min 60 ((q.length : Int) - x)) (by omega) (by omega)
      obtain ⟨s'', e9, _⟩ := lpR_go (f := (fun (s9 : Unit) (count10 : Int) => (((reprO (PyData.tuple (List.map PyData.int (cut q (some x) (some (x + count10)))))).bind fun t14 => ((m_p_short_steps L sh x count10).bind fun t15 => (reprO (PyData.tuple (List.map PyData.int t15))).bind fun t16 => (if (!decide (t16 = t14)) = true then some (Step.ret (false, w8)) else ((m_p_short_steps L sh x count10).bind fun t17 => (reprO (PyData.tuple (List.map PyData.int t17))).bind fun t18 => (if (!decide (t18 = t14)) = true then some (Step.ret (false, w8)) else some (Step.go ())))))) : Option (Step (Bool × (List Int)) Unit)))) (fun _ => True) (xs := [1, min 60 ((q.length : Int) - x), (1 + v8)]) (fun c hc u _ => by
        have hc2 : 1 ≤ c ∧ c ≤ min 60 ((q.length : Int) - x) := by
          simp only [List.mem_cons, List.not_mem_nil, or_false] at hc
          omega
        have es := steps_ok h1 h4 h (p := x) (c := c) hx2.1 (by rw [hpl]; omega) hc2.1 (by omega) (by rw [hpl]; omega)
        rw [hpl] at es
        have er := list_repr (w := cut q (some x) (some (x + c))) (fun y hy => by
          have := hok y (by
            rw [cut_mid _ (by omega) (by omega) (by omega) (by omega)] at hy
            exact List.mem_of_mem_drop (List.mem_of_mem_take hy))
          obtain ⟨z1, z2, z3⟩ := this
          omega) (by
          rw [cut_mid _ (by omega) (by omega) (by omega) (by omega), List.length_take, List.length_drop]
          omega)
        exact ⟨(), bindS er (bindS es (bindS er ((if_neg (by simp)).trans (bindS es (bindS er (if_neg (by simp))))))), trivial⟩) (s0 := ()) trivial
      exact ⟨w8, bindS e8 (bindS e9 rfl), k8⟩) (s0 := w2) k2
  exact bindE e3 ⟨_, rfl, rfl, k3.mono (by show n + 2 + 4 ≤ n + 10; omega)⟩
abbrev G (L : Int) (sh : Sh) : Prop := Shw L 8 60 16 sh
theorem draw2_ok {n : Nat} {L : Int} (hn : n + 1000000 < 2 ^ 60) {w : List Int} (h : WeB n w) (h1 : 1 ≤ L) (h4 : L ≤ 4) : ∃ r, (m_l_pick w 4).bind (fun t16 => (if (decide (t16.1 = 0)) = true then ((m_l_long t16.2 L).bind fun t17 => some (t17.1, t17.2)) else ((m_l_short t16.2 L 6).bind fun t18 => some (t18.1, t18.2)))) = some r ∧ (Shw L 6 60 12 r.1 ∧ WeB (n + 150000) r.2) := by
  obtain ⟨v1, w1, e1, a1, b1, k1⟩ := pickB_ok (by omega) h (many := 4) (by decide) (by decide)
  refine bindE e1 ?_
  by_cases hv : v1 = 0
  · obtain ⟨sh, w2, e2, g2, k2⟩ := mlong_ok (by omega) k1 h1 h4
    exact ifTE (decide_eq_true hv) (bindE e2 ⟨_, rfl, g2.mono (by decide) (by decide) (by decide), k2.mono (by omega)⟩)
  · obtain ⟨sh, w2, e2, g2, k2⟩ := mshort_ok (by omega) k1 h1 h4
    exact ifFE (by simpa using hv) (bindE e2 ⟨_, rfl, g2.mono (by decide) (by decide) (by decide), k2.mono (by omega)⟩)
theorem draws_ok {L : Int} {w : List Int} (h : WeB 1 w) (h1 : 1 ≤ L) (h4 : L ≤ 4) : ∃ r, lp (fun (s11 : ((List (List ((List Int) × Int))) × (List Int))) (turn12 : Int) => ((m_l_pick s11.2 4).bind fun t16 => (if (decide (t16.1 = 0)) = true then ((m_l_long t16.2 L).bind fun t17 => some (t17.1, t17.2)) else ((m_l_short t16.2 L 6).bind fun t18 => some (t18.1, t18.2))).bind fun t19 => (appO s11.1 t19.1).bind fun t20 => ((idx t20 (-1)).bind fun t21 => (m_l_beside t19.2 L t21).bind fun t22 => (appO t20 t22.1).bind fun t23 => some (t23, t22.2)))) (range' 0 2) (([] : (List (List ((List Int) × Int)))), w) = some r ∧ ((∀ sh ∈ r.1, G L sh) ∧ r.1.length = 4 ∧ WeB 2000000 r.2) := by
  obtain ⟨r, e, k⟩ := lp_goN (f := (fun (s11 : ((List (List ((List Int) × Int))) × (List Int))) (turn12 : Int) => ((m_l_pick s11.2 4).bind fun t16 => (if (decide (t16.1 = 0)) = true then ((m_l_long t16.2 L).bind fun t17 => some (t17.1, t17.2)) else ((m_l_short t16.2 L 6).bind fun t18 => some (t18.1, t18.2))).bind fun t19 => (appO s11.1 t19.1).bind fun t20 => ((idx t20 (-1)).bind fun t21 => (m_l_beside t19.2 L t21).bind fun t22 => (appO t20 t22.1).bind fun t23 => some (t23, t22.2))))) (xs := range' 0 2) (fun i s => (∀ sh ∈ s.1, G L sh) ∧ s.1.length = 2 * i ∧ WeB (1 + 800000 * i) s.2) (fun i x s hx hs => by
    have hi : i < 2 := (List.getElem?_eq_some_iff.mp hx).1
    obtain ⟨g1, g2, g3⟩ := hs
    obtain ⟨⟨sh, w1⟩, e1, q1, q2⟩ := draw2_ok (by omega) g3 h1 h4
    obtain ⟨⟨sh2, w2⟩, e2, p1, p2⟩ := mbeside_ok (by omega) q2 h1 h4 q1
    have e3 : appO s.1 sh = some (s.1 ++ [sh]) := app_ok (by rw [g2, big]; omega)
    have e4 : idx (s.1 ++ [sh]) (-1) = some sh := idx_last (by simp)
    have e5 : appO (s.1 ++ [sh]) sh2 = some (s.1 ++ [sh] ++ [sh2]) := app_ok (by rw [List.length_append, g2, big]; show 2 * i + 1 < _; omega)
    refine ⟨(s.1 ++ [sh] ++ [sh2], w2), ?_, fun t ht => ?_, by rw [List.length_append, List.length_append, g2]; show 2 * i + 1 + 1 = _; omega, p2.mono (by omega)⟩
    · have := bindS (k := fun t19 => (appO s.1 t19.1).bind fun t20 => ((idx t20 (-1)).bind fun t21 => (m_l_beside t19.2 L t21).bind fun t22 => (appO t20 t22.1).bind fun t23 => some (t23, t22.2))) (r := some (s.1 ++ [sh] ++ [sh2], w2)) e1 (bindS e3 (bindS e4 (bindS e2 (bindS e5 rfl))))
      rw [Option.bind_assoc] at this
      exact this
    · rcases List.mem_append.mp ht with ht | ht
      · rcases List.mem_append.mp ht with ht | ht
        · exact g1 t ht
        · exact List.mem_singleton.mp ht ▸ q1.mono (by decide) (by decide) (by decide)
      · exact List.mem_singleton.mp ht ▸ p1) (s0 := ([], w)) ⟨(fun _ z => nomatch z), rfl, h⟩
  exact ⟨r, e, k.1, k.2.1, k.2.2.mono (by show 1 + 800000 * 2 ≤ _; decide)⟩
theorem turn_ok {ns : List Int} (hl : ns.length ≤ 63) {k_3 : Int} (hk : 0 ≤ k_3) : ∃ r, (((m_l_well ns k_3).bind fun t7 => ((m_l_pick t7 4).bind fun t8 => ((rngO 0 2).bind fun t10 => ((lp (fun (s11 : ((List (List ((List Int) × Int))) × (List Int))) (turn12 : Int) => ((m_l_pick s11.2 4).bind fun t16 => (if (decide (t16.1 = 0)) = true then ((m_l_long t16.2 (1 + t8.1)).bind fun t17 => some (t17.1, t17.2)) else ((m_l_short t16.2 (1 + t8.1) 6).bind fun t18 => some (t18.1, t18.2))).bind fun t19 => (appO s11.1 t19.1).bind fun t20 => ((idx t20 (-1)).bind fun t21 => (m_l_beside t19.2 (1 + t8.1) t21).bind fun t22 => (appO t20 t22.1).bind fun t23 => some (t23, t22.2)))) t10 (([] : (List (List ((List Int) × Int)))), t8.2)).bind fun f13 => ((lcO (β := (List Int)) (fun (short_here25 : (List ((List Int) × Int))) => ((m_l_out short_here25).bind fun t27 => some t27)) f13.1).bind fun t28 => ((lpR (fun (s29 : (List Int)) (x30 : (Int × (List ((List Int) × Int)))) => (((idx t28 x30.1).bind fun t34 => ((m_p_is_short (1 + t8.1) x30.2).bind fun t35 => (if (!decide (t35 = true)) = true then some true else ((m_p_is_short (1 + t8.1) x30.2).bind fun t36 => some (!decide (t36 = true)))).bind fun t37 => (if t37 = true then some (Step.ret false) else ((m_p_short_length (1 + t8.1) x30.2).bind fun t38 => (reprO (PyData.int t38)).bind fun t39 => (reprO (PyData.int (t34.length : Int))).bind fun t40 => (if (!decide (t39 = t40)) = true then some (Step.ret false) else ((if (decide (0 < (t34.length : Int))) = true then ((m_l_steps_right s29 (1 + t8.1) x30.2 t34).bind fun t41 => some ((!t41.1), t41.2)) else some (false, s29)).bind fun t42 => (if t42.1 = true then some (Step.ret false) else ((m_l_pair_right (1 + t8.1) x30.2 x30.2 none).bind fun t43 => (if (!t43) = true then some (Step.ret false) else ((idx f13.1 (maxI 0 (x30.1 - 1))).bind fun t44 => (idx t28 (maxI 0 (x30.1 - 1))).bind fun t45 => (m_l_unlike t45 t34).bind fun t46 => (m_l_pair_right (1 + t8.1) t44 x30.2 t46).bind fun t47 => (if (!t47) = true then some (Step.ret false) else some (Step.go t42.2)))))))))))) : Option (Step Bool (List Int)))) (enum f13.1) f13.2).bind fun f31o => Sum.elim (fun r60 => some (Step.ret r60)) (fun f31 => ((lpR (fun (s49 : Unit) (x50 : ((List ((List Int) × Int)) × (List Int))) => (((m_p_short_length (1 + t8.1) x50.1).bind fun t54 => (reprO (PyData.int t54)).bind fun t55 => (reprO (PyData.int (x50.2.length : Int))).bind fun t56 => (if (!decide (t55 = t56)) = true then some (Step.ret false) else some (Step.go ()))) : Option (Step Bool Unit))) (List.zip f13.1 t28) ()).bind fun f51o => Sum.elim (fun r58 => some (Step.ret r58)) (fun f51 => some (Step.go ())) f51o)) f31o)))))) : Option (Step Bool Unit)) = some r ∧ r = Step.go () := by
  obtain ⟨w0, e0, k0⟩ := wellB_ok (ns := ns) (by rw [big]; omega) hk
  refine bindE e0 ?_
  obtain ⟨v1, w1, e1, a1, b1, k1⟩ := pickB_ok (by decide) k0 (many := 4) (by decide) (by decide)
  refine bindE e1 ?_
  show ∃ r, ((rngO 0 2).bind _) = some r ∧ _
  have hL1 : 1 ≤ 1 + v1 := by omega
  have hL4 : 1 + v1 ≤ 4 := by omega
  generalize hLL : 1 + v1 = L at hL1 hL4
  obtain ⟨⟨shs, w2⟩, e2, g1, g2, k2⟩ := draws_ok k1 hL1 hL4
  refine bindE (rngO_ok (by decide)) ?_
  simp only [hLL]
  refine bindE e2 (bindE (lcO_some pl (by rw [g2, big]; decide) (fun sh hsh => bindS (lout_ok (g1 sh hsh)) rfl)) ?_)
  have get : ∀ i : Nat, i < 4 → ∃ sh, shs[i]? = some sh ∧ idx shs (i : Int) = some sh ∧ idx (shs.map pl) (i : Int) = some (pl sh) ∧ G L sh := fun i hi => by
    have hlt : i < shs.length := by
      have : shs.length = 4 := g2
      omega
    refine ⟨shs[i], List.getElem?_eq_getElem hlt, idx_of (by omega) (by rw [Int.toNat_natCast]; exact List.getElem?_eq_getElem hlt), idx_of (by omega) (by rw [Int.toNat_natCast, List.getElem?_map, List.getElem?_eq_getElem hlt]; rfl), g1 _ (List.getElem_mem hlt)⟩
  have inr : ∀ sh, G L sh → reprO (PyData.int ((pl sh).length : Int)) = some (PyData.int ((pl sh).length : Int)).shown := fun sh hs => int_repr (by have := (pl_len hs).2; rw [Int.natAbs_natCast]; omega)
  obtain ⟨s', e3, k3⟩ := lpR_goN (f := (fun (s29 : (List Int)) (x30 : (Int × (List ((List Int) × Int)))) => (((idx (shs.map pl) x30.1).bind fun t34 => ((m_p_is_short L x30.2).bind fun t35 => (if (!decide (t35 = true)) = true then some true else ((m_p_is_short L x30.2).bind fun t36 => some (!decide (t36 = true)))).bind fun t37 => (if t37 = true then some (Step.ret false) else ((m_p_short_length L x30.2).bind fun t38 => (reprO (PyData.int t38)).bind fun t39 => (reprO (PyData.int (t34.length : Int))).bind fun t40 => (if (!decide (t39 = t40)) = true then some (Step.ret false) else ((if (decide (0 < (t34.length : Int))) = true then ((m_l_steps_right s29 L x30.2 t34).bind fun t41 => some ((!t41.1), t41.2)) else some (false, s29)).bind fun t42 => (if t42.1 = true then some (Step.ret false) else ((m_l_pair_right L x30.2 x30.2 none).bind fun t43 => (if (!t43) = true then some (Step.ret false) else ((idx shs (maxI 0 (x30.1 - 1))).bind fun t44 => (idx (shs.map pl) (maxI 0 (x30.1 - 1))).bind fun t45 => (m_l_unlike t45 t34).bind fun t46 => (m_l_pair_right L t44 x30.2 t46).bind fun t47 => (if (!t47) = true then some (Step.ret false) else some (Step.go t42.2)))))))))))) : Option (Step Bool (List Int)))))
    (xs := enum shs) (fun i s => WeB (2000000 + 10 * i) s) (fun i x s hx hs => by
      obtain ⟨h1, h2⟩ := enum_get hx
      have hi : i < 4 := by
        have := (List.getElem?_eq_some_iff.mp h2).1
        have h4 : shs.length = 4 := g2
        omega
      obtain ⟨sh, q1, q2, q3, q4⟩ := get i hi
      have hsh : x.2 = sh := Option.some.inj (h2.symm.trans q1)
      obtain ⟨at_, xx⟩ := x
      have h1' : at_ = (i : Int) := h1
      have hsh' : xx = sh := hsh
      subst h1'
      subst hsh'
      have mx : maxI 0 ((i : Int) - 1) = ((i - 1 : Nat) : Int) := by
        unfold maxI
        split <;> omega
      obtain ⟨sh2, r1, r2, r3, r4⟩ := get (i - 1) (by omega)
      obtain ⟨w', ew, kw⟩ : ∃ w', (if (decide (0 < ((pl xx).length : Int))) = true then ((m_l_steps_right s L xx (pl xx)).bind fun t41 => some ((!t41.1), t41.2)) else some (false, s)) = some (false, w') ∧ WeB (2000000 + 10 * (i + 1)) w' := by
        by_cases hp : 0 < (pl xx).length
        · obtain ⟨⟨t, w'⟩, e, ht, kk⟩ := sright_ok (by omega) hs hL1 hL4 q4 hp
          have ht' : t = true := ht
          subst ht'
          exact ⟨w', (if_pos (decide_eq_true (by omega))).trans (bindS e rfl), kk⟩
        · exact ⟨s, if_neg (by simp only [decide_eq_true_eq]; omega), hs.mono (by omega)⟩
      refine ⟨w', bindS q3 ?_, kw⟩
      refine bindS (isshort_ok hL1 hL4 q4) (bindS (a := false) ((if_neg (by simp)).trans (bindS (isshort_ok hL1 hL4 q4) rfl)) ((if_neg (by simp)).trans ?_))
      refine bindS (length_ok hL1 hL4 q4) (bindS (inr _ q4) (bindS (inr _ q4) ((if_neg (by simp)).trans (bindS ew ((if_neg (by simp)).trans ?_)))))
      refine bindS (pair_ok hL1 hL4 q4 q4 (by unfold unl; rw [if_pos rfl])) ((if_neg (by simp)).trans ?_)
      show ((idx shs (maxI 0 ((i : Int) - 1))).bind fun t44 => (idx (shs.map pl) (maxI 0 ((i : Int) - 1))).bind _) = _
      rw [mx]
      have l1 := (pl_len r4).2
      have l2 := (pl_len q4).2
      exact bindS r2 (bindS r3 (bindS (lunlike_ok (by omega) (by omega)) (bindS (pair_ok hL1 hL4 r4 q4 rfl) (if_neg (by simp))))) ) (s0 := w2) k2
  refine bindE e3 ?_
  obtain ⟨s'', e4, _⟩ := lpR_go (f := (fun (s49 : Unit) (x50 : ((List ((List Int) × Int)) × (List Int))) => (((m_p_short_length L x50.1).bind fun t54 => (reprO (PyData.int t54)).bind fun t55 => (reprO (PyData.int (x50.2.length : Int))).bind fun t56 => (if (!decide (t55 = t56)) = true then some (Step.ret false) else some (Step.go ()))) : Option (Step Bool Unit)))) (fun _ => True) (xs := List.zip shs (shs.map pl)) (fun x hx s _ => by
    obtain ⟨i, hi⟩ := List.mem_iff_getElem?.mp hx
    obtain ⟨h1, h2⟩ := List.getElem?_zip_eq_some.mp hi
    rw [List.getElem?_map, h1] at h2
    obtain ⟨a, b⟩ := x
    have hb : pl a = b := Option.some.inj h2
    subst hb
    have ga := g1 a (List.mem_of_getElem? h1)
    exact ⟨(), bindS (length_ok hL1 hL4 ga) (bindS (inr _ ga) (bindS (inr _ ga) (if_neg (by simp)))), trivial⟩) (s0 := ()) trivial
  exact bindE e4 ⟨_, rfl, rfl⟩
theorem law_true : ∀ ns : List Int, ns.length ≤ 63 → m_l_law ns = some true := fun ns hl => by
  unfold m_l_law
  have hb : 1 ≤ maxI 1 (minI 3 (ns.length : Int)) ∧ maxI 1 (minI 3 (ns.length : Int)) ≤ 3 := by
    unfold maxI minI
    constructor <;> (repeat' split) <;> omega
  refine bindS (rngO_ok (by omega)) ?_
  refine bindS (a := .inr ()) ?_ rfl
  generalize hf : (fun (s2 : Unit) (k_3 : Int) => _) = f
  obtain ⟨s, e, _⟩ := lpR_go (f := f) (fun _ => True) (xs := range' 0 (maxI 1 (minI 3 (ns.length : Int)))) (fun k hk s _ => by
    obtain ⟨r, e, rfl⟩ := turn_ok hl (mem_rng hk).1
    rw [← hf]
    exact ⟨(), e, trivial⟩) (s0 := ()) trivial
  exact e
end L26
namespace L26
open PySem PySem.Spec PyProof.Rows L2 Z
theorem tops {l : PySem.W.OpenLaw} {w : World} {K : PySem.W.Frag} {h : Heap} {mg : Str → Option Value} {fa f0 f1 f2 f3 f4 f5 f6 f7 f8 f9 f10 f11 f12 f13 f14 f15 f16 f17 f18 f19 f20 f21 f22 f23 f24 f25 f26 f27 f28 f29 f30 f31 f32 f33 f34 f35 f36 f37 f38 f39 f40 f41 f42 : Addr} (IK : K.In h) (IG : h.Ns mainGlobals mg) (hfa : mg "law" = some (.ref fa))
    {od0 od1 od2 od3 od4 od5 od6 od7 od8 od9 od10 od11 od12 od13 od14 od15 od16 od17 od18 od19 od20 od21 od22 od23 od24 od25 od26 od27 od28 od29 od30 od31 od32 od33 od34 od35 od36 od37 od38 od39 od40 od41 od42 an0 an1 an2 an3 an4 an5 an6 an7 an8 an9 an10 an11 an12 an13 an14 an15 an16 an17 an18 an19 an20 an21 an22 an23 an24 an25 an26 an27 an28 an29 an30 an31 an32 an33 an34 an35 an36 an37 an38 an39 an40 an41 an42 : Option Addr} {sl0 sl1 sl2 sl3 sl4 sl5 sl6 sl7 sl8 sl9 sl10 sl11 sl12 sl13 sl14 sl15 sl16 sl17 sl18 sl19 sl20 sl21 sl22 sl23 sl24 sl25 sl26 sl27 sl28 sl29 sl30 sl31 sl32 sl33 sl34 sl35 sl36 sl37 sl38 sl39 sl40 sl41 sl42 : Array (Option Value)} {oc0 oc1 oc2 oc3 oc4 oc5 oc6 oc7 oc8 oc9 oc10 oc11 oc12 oc13 oc14 oc15 oc16 oc17 oc18 oc19 oc20 oc21 oc22 oc23 oc24 oc25 oc26 oc27 oc28 oc29 oc30 oc31 oc32 oc33 oc34 oc35 oc36 oc37 oc38 oc39 oc40 oc41 oc42 kV0 kV1 kV2 kV3 kV4 kV5 kV6 kV7 kV8 kV9 kV10 kV11 kV12 kV13 kV14 kV15 kV16 kV17 kV18 kV19 kV20 kV21 kV22 kV23 kV24 kV25 kV26 kV27 kV28 kV29 kV30 kV31 kV32 kV33 kV34 kV35 kV36 kV37 kV38 kV39 kV40 kV41 kV42 dc0 dc1 dc2 dc3 dc4 dc5 dc6 dc7 dc8 dc9 dc10 dc11 dc12 dc13 dc14 dc15 dc16 dc17 dc18 dc19 dc20 dc21 dc22 dc23 dc24 dc25 dc26 dc27 dc28 dc29 dc30 dc31 dc32 dc33 dc34 dc35 dc36 dc37 dc38 dc39 dc40 dc41 dc42 pm0 pm1 pm2 pm3 pm4 pm5 pm6 pm7 pm8 pm9 pm10 pm11 pm12 pm13 pm14 pm15 pm16 pm17 pm18 pm19 pm20 pm21 pm22 pm23 pm24 pm25 pm26 pm27 pm28 pm29 pm30 pm31 pm32 pm33 pm34 pm35 pm36 pm37 pm38 pm39 pm40 pm41 pm42 cd0 cd1 cd2 cd3 cd4 cd5 cd6 cd7 cd8 cd9 cd10 cd11 cd12 cd13 cd14 cd15 cd16 cd17 cd18 cd19 cd20 cd21 cd22 cd23 cd24 cd25 cd26 cd27 cd28 cd29 cd30 cd31 cd32 cd33 cd34 cd35 cd36 cd37 cd38 cd39 cd40 cd41 cd42 ct0 ct1 ct2 ct3 ct4 ct5 ct6 ct7 ct8 ct9 ct10 ct11 ct12 ct13 ct14 ct15 ct16 ct17 ct18 ct19 ct20 ct21 ct22 ct23 ct24 ct25 ct26 ct27 ct28 ct29 ct30 ct31 ct32 ct33 ct34 ct35 ct36 ct37 ct38 ct39 ct40 ct41 ct42 : Value}
    (a0 : PySem.W.nsIn K mainGlobals "straightened" = some (some (.ref f0)))
    (b0 : K.lookup f0 = some ⟨oc0, od0, .func (PySem.W.fnOf "straightened" "straightened" (defArgs s_p_straightened) (defBody s_p_straightened) (defScope s_p_straightened) .none kV0 dc0 pm0 an0 cd0 ct0), sl0⟩)
    (c0 : PySem.W.codeIn K cd0 "straightened" = true) (d0 : PySem.W.keepIn K (.ref f0) = true)
    (a1 : PySem.W.nsIn K mainGlobals "turned_back" = some (some (.ref f1)))
    (b1 : K.lookup f1 = some ⟨oc1, od1, .func (PySem.W.fnOf "turned_back" "turned_back" (defArgs s_p_turned_back) (defBody s_p_turned_back) (defScope s_p_turned_back) .none kV1 dc1 pm1 an1 cd1 ct1), sl1⟩)
    (c1 : PySem.W.codeIn K cd1 "turned_back" = true) (d1 : PySem.W.keepIn K (.ref f1) = true)
    (a2 : PySem.W.nsIn K mainGlobals "is_integer" = some (some (.ref f2)))
    (b2 : K.lookup f2 = some ⟨oc2, od2, .func (PySem.W.fnOf "is_integer" "is_integer" (defArgs s_p_is_integer) (defBody s_p_is_integer) (defScope s_p_is_integer) .none kV2 dc2 pm2 an2 cd2 ct2), sl2⟩)
    (c2 : PySem.W.codeIn K cd2 "is_integer" = true) (d2 : PySem.W.keepIn K (.ref f2) = true)
    (a3 : PySem.W.nsIn K mainGlobals "is_letters" = some (some (.ref f3)))
    (b3 : K.lookup f3 = some ⟨oc3, od3, .func (PySem.W.fnOf "is_letters" "is_letters" (defArgs s_p_is_letters) (defBody s_p_is_letters) (defScope s_p_is_letters) .none kV3 dc3 pm3 an3 cd3 ct3), sl3⟩)
    (c3 : PySem.W.codeIn K cd3 "is_letters" = true) (d3 : PySem.W.keepIn K (.ref f3) = true)
    (a4 : PySem.W.nsIn K mainGlobals "is_step" = some (some (.ref f4)))
    (b4 : K.lookup f4 = some ⟨oc4, od4, .func (PySem.W.fnOf "is_step" "is_step" (defArgs s_p_is_step) (defBody s_p_is_step) (defScope s_p_is_step) .none kV4 dc4 pm4 an4 cd4 ct4), sl4⟩)
    (c4 : PySem.W.codeIn K cd4 "is_step" = true) (d4 : PySem.W.keepIn K (.ref f4) = true)
    (a5 : PySem.W.nsIn K mainGlobals "is_a_walk" = some (some (.ref f5)))
    (b5 : K.lookup f5 = some ⟨oc5, od5, .func (PySem.W.fnOf "is_a_walk" "is_a_walk" (defArgs s_p_is_a_walk) (defBody s_p_is_a_walk) (defScope s_p_is_a_walk) .none kV5 dc5 pm5 an5 cd5 ct5), sl5⟩)
    (c5 : PySem.W.codeIn K cd5 "is_a_walk" = true) (d5 : PySem.W.keepIn K (.ref f5) = true)
    (a6 : PySem.W.nsIn K mainGlobals "need_letters" = some (some (.ref f6)))
    (b6 : K.lookup f6 = some ⟨oc6, od6, .func (PySem.W.fnOf "need_letters" "need_letters" (defArgs s_p_need_letters) (defBody s_p_need_letters) (defScope s_p_need_letters) .none kV6 dc6 pm6 an6 cd6 ct6), sl6⟩)
    (c6 : PySem.W.codeIn K cd6 "need_letters" = true) (d6 : PySem.W.keepIn K (.ref f6) = true)
    (a7 : PySem.W.nsIn K mainGlobals "need_number" = some (some (.ref f7)))
    (b7 : K.lookup f7 = some ⟨oc7, od7, .func (PySem.W.fnOf "need_number" "need_number" (defArgs s_p_need_number) (defBody s_p_need_number) (defScope s_p_need_number) .none kV7 dc7 pm7 an7 cd7 ct7), sl7⟩)
    (c7 : PySem.W.codeIn K cd7 "need_number" = true) (d7 : PySem.W.keepIn K (.ref f7) = true)
    (a8 : PySem.W.nsIn K mainGlobals "step_of" = some (some (.ref f8)))
    (b8 : K.lookup f8 = some ⟨oc8, od8, .func (PySem.W.fnOf "step_of" "step_of" (defArgs s_p_step_of) (defBody s_p_step_of) (defScope s_p_step_of) .none kV8 dc8 pm8 an8 cd8 ct8), sl8⟩)
    (c8 : PySem.W.codeIn K cd8 "step_of" = true) (d8 : PySem.W.keepIn K (.ref f8) = true)
    (a9 : PySem.W.nsIn K mainGlobals "first_of" = some (some (.ref f9)))
    (b9 : K.lookup f9 = some ⟨oc9, od9, .func (PySem.W.fnOf "first_of" "first_of" (defArgs s_p_first_of) (defBody s_p_first_of) (defScope s_p_first_of) .none kV9 dc9 pm9 an9 cd9 ct9), sl9⟩)
    (c9 : PySem.W.codeIn K cd9 "first_of" = true) (d9 : PySem.W.keepIn K (.ref f9) = true)
    (a10 : PySem.W.nsIn K mainGlobals "rest_of" = some (some (.ref f10)))
    (b10 : K.lookup f10 = some ⟨oc10, od10, .func (PySem.W.fnOf "rest_of" "rest_of" (defArgs s_p_rest_of) (defBody s_p_rest_of) (defScope s_p_rest_of) .none kV10 dc10 pm10 an10 cd10 ct10), sl10⟩)
    (c10 : PySem.W.codeIn K cd10 "rest_of" = true) (d10 : PySem.W.keepIn K (.ref f10) = true)
    (a11 : PySem.W.nsIn K mainGlobals "back_of" = some (some (.ref f11)))
    (b11 : K.lookup f11 = some ⟨oc11, od11, .func (PySem.W.fnOf "back_of" "back_of" (defArgs s_p_back_of) (defBody s_p_back_of) (defScope s_p_back_of) .none kV11 dc11 pm11 an11 cd11 ct11), sl11⟩)
    (c11 : PySem.W.codeIn K cd11 "back_of" = true) (d11 : PySem.W.keepIn K (.ref f11) = true)
    (a12 : PySem.W.nsIn K mainGlobals "common_beginning" = some (some (.ref f12)))
    (b12 : K.lookup f12 = some ⟨oc12, od12, .func (PySem.W.fnOf "common_beginning" "common_beginning" (defArgs s_p_common_beginning) (defBody s_p_common_beginning) (defScope s_p_common_beginning) .none kV12 dc12 pm12 an12 cd12 ct12), sl12⟩)
    (c12 : PySem.W.codeIn K cd12 "common_beginning" = true) (d12 : PySem.W.keepIn K (.ref f12) = true)
    (a13 : PySem.W.nsIn K mainGlobals "parted" = some (some (.ref f13)))
    (b13 : K.lookup f13 = some ⟨oc13, od13, .func (PySem.W.fnOf "parted" "parted" (defArgs s_p_parted) (defBody s_p_parted) (defScope s_p_parted) .none kV13 dc13 pm13 an13 cd13 ct13), sl13⟩)
    (c13 : PySem.W.codeIn K cd13 "parted" = true) (d13 : PySem.W.keepIn K (.ref f13) = true)
    (a14 : PySem.W.nsIn K mainGlobals "stretches_of" = some (some (.ref f14)))
    (b14 : K.lookup f14 = some ⟨oc14, od14, .func (PySem.W.fnOf "stretches_of" "stretches_of" (defArgs s_p_stretches_of) (defBody s_p_stretches_of) (defScope s_p_stretches_of) .none kV14 dc14 pm14 an14 cd14 ct14), sl14⟩)
    (c14 : PySem.W.codeIn K cd14 "stretches_of" = true) (d14 : PySem.W.keepIn K (.ref f14) = true)
    (a15 : PySem.W.nsIn K mainGlobals "lay" = some (some (.ref f15)))
    (b15 : K.lookup f15 = some ⟨oc15, od15, .func (PySem.W.fnOf "lay" "lay" (defArgs s_p_lay) (defBody s_p_lay) (defScope s_p_lay) .none kV15 dc15 pm15 an15 cd15 ct15), sl15⟩)
    (c15 : PySem.W.codeIn K cd15 "lay" = true) (d15 : PySem.W.keepIn K (.ref f15) = true)
    (a16 : PySem.W.nsIn K mainGlobals "straight_list" = some (some (.ref f16)))
    (b16 : K.lookup f16 = some ⟨oc16, od16, .func (PySem.W.fnOf "straight_list" "straight_list" (defArgs s_p_straight_list) (defBody s_p_straight_list) (defScope s_p_straight_list) .none kV16 dc16 pm16 an16 cd16 ct16), sl16⟩)
    (c16 : PySem.W.codeIn K cd16 "straight_list" = true) (d16 : PySem.W.keepIn K (.ref f16) = true)
    (a17 : PySem.W.nsIn K mainGlobals "steps_in" = some (some (.ref f17)))
    (b17 : K.lookup f17 = some ⟨oc17, od17, .func (PySem.W.fnOf "steps_in" "steps_in" (defArgs s_p_steps_in) (defBody s_p_steps_in) (defScope s_p_steps_in) .none kV17 dc17 pm17 an17 cd17 ct17), sl17⟩)
    (c17 : PySem.W.codeIn K cd17 "steps_in" = true) (d17 : PySem.W.keepIn K (.ref f17) = true)
    (a18 : PySem.W.nsIn K mainGlobals "cut_out" = some (some (.ref f18)))
    (b18 : K.lookup f18 = some ⟨oc18, od18, .func (PySem.W.fnOf "cut_out" "cut_out" (defArgs s_p_cut_out) (defBody s_p_cut_out) (defScope s_p_cut_out) .none kV18 dc18 pm18 an18 cd18 ct18), sl18⟩)
    (c18 : PySem.W.codeIn K cd18 "cut_out" = true) (d18 : PySem.W.keepIn K (.ref f18) = true)
    (a19 : PySem.W.nsIn K mainGlobals "is_a_part" = some (some (.ref f19)))
    (b19 : K.lookup f19 = some ⟨oc19, od19, .func (PySem.W.fnOf "is_a_part" "is_a_part" (defArgs s_p_is_a_part) (defBody s_p_is_a_part) (defScope s_p_is_a_part) .none kV19 dc19 pm19 an19 cd19 ct19), sl19⟩)
    (c19 : PySem.W.codeIn K cd19 "is_a_part" = true) (d19 : PySem.W.keepIn K (.ref f19) = true)
    (a20 : PySem.W.nsIn K mainGlobals "is_a_short" = some (some (.ref f20)))
    (b20 : K.lookup f20 = some ⟨oc20, od20, .func (PySem.W.fnOf "is_a_short" "is_a_short" (defArgs s_p_is_a_short) (defBody s_p_is_a_short) (defScope s_p_is_a_short) .none kV20 dc20 pm20 an20 cd20 ct20), sl20⟩)
    (c20 : PySem.W.codeIn K cd20 "is_a_short" = true) (d20 : PySem.W.keepIn K (.ref f20) = true)
    (a21 : PySem.W.nsIn K mainGlobals "need_short" = some (some (.ref f21)))
    (b21 : K.lookup f21 = some ⟨oc21, od21, .func (PySem.W.fnOf "need_short" "need_short" (defArgs s_p_need_short) (defBody s_p_need_short) (defScope s_p_need_short) .none kV21 dc21 pm21 an21 cd21 ct21), sl21⟩)
    (c21 : PySem.W.codeIn K cd21 "need_short" = true) (d21 : PySem.W.keepIn K (.ref f21) = true)
    (a22 : PySem.W.nsIn K mainGlobals "need_letters_and_short" = some (some (.ref f22)))
    (b22 : K.lookup f22 = some ⟨oc22, od22, .func (PySem.W.fnOf "need_letters_and_short" "need_letters_and_short" (defArgs s_p_need_letters_and_short) (defBody s_p_need_letters_and_short) (defScope s_p_need_letters_and_short) .none kV22 dc22 pm22 an22 cd22 ct22), sl22⟩)
    (c22 : PySem.W.codeIn K cd22 "need_letters_and_short" = true) (d22 : PySem.W.keepIn K (.ref f22) = true)
    (a23 : PySem.W.nsIn K mainGlobals "is_short" = some (some (.ref f23)))
    (b23 : K.lookup f23 = some ⟨oc23, od23, .func (PySem.W.fnOf "is_short" "is_short" (defArgs s_p_is_short) (defBody s_p_is_short) (defScope s_p_is_short) .none kV23 dc23 pm23 an23 cd23 ct23), sl23⟩)
    (c23 : PySem.W.codeIn K cd23 "is_short" = true) (d23 : PySem.W.keepIn K (.ref f23) = true)
    (a24 : PySem.W.nsIn K mainGlobals "short_length" = some (some (.ref f24)))
    (b24 : K.lookup f24 = some ⟨oc24, od24, .func (PySem.W.fnOf "short_length" "short_length" (defArgs s_p_short_length) (defBody s_p_short_length) (defScope s_p_short_length) .none kV24 dc24 pm24 an24 cd24 ct24), sl24⟩)
    (c24 : PySem.W.codeIn K cd24 "short_length" = true) (d24 : PySem.W.keepIn K (.ref f24) = true)
    (a25 : PySem.W.nsIn K mainGlobals "short_steps" = some (some (.ref f25)))
    (b25 : K.lookup f25 = some ⟨oc25, od25, .func (PySem.W.fnOf "short_steps" "short_steps" (defArgs s_p_short_steps) (defBody s_p_short_steps) (defScope s_p_short_steps) .none kV25 dc25 pm25 an25 cd25 ct25), sl25⟩)
    (c25 : PySem.W.codeIn K cd25 "short_steps" = true) (d25 : PySem.W.keepIn K (.ref f25) = true)
    (a26 : PySem.W.nsIn K mainGlobals "parting_place" = some (some (.ref f26)))
    (b26 : K.lookup f26 = some ⟨oc26, od26, .func (PySem.W.fnOf "parting_place" "parting_place" (defArgs s_p_parting_place) (defBody s_p_parting_place) (defScope s_p_parting_place) .none kV26 dc26 pm26 an26 cd26 ct26), sl26⟩)
    (c26 : PySem.W.codeIn K cd26 "parting_place" = true) (d26 : PySem.W.keepIn K (.ref f26) = true)
    (a27 : PySem.W.nsIn K mainGlobals "first_unlike" = some (some (.ref f27)))
    (b27 : K.lookup f27 = some ⟨oc27, od27, .func (PySem.W.fnOf "first_unlike" "first_unlike" (defArgs s_p_first_unlike) (defBody s_p_first_unlike) (defScope s_p_first_unlike) .none kV27 dc27 pm27 an27 cd27 ct27), sl27⟩)
    (c27 : PySem.W.codeIn K cd27 "first_unlike" = true) (d27 : PySem.W.keepIn K (.ref f27) = true)
    (a28 : PySem.W.nsIn K mainGlobals "same_walk" = some (some (.ref f28)))
    (b28 : K.lookup f28 = some ⟨oc28, od28, .func (PySem.W.fnOf "same_walk" "same_walk" (defArgs s_p_same_walk) (defBody s_p_same_walk) (defScope s_p_same_walk) .none kV28 dc28 pm28 an28 cd28 ct28), sl28⟩)
    (c28 : PySem.W.codeIn K cd28 "same_walk" = true) (d28 : PySem.W.keepIn K (.ref f28) = true)
    (a29 : PySem.W.nsIn K mainGlobals "_law_well" = some (some (.ref f29)))
    (b29 : K.lookup f29 = some ⟨oc29, od29, .func (PySem.W.fnOf "_law_well" "_law_well" (defArgs s_l_well) (defBody s_l_well) (defScope s_l_well) .none kV29 dc29 pm29 an29 cd29 ct29), sl29⟩)
    (c29 : PySem.W.codeIn K cd29 "_law_well" = true) (d29 : PySem.W.keepIn K (.ref f29) = true)
    (a30 : PySem.W.nsIn K mainGlobals "_law_pick" = some (some (.ref f30)))
    (b30 : K.lookup f30 = some ⟨oc30, od30, .func (PySem.W.fnOf "_law_pick" "_law_pick" (defArgs s_l_pick) (defBody s_l_pick) (defScope s_l_pick) .none kV30 dc30 pm30 an30 cd30 ct30), sl30⟩)
    (c30 : PySem.W.codeIn K cd30 "_law_pick" = true) (d30 : PySem.W.keepIn K (.ref f30) = true)
    (a31 : PySem.W.nsIn K mainGlobals "_law_back" = some (some (.ref f31)))
    (b31 : K.lookup f31 = some ⟨oc31, od31, .func (PySem.W.fnOf "_law_back" "_law_back" (defArgs s_l_back) (defBody s_l_back) (defScope s_l_back) .none kV31 dc31 pm31 an31 cd31 ct31), sl31⟩)
    (c31 : PySem.W.codeIn K cd31 "_law_back" = true) (d31 : PySem.W.keepIn K (.ref f31) = true)
    (a32 : PySem.W.nsIn K mainGlobals "_law_straight" = some (some (.ref f32)))
    (b32 : K.lookup f32 = some ⟨oc32, od32, .func (PySem.W.fnOf "_law_straight" "_law_straight" (defArgs s_l_straight) (defBody s_l_straight) (defScope s_l_straight) .none kV32 dc32 pm32 an32 cd32 ct32), sl32⟩)
    (c32 : PySem.W.codeIn K cd32 "_law_straight" = true) (d32 : PySem.W.keepIn K (.ref f32) = true)
    (a33 : PySem.W.nsIn K mainGlobals "_law_walk" = some (some (.ref f33)))
    (b33 : K.lookup f33 = some ⟨oc33, od33, .func (PySem.W.fnOf "_law_walk" "_law_walk" (defArgs s_l_walk) (defBody s_l_walk) (defScope s_l_walk) .none kV33 dc33 pm33 an33 cd33 ct33), sl33⟩)
    (c33 : PySem.W.codeIn K cd33 "_law_walk" = true) (d33 : PySem.W.keepIn K (.ref f33) = true)
    (a34 : PySem.W.nsIn K mainGlobals "_law_part" = some (some (.ref f34)))
    (b34 : K.lookup f34 = some ⟨oc34, od34, .func (PySem.W.fnOf "_law_part" "_law_part" (defArgs s_l_part) (defBody s_l_part) (defScope s_l_part) .none kV34 dc34 pm34 an34 cd34 ct34), sl34⟩)
    (c34 : PySem.W.codeIn K cd34 "_law_part" = true) (d34 : PySem.W.keepIn K (.ref f34) = true)
    (a35 : PySem.W.nsIn K mainGlobals "_law_short" = some (some (.ref f35)))
    (b35 : K.lookup f35 = some ⟨oc35, od35, .func (PySem.W.fnOf "_law_short" "_law_short" (defArgs s_l_short) (defBody s_l_short) (defScope s_l_short) .none kV35 dc35 pm35 an35 cd35 ct35), sl35⟩)
    (c35 : PySem.W.codeIn K cd35 "_law_short" = true) (d35 : PySem.W.keepIn K (.ref f35) = true)
    (a36 : PySem.W.nsIn K mainGlobals "_law_out" = some (some (.ref f36)))
    (b36 : K.lookup f36 = some ⟨oc36, od36, .func (PySem.W.fnOf "_law_out" "_law_out" (defArgs s_l_out) (defBody s_l_out) (defScope s_l_out) .none kV36 dc36 pm36 an36 cd36 ct36), sl36⟩)
    (c36 : PySem.W.codeIn K cd36 "_law_out" = true) (d36 : PySem.W.keepIn K (.ref f36) = true)
    (a37 : PySem.W.nsIn K mainGlobals "_law_long" = some (some (.ref f37)))
    (b37 : K.lookup f37 = some ⟨oc37, od37, .func (PySem.W.fnOf "_law_long" "_law_long" (defArgs s_l_long) (defBody s_l_long) (defScope s_l_long) .none kV37 dc37 pm37 an37 cd37 ct37), sl37⟩)
    (c37 : PySem.W.codeIn K cd37 "_law_long" = true) (d37 : PySem.W.keepIn K (.ref f37) = true)
    (a38 : PySem.W.nsIn K mainGlobals "_law_beside" = some (some (.ref f38)))
    (b38 : K.lookup f38 = some ⟨oc38, od38, .func (PySem.W.fnOf "_law_beside" "_law_beside" (defArgs s_l_beside) (defBody s_l_beside) (defScope s_l_beside) .none kV38 dc38 pm38 an38 cd38 ct38), sl38⟩)
    (c38 : PySem.W.codeIn K cd38 "_law_beside" = true) (d38 : PySem.W.keepIn K (.ref f38) = true)
    (a39 : PySem.W.nsIn K mainGlobals "_law_unlike" = some (some (.ref f39)))
    (b39 : K.lookup f39 = some ⟨oc39, od39, .func (PySem.W.fnOf "_law_unlike" "_law_unlike" (defArgs s_l_unlike) (defBody s_l_unlike) (defScope s_l_unlike) .none kV39 dc39 pm39 an39 cd39 ct39), sl39⟩)
    (c39 : PySem.W.codeIn K cd39 "_law_unlike" = true) (d39 : PySem.W.keepIn K (.ref f39) = true)
    (a40 : PySem.W.nsIn K mainGlobals "_law_steps_right" = some (some (.ref f40)))
    (b40 : K.lookup f40 = some ⟨oc40, od40, .func (PySem.W.fnOf "_law_steps_right" "_law_steps_right" (defArgs s_l_steps_right) (defBody s_l_steps_right) (defScope s_l_steps_right) .none kV40 dc40 pm40 an40 cd40 ct40), sl40⟩)
    (c40 : PySem.W.codeIn K cd40 "_law_steps_right" = true) (d40 : PySem.W.keepIn K (.ref f40) = true)
    (a41 : PySem.W.nsIn K mainGlobals "_law_pair_right" = some (some (.ref f41)))
    (b41 : K.lookup f41 = some ⟨oc41, od41, .func (PySem.W.fnOf "_law_pair_right" "_law_pair_right" (defArgs s_l_pair_right) (defBody s_l_pair_right) (defScope s_l_pair_right) .none kV41 dc41 pm41 an41 cd41 ct41), sl41⟩)
    (c41 : PySem.W.codeIn K cd41 "_law_pair_right" = true) (d41 : PySem.W.keepIn K (.ref f41) = true)
    (a42 : PySem.W.nsIn K mainGlobals "law" = some (some (.ref f42)))
    (b42 : K.lookup f42 = some ⟨oc42, od42, .func (PySem.W.fnOf "law" "law" (defArgs s_l_law) (defBody s_l_law) (defScope s_l_law) .none kV42 dc42 pm42 an42 cd42 ct42), sl42⟩)
    (c42 : PySem.W.codeIn K cd42 "law" = true) (d42 : PySem.W.keepIn K (.ref f42) = true)
    (g_len : PySem.W.nsIn K mainGlobals "len" = some none)
    (g_tuple : PySem.W.nsIn K mainGlobals "tuple" = some none)
    (g_isinstance : PySem.W.nsIn K mainGlobals "isinstance" = some none)
    (g_int : PySem.W.nsIn K mainGlobals "int" = some none)
    (g_bool : PySem.W.nsIn K mainGlobals "bool" = some none)
    {tk_MOST_LETTERS : Tok}
    (g_MOST_LETTERS : PySem.W.nsIn K mainGlobals "MOST_LETTERS" = some (some (.int 4 tk_MOST_LETTERS)))
    (g_abs : PySem.W.nsIn K mainGlobals "abs" = some none)
    (g_all : PySem.W.nsIn K mainGlobals "all" = some none)
    (g_min : PySem.W.nsIn K mainGlobals "min" = some none)
    (g_range : PySem.W.nsIn K mainGlobals "range" = some none)
    (g_sum : PySem.W.nsIn K mainGlobals "sum" = some none)
    (g_max : PySem.W.nsIn K mainGlobals "max" = some none)
    {tk_MOST_TIMES : Tok}
    (g_MOST_TIMES : PySem.W.nsIn K mainGlobals "MOST_TIMES" = some (some (.int 1000000000000000000000000000000 tk_MOST_TIMES)))
    {tk_MOST_PARTS : Tok}
    (g_MOST_PARTS : PySem.W.nsIn K mainGlobals "MOST_PARTS" = some (some (.int 60 tk_MOST_PARTS)))
    {tk_MOST_STEPS : Tok}
    (g_MOST_STEPS : PySem.W.nsIn K mainGlobals "MOST_STEPS" = some (some (.int 60 tk_MOST_STEPS)))
    (g_repr : PySem.W.nsIn K mainGlobals "repr" = some none)
    (g_enumerate : PySem.W.nsIn K mainGlobals "enumerate" = some none)
    (g_zip : PySem.W.nsIn K mainGlobals "zip" = some none)
    : ∃ fd : FuncData, (∀ (s : Shared) (v : Value), BindsTo s fd ⟨[v], []⟩ [("_law_script", v)]) ∧ ∀ base : Heap, K.In base → base.Ns mainGlobals mg → FnG l.prog w K mg base CX0 11 fa fd ["_law_script"] (LawSp K m_l_law) := by
  have e := hfa.symm.trans (PySem.W.mg_of IK IG a42)
  cases e
  have h_g_len := PySem.W.mg_none_of IK IG g_len
  have h_g_tuple := PySem.W.mg_none_of IK IG g_tuple
  have h_g_isinstance := PySem.W.mg_none_of IK IG g_isinstance
  have h_g_int := PySem.W.mg_none_of IK IG g_int
  have h_g_bool := PySem.W.mg_none_of IK IG g_bool
  have h_g_MOST_LETTERS := PySem.W.mg_of IK IG g_MOST_LETTERS
  have h_g_abs := PySem.W.mg_none_of IK IG g_abs
  have h_g_all := PySem.W.mg_none_of IK IG g_all
  have h_g_min := PySem.W.mg_none_of IK IG g_min
  have h_g_range := PySem.W.mg_none_of IK IG g_range
  have h_g_sum := PySem.W.mg_none_of IK IG g_sum
  have h_g_max := PySem.W.mg_none_of IK IG g_max
  have h_g_MOST_TIMES := PySem.W.mg_of IK IG g_MOST_TIMES
  have h_g_MOST_PARTS := PySem.W.mg_of IK IG g_MOST_PARTS
  have h_g_MOST_STEPS := PySem.W.mg_of IK IG g_MOST_STEPS
  have h_g_repr := PySem.W.mg_none_of IK IG g_repr
  have h_g_enumerate := PySem.W.mg_none_of IK IG g_enumerate
  have h_g_zip := PySem.W.mg_none_of IK IG g_zip
  have F0 := fun_mk (st := s_p_straightened) b0 c0 d0
  have B0 := F0.binds (ps := ["walk"]) fun _ _ _ _ _ _ us hl => match us, hl with | [_], _ => rfl
  have F1 := fun_mk (st := s_p_turned_back) b1 c1 d1
  have B1 := F1.binds (ps := ["walk"]) fun _ _ _ _ _ _ us hl => match us, hl with | [_], _ => rfl
  have F2 := fun_mk (st := s_p_is_integer) b2 c2 d2
  have B2 := F2.binds (ps := ["value"]) fun _ _ _ _ _ _ us hl => match us, hl with | [_], _ => rfl
  have F3 := fun_mk (st := s_p_is_letters) b3 c3 d3
  have B3 := F3.binds (ps := ["value"]) fun _ _ _ _ _ _ us hl => match us, hl with | [_], _ => rfl
  have F4 := fun_mk (st := s_p_is_step) b4 c4 d4
  have B4 := F4.binds (ps := ["value", "letters"]) fun _ _ _ _ _ _ us hl => match us, hl with | [_, _], _ => rfl
  have F5 := fun_mk (st := s_p_is_a_walk) b5 c5 d5
  have B5 := F5.binds (ps := ["value", "letters"]) fun _ _ _ _ _ _ us hl => match us, hl with | [_, _], _ => rfl
  have F6 := fun_mk (st := s_p_need_letters) b6 c6 d6
  have B6 := F6.binds (ps := ["letters"]) fun _ _ _ _ _ _ us hl => match us, hl with | [_], _ => rfl
  have F7 := fun_mk (st := s_p_need_number) b7 c7 d7
  have B7 := F7.binds (ps := ["number", "low", "high"]) fun _ _ _ _ _ _ us hl => match us, hl with | [_, _, _], _ => rfl
  have F8 := fun_mk (st := s_p_step_of) b8 c8 d8
  have B8 := F8.binds (ps := ["stretch", "place"]) fun _ _ _ _ _ _ us hl => match us, hl with | [_, _], _ => rfl
  have F9 := fun_mk (st := s_p_first_of) b9 c9 d9
  have B9 := F9.binds (ps := ["stretch", "many"]) fun _ _ _ _ _ _ us hl => match us, hl with | [_, _], _ => rfl
  have F10 := fun_mk (st := s_p_rest_of) b10 c10 d10
  have B10 := F10.binds (ps := ["stretch", "many"]) fun _ _ _ _ _ _ us hl => match us, hl with | [_, _], _ => rfl
  have F11 := fun_mk (st := s_p_back_of) b11 c11 d11
  have B11 := F11.binds (ps := ["stretch"]) fun _ _ _ _ _ _ us hl => match us, hl with | [_], _ => rfl
  have F12 := fun_mk (st := s_p_common_beginning) b12 c12 d12
  have B12 := F12.binds (ps := ["one", "other"]) fun _ _ _ _ _ _ us hl => match us, hl with | [_, _], _ => rfl
  have F13 := fun_mk (st := s_p_parted) b13 c13 d13
  have B13 := F13.binds (ps := ["walk"]) fun _ _ _ _ _ _ us hl => match us, hl with | [_], _ => rfl
  have F14 := fun_mk (st := s_p_stretches_of) b14 c14 d14
  have B14 := F14.binds (ps := ["walk", "times"]) fun _ _ _ _ _ _ us hl => match us, hl with | [_, _], _ => rfl
  have F15 := fun_mk (st := s_p_lay) b15 c15 d15
  have B15 := F15.binds (ps := ["done", "stretch"]) fun _ _ _ _ _ _ us hl => match us, hl with | [_, _], _ => rfl
  have F16 := fun_mk (st := s_p_straight_list) b16 c16 d16
  have B16 := F16.binds (ps := ["short"]) fun _ _ _ _ _ _ us hl => match us, hl with | [_], _ => rfl
  have F17 := fun_mk (st := s_p_steps_in) b17 c17 d17
  have B17 := F17.binds (ps := ["done"]) fun _ _ _ _ _ _ us hl => match us, hl with | [_], _ => rfl
  have F18 := fun_mk (st := s_p_cut_out) b18 c18 d18
  have B18 := F18.binds (ps := ["done", "begin", "end"]) fun _ _ _ _ _ _ us hl => match us, hl with | [_, _, _], _ => rfl
  have F19 := fun_mk (st := s_p_is_a_part) b19 c19 d19
  have B19 := F19.binds (ps := ["value", "letters"]) fun _ _ _ _ _ _ us hl => match us, hl with | [_, _], _ => rfl
  have F20 := fun_mk (st := s_p_is_a_short) b20 c20 d20
  have B20 := F20.binds (ps := ["value", "letters"]) fun _ _ _ _ _ _ us hl => match us, hl with | [_, _], _ => rfl
  have F21 := fun_mk (st := s_p_need_short) b21 c21 d21
  have B21 := F21.binds (ps := ["short", "letters"]) fun _ _ _ _ _ _ us hl => match us, hl with | [_, _], _ => rfl
  have F22 := fun_mk (st := s_p_need_letters_and_short) b22 c22 d22
  have B22 := F22.binds (ps := ["letters", "short"]) fun _ _ _ _ _ _ us hl => match us, hl with | [_, _], _ => rfl
  have F23 := fun_mk (st := s_p_is_short) b23 c23 d23
  have B23 := F23.binds (ps := ["letters", "value"]) fun _ _ _ _ _ _ us hl => match us, hl with | [_, _], _ => rfl
  have F24 := fun_mk (st := s_p_short_length) b24 c24 d24
  have B24 := F24.binds (ps := ["letters", "short"]) fun _ _ _ _ _ _ us hl => match us, hl with | [_, _], _ => rfl
  have F25 := fun_mk (st := s_p_short_steps) b25 c25 d25
  have B25 := F25.binds (ps := ["letters", "short", "place", "count"]) fun _ _ _ _ _ _ us hl => match us, hl with | [_, _, _, _], _ => rfl
  have F26 := fun_mk (st := s_p_parting_place) b26 c26 d26
  have B26 := F26.binds (ps := ["one", "other"]) fun _ _ _ _ _ _ us hl => match us, hl with | [_, _], _ => rfl
  have F27 := fun_mk (st := s_p_first_unlike) b27 c27 d27
  have B27 := F27.binds (ps := ["letters", "one", "other"]) fun _ _ _ _ _ _ us hl => match us, hl with | [_, _, _], _ => rfl
  have F28 := fun_mk (st := s_p_same_walk) b28 c28 d28
  have B28 := F28.binds (ps := ["letters", "one", "other"]) fun _ _ _ _ _ _ us hl => match us, hl with | [_, _, _], _ => rfl
  have F29 := fun_mk (st := s_l_well) b29 c29 d29
  have B29 := F29.binds (ps := ["_law_script", "_law_k"]) fun _ _ _ _ _ _ us hl => match us, hl with | [_, _], _ => rfl
  have F30 := fun_mk (st := s_l_pick) b30 c30 d30
  have B30 := F30.binds (ps := ["_law_well_here", "_law_many"]) fun _ _ _ _ _ _ us hl => match us, hl with | [_, _], _ => rfl
  have F31 := fun_mk (st := s_l_back) b31 c31 d31
  have B31 := F31.binds (ps := ["_law_walk_here"]) fun _ _ _ _ _ _ us hl => match us, hl with | [_], _ => rfl
  have F32 := fun_mk (st := s_l_straight) b32 c32 d32
  have B32 := F32.binds (ps := ["_law_walk_here"]) fun _ _ _ _ _ _ us hl => match us, hl with | [_], _ => rfl
  have F33 := fun_mk (st := s_l_walk) b33 c33 d33
  have B33 := F33.binds (ps := ["_law_well_here", "_law_letters", "_law_most"]) fun _ _ _ _ _ _ us hl => match us, hl with | [_, _, _], _ => rfl
  have F34 := fun_mk (st := s_l_part) b34 c34 d34
  have B34 := F34.binds (ps := ["_law_well_here", "_law_letters", "_law_ahead"]) fun _ _ _ _ _ _ us hl => match us, hl with | [_, _, _], _ => rfl
  have F35 := fun_mk (st := s_l_short) b35 c35 d35
  have B35 := F35.binds (ps := ["_law_well_here", "_law_letters", "_law_most"]) fun _ _ _ _ _ _ us hl => match us, hl with | [_, _, _], _ => rfl
  have F36 := fun_mk (st := s_l_out) b36 c36 d36
  have B36 := F36.binds (ps := ["_law_short_here"]) fun _ _ _ _ _ _ us hl => match us, hl with | [_], _ => rfl
  have F37 := fun_mk (st := s_l_long) b37 c37 d37
  have B37 := F37.binds (ps := ["_law_well_here", "_law_letters"]) fun _ _ _ _ _ _ us hl => match us, hl with | [_, _], _ => rfl
  have F38 := fun_mk (st := s_l_beside) b38 c38 d38
  have B38 := F38.binds (ps := ["_law_well_here", "_law_letters", "_law_short_here"]) fun _ _ _ _ _ _ us hl => match us, hl with | [_, _, _], _ => rfl
  have F39 := fun_mk (st := s_l_unlike) b39 c39 d39
  have B39 := F39.binds (ps := ["_law_one", "_law_other"]) fun _ _ _ _ _ _ us hl => match us, hl with | [_, _], _ => rfl
  have F40 := fun_mk (st := s_l_steps_right) b40 c40 d40
  have B40 := F40.binds (ps := ["_law_well_here", "_law_letters", "_law_short_here", "_law_plain"]) fun _ _ _ _ _ _ us hl => match us, hl with | [_, _, _, _], _ => rfl
  have F41 := fun_mk (st := s_l_pair_right) b41 c41 d41
  have B41 := F41.binds (ps := ["_law_letters", "_law_one", "_law_other", "_law_due"]) fun _ _ _ _ _ _ us hl => match us, hl with | [_, _, _, _], _ => rfl
  have F42 := fun_mk (st := s_l_law) b42 c42 d42
  have B42 := F42.binds (ps := ["_law_script"]) fun _ _ _ _ _ _ us hl => match us, hl with | [_], _ => rfl
  refine ⟨PySem.W.fnOf "law" "law" (defArgs s_l_law) (defBody s_l_law) (defScope s_l_law) .none kV42 dc42 pm42 an42 cd42 ct42, fun s v => .of_eq rfl, fun base _ _ => ?_⟩
  have C_p_straightened := cal_p_straightened (P := l.prog) (w := w) (base := base) F0 (PySem.W.mg_of IK IG a0) B0 h_g_len h_g_tuple
  have C_p_turned_back := cal_p_turned_back (P := l.prog) (w := w) (base := base) F1 (PySem.W.mg_of IK IG a1) B1 h_g_tuple
  have C_p_is_integer := cal_p_is_integer (P := l.prog) (w := w) (base := base) F2 (PySem.W.mg_of IK IG a2) B2 h_g_isinstance h_g_int h_g_bool
  have C_p_is_letters := cal_p_is_letters (P := l.prog) (w := w) (base := base) F3 (PySem.W.mg_of IK IG a3) B3 C_p_is_integer h_g_MOST_LETTERS
  have C_p_is_step := cal_p_is_step (P := l.prog) (w := w) (base := base) F4 (PySem.W.mg_of IK IG a4) B4 C_p_is_integer h_g_abs
  have C_p_is_a_walk := cal_p_is_a_walk (P := l.prog) (w := w) (base := base) F5 (PySem.W.mg_of IK IG a5) B5 h_g_isinstance h_g_tuple h_g_all C_p_is_step
  have C_p_need_letters := cal_p_need_letters (P := l.prog) (w := w) (base := base) F6 (PySem.W.mg_of IK IG a6) B6 C_p_is_letters
  have C_p_need_number := cal_p_need_number (P := l.prog) (w := w) (base := base) F7 (PySem.W.mg_of IK IG a7) B7 
  have C_p_step_of := cal_p_step_of (P := l.prog) (w := w) (base := base) F8 (PySem.W.mg_of IK IG a8) B8 h_g_len
  have C_p_first_of := cal_p_first_of (P := l.prog) (w := w) (base := base) F9 (PySem.W.mg_of IK IG a9) B9 
  have C_p_rest_of := cal_p_rest_of (P := l.prog) (w := w) (base := base) F10 (PySem.W.mg_of IK IG a10) B10 h_g_len
  have C_p_back_of := cal_p_back_of (P := l.prog) (w := w) (base := base) F11 (PySem.W.mg_of IK IG a11) B11 C_p_turned_back h_g_len
  have C_p_common_beginning := cal_p_common_beginning (P := l.prog) (w := w) (base := base) F12 (PySem.W.mg_of IK IG a12) B12 h_g_min h_g_range h_g_len C_p_step_of
  have C_p_parted := cal_p_parted (P := l.prog) (w := w) (base := base) F13 (PySem.W.mg_of IK IG a13) B13 h_g_len
  have C_p_stretches_of := cal_p_stretches_of (P := l.prog) (w := w) (base := base) F14 (PySem.W.mg_of IK IG a14) B14 C_p_straightened C_p_parted C_p_turned_back h_g_abs h_g_len
  have C_p_lay := cal_p_lay (P := l.prog) (w := w) (base := base) F15 (PySem.W.mg_of IK IG a15) B15 h_g_len C_p_common_beginning C_p_back_of C_p_rest_of C_p_first_of
  have C_p_straight_list := cal_p_straight_list (P := l.prog) (w := w) (base := base) F16 (PySem.W.mg_of IK IG a16) B16 C_p_stretches_of C_p_lay
  have C_p_steps_in := cal_p_steps_in (P := l.prog) (w := w) (base := base) F17 (PySem.W.mg_of IK IG a17) B17 h_g_sum
  have C_p_cut_out := cal_p_cut_out (P := l.prog) (w := w) (base := base) F18 (PySem.W.mg_of IK IG a18) B18 h_g_max h_g_min C_p_first_of C_p_rest_of
  have C_p_is_a_part := cal_p_is_a_part (P := l.prog) (w := w) (base := base) F19 (PySem.W.mg_of IK IG a19) B19 h_g_isinstance h_g_tuple h_g_len C_p_is_a_walk C_p_is_integer h_g_abs h_g_MOST_TIMES
  have C_p_is_a_short := cal_p_is_a_short (P := l.prog) (w := w) (base := base) F20 (PySem.W.mg_of IK IG a20) B20 h_g_isinstance h_g_tuple h_g_len h_g_MOST_PARTS h_g_all C_p_is_a_part
  have C_p_need_short := cal_p_need_short (P := l.prog) (w := w) (base := base) F21 (PySem.W.mg_of IK IG a21) B21 C_p_is_a_short
  have C_p_need_letters_and_short := cal_p_need_letters_and_short (P := l.prog) (w := w) (base := base) F22 (PySem.W.mg_of IK IG a22) B22 C_p_need_letters C_p_need_short
  have C_p_is_short := cal_p_is_short (P := l.prog) (w := w) (base := base) F23 (PySem.W.mg_of IK IG a23) B23 C_p_need_letters C_p_is_a_short
  have C_p_short_length := cal_p_short_length (P := l.prog) (w := w) (base := base) F24 (PySem.W.mg_of IK IG a24) B24 C_p_need_letters_and_short C_p_steps_in C_p_straight_list
  have C_p_short_steps := cal_p_short_steps (P := l.prog) (w := w) (base := base) F25 (PySem.W.mg_of IK IG a25) B25 C_p_need_letters_and_short C_p_straight_list C_p_steps_in C_p_need_number h_g_min h_g_MOST_STEPS C_p_cut_out h_g_range C_p_step_of h_g_tuple
  have C_p_parting_place := cal_p_parting_place (P := l.prog) (w := w) (base := base) F26 (PySem.W.mg_of IK IG a26) B26 h_g_len h_g_min C_p_common_beginning C_p_rest_of
  have C_p_first_unlike := cal_p_first_unlike (P := l.prog) (w := w) (base := base) F27 (PySem.W.mg_of IK IG a27) B27 C_p_need_letters_and_short C_p_need_short C_p_parting_place C_p_straight_list
  have C_p_same_walk := cal_p_same_walk (P := l.prog) (w := w) (base := base) F28 (PySem.W.mg_of IK IG a28) B28 C_p_first_unlike
  have C_l_well := cal_l_well (P := l.prog) (w := w) (base := base) F29 (PySem.W.mg_of IK IG a29) B29 h_g_len h_g_sum h_g_int h_g_abs h_g_max
  have C_l_pick := cal_l_pick (P := l.prog) (w := w) (base := base) F30 (PySem.W.mg_of IK IG a30) B30 h_g_int
  have C_l_back := cal_l_back (P := l.prog) (w := w) (base := base) F31 (PySem.W.mg_of IK IG a31) B31 h_g_tuple
  have C_l_straight := cal_l_straight (P := l.prog) (w := w) (base := base) F32 (PySem.W.mg_of IK IG a32) B32 h_g_len h_g_tuple
  have C_l_walk := cal_l_walk (P := l.prog) (w := w) (base := base) F33 (PySem.W.mg_of IK IG a33) B33 h_g_range C_l_pick h_g_tuple
  have C_l_part := cal_l_part (P := l.prog) (w := w) (base := base) F34 (PySem.W.mg_of IK IG a34) B34 C_l_pick h_g_len C_l_walk C_l_back
  have C_l_short := cal_l_short (P := l.prog) (w := w) (base := base) F35 (PySem.W.mg_of IK IG a35) B35 h_g_range C_l_pick C_l_part h_g_tuple
  have C_l_out := cal_l_out (P := l.prog) (w := w) (base := base) F36 (PySem.W.mg_of IK IG a36) B36 C_l_back h_g_abs C_l_straight
  have C_l_long := cal_l_long (P := l.prog) (w := w) (base := base) F37 (PySem.W.mg_of IK IG a37) B37 C_l_walk C_l_back C_l_pick h_g_tuple
  have C_l_beside := cal_l_beside (P := l.prog) (w := w) (base := base) F38 (PySem.W.mg_of IK IG a38) B38 C_l_pick h_g_len C_l_short h_g_tuple C_l_back C_l_walk
  have C_l_unlike := cal_l_unlike (P := l.prog) (w := w) (base := base) F39 (PySem.W.mg_of IK IG a39) B39 h_g_range h_g_min h_g_len
  have C_l_steps_right := cal_l_steps_right (P := l.prog) (w := w) (base := base) F40 (PySem.W.mg_of IK IG a40) B40 h_g_len C_l_pick h_g_min h_g_repr C_p_short_steps
  have C_l_pair_right := cal_l_pair_right (P := l.prog) (w := w) (base := base) F41 (PySem.W.mg_of IK IG a41) B41 h_g_repr C_p_first_unlike C_p_same_walk
  have C_l_law := cal_l_law (P := l.prog) (w := w) (base := base) F42 (PySem.W.mg_of IK IG a42) B42 h_g_range h_g_max h_g_min h_g_len C_l_well C_l_pick C_l_long C_l_short C_l_beside C_l_out h_g_enumerate C_p_is_short h_g_repr C_p_short_length C_l_steps_right C_l_pair_right C_l_unlike h_g_zip
  obtain ⟨f_, fd_, Fn_, G_, hm_, _⟩ := C_l_law.ex
  have e := hm_.symm.trans (PySem.W.mg_of IK IG a42)
  cases e
  obtain ⟨_, _, _, _, _, _, _, _, _, rfl, lk_, _⟩ := Fn_.ex
  rw [b42] at lk_
  cases lk_
  exact G_
end L26
open PySem PySem.W PyProof.Rows
set_option maxRecDepth 100000 in
set_option maxHeartbeats 0 in
theorem PySem.Challenge.cw_walkclubs_k26_short_writings_written_out_holds : PySem.Challenge.rw_walkclubs_k26_short_writings_written_out.Holds := by
  w_on; o_law; k_head; (case hw => w_witness2)
  k_fill
  refine Z.walk_ofG (l := PySem.Challenge.rw_walkclubs_k26_short_writings_written_out) (n := 63) (k := 11) (x := "_law_script") (m := L26.m_l_law) rfl (by decide) rfl ⟨rfl, by decide, by decide⟩ (fun w h Y => PySem.W.kIn_of Y) ?F L26.law_true
  case F =>
    intro w mg fa h KI KG hmg
    refine' L26.tops KI KG hmg ?a0 ?b0 ?c0 ?d0 ?a1 ?b1 ?c1 ?d1 ?a2 ?b2 ?c2 ?d2 ?a3 ?b3 ?c3 ?d3 ?a4 ?b4 ?c4 ?d4 ?a5 ?b5 ?c5 ?d5 ?a6 ?b6 ?c6 ?d6 ?a7 ?b7 ?c7 ?d7 ?a8 ?b8 ?c8 ?d8 ?a9 ?b9 ?c9 ?d9 ?a10 ?b10 ?c10 ?d10 ?a11 ?b11 ?c11 ?d11 ?a12 ?b12 ?c12 ?d12 ?a13 ?b13 ?c13 ?d13 ?a14 ?b14 ?c14 ?d14 ?a15 ?b15 ?c15 ?d15 ?a16 ?b16 ?c16 ?d16 ?a17 ?b17 ?c17 ?d17 ?a18 ?b18 ?c18 ?d18 ?a19 ?b19 ?c19 ?d19 ?a20 ?b20 ?c20 ?d20 ?a21 ?b21 ?c21 ?d21 ?a22 ?b22 ?c22 ?d22 ?a23 ?b23 ?c23 ?d23 ?a24 ?b24 ?c24 ?d24 ?a25 ?b25 ?c25 ?d25 ?a26 ?b26 ?c26 ?d26 ?a27 ?b27 ?c27 ?d27 ?a28 ?b28 ?c28 ?d28 ?a29 ?b29 ?c29 ?d29 ?a30 ?b30 ?c30 ?d30 ?a31 ?b31 ?c31 ?d31 ?a32 ?b32 ?c32 ?d32 ?a33 ?b33 ?c33 ?d33 ?a34 ?b34 ?c34 ?d34 ?a35 ?b35 ?c35 ?d35 ?a36 ?b36 ?c36 ?d36 ?a37 ?b37 ?c37 ?d37 ?a38 ?b38 ?c38 ?d38 ?a39 ?b39 ?c39 ?d39 ?a40 ?b40 ?c40 ?d40 ?a41 ?b41 ?c41 ?d41 ?a42 ?b42 ?c42 ?d42 ?g_len ?g_tuple ?g_isinstance ?g_int ?g_bool ?g_MOST_LETTERS ?g_abs ?g_all ?g_min ?g_range ?g_sum ?g_max ?g_MOST_TIMES ?g_MOST_PARTS ?g_MOST_STEPS ?g_repr ?g_enumerate ?g_zip
    (case a0 => k_is)
    (case b0 => k_is)
    (case c0 => k_is)
    (case d0 => k_is)
    (case a1 => k_is)
    (case b1 => k_is)
    (case c1 => k_is)
    (case d1 => k_is)
    (case a2 => k_is)
    (case b2 => k_is)
    (case c2 => k_is)
    (case d2 => k_is)
    (case a3 => k_is)
    (case b3 => k_is)
    (case c3 => k_is)
    (case d3 => k_is)
    (case a4 => k_is)
    (case b4 => k_is)
    (case c4 => k_is)
    (case d4 => k_is)
    (case a5 => k_is)
    (case b5 => k_is)
    (case c5 => k_is)
    (case d5 => k_is)
    (case a6 => k_is)
    (case b6 => k_is)
    (case c6 => k_is)
    (case d6 => k_is)
    (case a7 => k_is)
    (case b7 => k_is)
    (case c7 => k_is)
    (case d7 => k_is)
    (case a8 => k_is)
    (case b8 => k_is)
    (case c8 => k_is)
    (case d8 => k_is)
    (case a9 => k_is)
    (case b9 => k_is)
    (case c9 => k_is)
    (case d9 => k_is)
    (case a10 => k_is)
    (case b10 => k_is)
    (case c10 => k_is)
    (case d10 => k_is)
    (case a11 => k_is)
    (case b11 => k_is)
    (case c11 => k_is)
    (case d11 => k_is)
    (case a12 => k_is)
    (case b12 => k_is)
    (case c12 => k_is)
    (case d12 => k_is)
    (case a13 => k_is)
    (case b13 => k_is)
    (case c13 => k_is)
    (case d13 => k_is)
    (case a14 => k_is)
    (case b14 => k_is)
    (case c14 => k_is)
    (case d14 => k_is)
    (case a15 => k_is)
    (case b15 => k_is)
    (case c15 => k_is)
    (case d15 => k_is)
    (case a16 => k_is)
    (case b16 => k_is)
    (case c16 => k_is)
    (case d16 => k_is)
    (case a17 => k_is)
    (case b17 => k_is)
    (case c17 => k_is)
    (case d17 => k_is)
    (case a18 => k_is)
    (case b18 => k_is)
    (case c18 => k_is)
    (case d18 => k_is)
    (case a19 => k_is)
    (case b19 => k_is)
    (case c19 => k_is)
    (case d19 => k_is)
    (case a20 => k_is)
    (case b20 => k_is)
    (case c20 => k_is)
    (case d20 => k_is)
    (case a21 => k_is)
    (case b21 => k_is)
    (case c21 => k_is)
    (case d21 => k_is)
    (case a22 => k_is)
    (case b22 => k_is)
    (case c22 => k_is)
    (case d22 => k_is)
    (case a23 => k_is)
    (case b23 => k_is)
    (case c23 => k_is)
    (case d23 => k_is)
    (case a24 => k_is)
    (case b24 => k_is)
    (case c24 => k_is)
    (case d24 => k_is)
    (case a25 => k_is)
    (case b25 => k_is)
    (case c25 => k_is)
    (case d25 => k_is)
    (case a26 => k_is)
    (case b26 => k_is)
    (case c26 => k_is)
    (case d26 => k_is)
    (case a27 => k_is)
    (case b27 => k_is)
    (case c27 => k_is)
    (case d27 => k_is)
    (case a28 => k_is)
    (case b28 => k_is)
    (case c28 => k_is)
    (case d28 => k_is)
    (case a29 => k_is)
    (case b29 => k_is)
    (case c29 => k_is)
    (case d29 => k_is)
    (case a30 => k_is)
    (case b30 => k_is)
    (case c30 => k_is)
    (case d30 => k_is)
    (case a31 => k_is)
    (case b31 => k_is)
    (case c31 => k_is)
    (case d31 => k_is)
    (case a32 => k_is)
    (case b32 => k_is)
    (case c32 => k_is)
    (case d32 => k_is)
    (case a33 => k_is)
    (case b33 => k_is)
    (case c33 => k_is)
    (case d33 => k_is)
    (case a34 => k_is)
    (case b34 => k_is)
    (case c34 => k_is)
    (case d34 => k_is)
    (case a35 => k_is)
    (case b35 => k_is)
    (case c35 => k_is)
    (case d35 => k_is)
    (case a36 => k_is)
    (case b36 => k_is)
    (case c36 => k_is)
    (case d36 => k_is)
    (case a37 => k_is)
    (case b37 => k_is)
    (case c37 => k_is)
    (case d37 => k_is)
    (case a38 => k_is)
    (case b38 => k_is)
    (case c38 => k_is)
    (case d38 => k_is)
    (case a39 => k_is)
    (case b39 => k_is)
    (case c39 => k_is)
    (case d39 => k_is)
    (case a40 => k_is)
    (case b40 => k_is)
    (case c40 => k_is)
    (case d40 => k_is)
    (case a41 => k_is)
    (case b41 => k_is)
    (case c41 => k_is)
    (case d41 => k_is)
    (case a42 => k_is)
    (case b42 => k_is)
    (case c42 => k_is)
    (case d42 => k_is)
    (case g_len => k_is)
    (case g_tuple => k_is)
    (case g_isinstance => k_is)
    (case g_int => k_is)
    (case g_bool => k_is)
    (case g_MOST_LETTERS => k_is)
    (case g_abs => k_is)
    (case g_all => k_is)
    (case g_min => k_is)
    (case g_range => k_is)
    (case g_sum => k_is)
    (case g_max => k_is)
    (case g_MOST_TIMES => k_is)
    (case g_MOST_PARTS => k_is)
    (case g_MOST_STEPS => k_is)
    (case g_repr => k_is)
    (case g_enumerate => k_is)
    (case g_zip => k_is)
