import PyProof.Rows.All
import Wide.All
import OpenK.AllK
import Wide.FinOn
import HandS.ForMost
import HandS.Wide
import HandS.TupAny
import HandS.RaiseMore
import PyProof.ReprRoads
import HandS.Style
import HandS.IsInst
import HandS.Gcd
import KE.KMathGC
import HandS.Conv
import HandS.TupMul
import HandS.RevTup
import PyProof.ListMulRoad
import PyProof.FactsAll.tuple_2
import HandS.Iter
import KE.GoesEnum
import KE.GoesMore
import HandS.Dict
import HandS.SetKeys
import HandS.DictComp
import KE.KDictSum
import HandS.Small
import HandS.NoneIn
import KE.KDictDisplayH
import HandS.Zip
import HandS.WideBits
import HandS.SortInts
import KE.DataCmp
import HandS.Finally
import HandS.TupSets
import HandS.Deep
import PySem.Challenge.RW_walkclubs_k13_trees_and_bases
set_option Elab.async false
set_option linter.all false
set_option maxRecDepth 100000
set_option maxHeartbeats 1000000
namespace Z
open PySem PySem.Spec PyProof.Rows L2
def kPD : Key → PyData
  | .inl i => .int i
  | .inr x => .str x
mutual
inductive Dq (H : Hp) : V → PyData → Prop
  | non : Dq H .non .none
  | bl (b : Bool) : Dq H (.bl b) (.bool b)
  | int (i : Int) : Dq H (.int i) (.int i)
  | str (x : Str) : Dq H (.str x) (.str x)
  | lst {a : Addr} {xs : List V} {ds : List PyData} : H a = some (.lst xs) → DqAll H xs ds → Dq H (.ref a) (.list ds)
  | tup {a : Addr} {xs : List V} {ds : List PyData} : H a = some (.tup xs) → DqAll H xs ds → Dq H (.ref a) (.tuple ds)
  | dctK {a : Addr} {o : Obj} {kvs : List (Key × V)} {ps : List (PyData × PyData)} : H a = some (.frz o (.dK kvs)) → kvs.map (fun p => kPD p.1) = ps.map (·.1) → DqAll H (kvs.map (·.2)) (ps.map (·.2)) → Dq H (.ref a) (.dict ps)
  | dctT {a : Addr} {o : Obj} {kvs : List (List Key × V)} {ps : List (PyData × PyData)} : H a = some (.frz o (.dT kvs)) → kvs.map (fun p => PyData.tuple (p.1.map kPD)) = ps.map (·.1) → DqAll H (kvs.map (·.2)) (ps.map (·.2)) → Dq H (.ref a) (.dict ((.none, .none) :: ps))
inductive DqAll (H : Hp) : List V → List PyData → Prop
  | nil : DqAll H [] []
  | cons {v : V} {vs : List V} {d : PyData} {ds : List PyData} : Dq H v d → DqAll H vs ds → DqAll H (v :: vs) (d :: ds)
end
mutual
theorem dq_monoH {H H' : Hp} (e : Same H H') : ∀ {v : V} {d : PyData}, Dq H v d → Dq H' v d
  | _, _, .non => .non
  | _, _, .bl _ => .bl _
  | _, _, .int _ => .int _
  | _, _, .str _ => .str _
  | _, _, .lst hs ha => .lst (e _ _ hs) (dqall_monoH e ha)
  | _, _, .tup hs ha => .tup (e _ _ hs) (dqall_monoH e ha)
  | _, _, .dctK hs hk ha => .dctK (e _ _ hs) hk (dqall_monoH e ha)
  | _, _, .dctT hs hk ha => .dctT (e _ _ hs) hk (dqall_monoH e ha)
theorem dqall_monoH {H H' : Hp} (e : Same H H') : ∀ {vs : List V} {ds : List PyData}, DqAll H vs ds → DqAll H' vs ds
  | _, _, .nil => .nil
  | _, _, .cons h1 h2 => .cons (dq_monoH e h1) (dqall_monoH e h2)
end
theorem dq_mono {H H' : Hp} (e : Same H H') (d : PyData) (v : V) (h : Dq H v d) : Dq H' v d := dq_monoH e h
theorem dqall_mono {H H' : Hp} (e : Same H H') (ds : List PyData) (vs : List V) (h : DqAll H vs ds) : DqAll H' vs ds := dqall_monoH e h
mutual
theorem nod_lay : ∀ d : PyData, d.canLay0 = true → d.hasDict = false
  | .none, _ => by simp [PyData.hasDict]
  | .bool _, _ => by simp [PyData.hasDict]
  | .int _, _ => by simp [PyData.hasDict]
  | .str _, _ => by simp [PyData.hasDict]
  | .list ds, c => by
    simp only [PyData.hasDict]
    exact nodall_lay ds (by simpa [PyData.canLay0] using c)
  | .tuple ds, c => by
    simp only [PyData.hasDict]
    exact nodall_lay ds (by simpa [PyData.canLay0] using c)
  | .dict _, c => by simp [PyData.canLay0] at c
theorem nodall_lay : ∀ ds : List PyData, PyData.canLayAll0 ds = true → PyData.hasDictAll ds = false
  | [], _ => by simp [PyData.hasDictAll]
  | d :: ds, c => by
    have c2 : d.canLay0 = true ∧ PyData.canLayAll0 ds = true := by simpa [PyData.canLayAll0] using c
    simp [PyData.hasDictAll, nod_lay d c2.1, nodall_lay ds c2.2]
end
mutual
theorem dq_dp (K : PySem.W.Frag) {H : Hp} : ∀ (d : PyData) (v : V), d.hasDict = false → Dq H v d → Dp K H v d
  | .none, _, _, h => by cases h; exact .non
  | .bool _, _, _, h => by cases h; exact .bl _
  | .int _, _, _, h => by cases h; exact .int _
  | .str _, _, _, h => by cases h; exact .str _
  | .list ds, _, c, h => by
    cases h with
    | lst hs ha => exact .lst (.of hs) (dqall_dp K ds _ (by simpa [PyData.hasDict] using c) ha)
  | .tuple ds, _, c, h => by
    cases h with
    | tup hs ha => exact .tup (.of hs) (dqall_dp K ds _ (by simpa [PyData.hasDict] using c) ha)
  | .dict _, _, c, h => by simp [PyData.hasDict] at c
theorem dqall_dp (K : PySem.W.Frag) {H : Hp} : ∀ (ds : List PyData) (vs : List V), PyData.hasDictAll ds = false → DqAll H vs ds → DpAll K H vs ds
  | [], _, _, h => by cases h; exact .nil
  | d :: ds, _, c, h => by
    have c2 : d.hasDict = false ∧ PyData.hasDictAll ds = false := by simpa [PyData.hasDictAll] using c
    cases h with
    | cons h1 h2 => exact .cons (dq_dp K d _ c2.1 h1) (dqall_dp K ds _ c2.2 h2)
end
theorem same_upd {H : Hp} {p : Addr} {o : HO} (h : H p = none) : Same H (upd H p o) := fun b x e => by
  rw [upd_ne (ne_of_none e h)]
  exact e
theorem dqall_len {H : Hp} : ∀ {ds : List PyData} {vs : List V}, DqAll H vs ds → vs.length = ds.length
  | [], _, h => by cases h; rfl
  | d :: ds, _, h => by
    cases h with
    | cons h1 h2 => rw [List.length_cons, List.length_cons, dqall_len h2]
theorem dqall_get {H : Hp} : ∀ {ds : List PyData} {vs : List V} {i : Nat} {v : V}, DqAll H vs ds → vs[i]? = some v → ∃ d, ds[i]? = some d ∧ Dq H v d
  | [], _, i, v, h, e => by cases h; simp at e
  | d :: ds, _, i, v, h, e => by
    cases h with
    | cons h1 h2 =>
      cases i with
      | zero =>
        simp at e
        subst e
        exact ⟨d, rfl, h1⟩
      | succ i => exact dqall_get (i := i) h2 (by simpa using e)
theorem dqall_get' {H : Hp} : ∀ {ds : List PyData} {vs : List V} {i : Nat} {d : PyData}, DqAll H vs ds → ds[i]? = some d → ∃ v, vs[i]? = some v ∧ Dq H v d
  | [], _, i, v, h, e => by simp at e
  | d :: ds, _, i, v, h, e => by
    cases h with
    | cons h1 h2 =>
      cases i with
      | zero =>
        simp at e
        subst e
        exact ⟨_, rfl, h1⟩
      | succ i => exact dqall_get' (i := i) h2 (by simpa using e)
theorem dqall_app {H : Hp} : ∀ {ds es : List PyData} {vs us : List V}, DqAll H vs ds → DqAll H us es → DqAll H (vs ++ us) (ds ++ es)
  | [], _, _, _, h, g => by cases h; exact g
  | d :: ds, _, _, _, h, g => by
    cases h with
    | cons h1 h2 => exact .cons h1 (dqall_app h2 g)
theorem dqall_take {H : Hp} : ∀ {ds : List PyData} {vs : List V} (n : Nat), DqAll H vs ds → DqAll H (vs.take n) (ds.take n)
  | _, _, 0, _ => .nil
  | [], _, n + 1, h => by cases h; exact .nil
  | d :: ds, _, n + 1, h => by
    cases h with
    | cons h1 h2 => exact .cons h1 (dqall_take n h2)
theorem dqall_drop {H : Hp} : ∀ {ds : List PyData} {vs : List V} (n : Nat), DqAll H vs ds → DqAll H (vs.drop n) (ds.drop n)
  | _, _, 0, h => h
  | [], _, n + 1, h => by cases h; exact .nil
  | d :: ds, _, n + 1, h => by
    cases h with
    | cons h1 h2 => exact dqall_drop n h2
theorem dqall_set {H : Hp} {v : V} {d : PyData} (hd : Dq H v d) : ∀ {ds : List PyData} {vs : List V} (i : Nat), DqAll H vs ds → DqAll H (vs.set i v) (ds.set i d)
  | [], _, _, h => by cases h; exact .nil
  | d :: ds, _, 0, h => by
    cases h with
    | cons h1 h2 => exact .cons hd h2
  | d :: ds, _, i + 1, h => by
    cases h with
    | cons h1 h2 => exact .cons h1 (dqall_set hd i h2)
theorem dqall_ints {H : Hp} : ∀ (ns : List Int), DqAll H (ns.map V.int) (ns.map PyData.int)
  | [] => .nil
  | n :: ns => .cons (.int n) (dqall_ints ns)
theorem dqall_of_ints {H : Hp} : ∀ (ns : List Int) {vs : List V}, DqAll H vs (ns.map PyData.int) → vs = ns.map V.int
  | [], _, h => by cases h; rfl
  | n :: ns, _, h => by
    cases h with
    | cons h1 h2 =>
      cases h1
      rw [dqall_of_ints ns h2, List.map_cons]
theorem dqall_of_bools {H : Hp} : ∀ (ns : List Bool) {vs : List V}, DqAll H vs (ns.map PyData.bool) → vs = ns.map V.bl
  | [], _, h => by cases h; rfl
  | n :: ns, _, h => by
    cases h with
    | cons h1 h2 =>
      cases h1
      rw [dqall_of_bools ns h2, List.map_cons]
/-- an entry: its address, what is frozen, its own piece of the heap -/
abbrev Ent := Addr → Hp → Hp → Prop
abbrev Os := List (Addr × Ent)
abbrev VP := Hp → V → Prop
abbrev Slot := Hp → Option V → Prop
def Cl (φ : VP) (F : Hp) (v : V) : Prop := ∀ F', Same F F' → φ F' v
theorem Cl.mono {φ : VP} {F F' : Hp} {v : V} (h : Cl φ F v) (e : Same F F') : Cl φ F' v := fun G g => h G (e.trans g)
theorem Cl.now {φ : VP} {F : Hp} {v : V} (h : Cl φ F v) : φ F v := h F (Same.refl F)
def dat (d : PyData) : VP := fun F v => Dq F v d
def own (p : Addr) : VP := fun _ v => v = .ref p
theorem cl_dat {d : PyData} {F : Hp} {v : V} (h : Dq F v d) : Cl (dat d) F v := fun _ e => dq_mono e d v h
theorem cl_own {p : Addr} {F : Hp} : Cl (own p) F (.ref p) := fun _ _ => rfl
/-- the heap with one thing alone -/
def one (p : Addr) (o : HO) : Hp := upd (fun _ => none) p o
theorem one_at {p : Addr} {o : HO} : one p o p = some o := upd_same
theorem one_ne {p q : Addr} {o : HO} (h : q ≠ p) : one p o q = none := by unfold one; rw [upd_ne h]
theorem one_of {p q : Addr} {o : HO} (h : one p o q ≠ none) : q = p := Classical.byContradiction fun k => h (one_ne k)
/-- a list of one's own, its items data -/
def ol (ds : List PyData) : Ent := fun p F h => ∃ vs, h = one p (.lst vs) ∧ DqAll F vs ds
def sl (φ : VP) : Slot := fun F o => ∃ v, o = some v ∧ φ F v
def un : Slot := fun _ _ => True
/-- h over H -/
def ov (h H : Hp) : Hp := fun a => match h a with
  | some o => some o
  | none => H a
theorem ov_some {h H : Hp} {a : Addr} {o : HO} (e : h a = some o) : ov h H a = some o := by unfold ov; rw [e]
theorem ov_none {h H : Hp} {a : Addr} (e : h a = none) : ov h H a = H a := by unfold ov; rw [e]
theorem ov_one {p : Addr} {o : HO} {H : Hp} : ov (one p o) H = upd H p o := by
  funext a
  by_cases h : a = p
  · subst h; rw [ov_some one_at, upd_same]
  · rw [ov_none (one_ne h), upd_ne h]
/-- apart -/
def Ap (h k : Hp) : Prop := ∀ a, h a ≠ none → k a = none
theorem Ap.symm {h k : Hp} (x : Ap h k) : Ap k h := fun a e => Classical.byContradiction fun q => e (x a q)
inductive Pcs (F : Hp) : Os → List Hp → Prop
  | nil : Pcs F [] []
  | cons {q : Addr × Ent} {os : Os} {h : Hp} {hs : List Hp} : (∀ F', Same F F' → q.2 q.1 F' h) → Pcs F os hs → Pcs F (q :: os) (h :: hs)
theorem Pcs.mono {F F' : Hp} (e : Same F F') : ∀ {os : Os} {hs : List Hp}, Pcs F os hs → Pcs F' os hs
  | _, _, .nil => .nil
  | _, _, .cons h1 h2 => .cons (fun G g => h1 G (e.trans g)) (h2.mono e)
theorem Pcs.perm {F : Hp} {os os' : Os} (p : os.Perm os') : ∀ {hs : List Hp}, Pcs F os hs → ∃ hs', Pcs F os' hs' ∧ hs.Perm hs' := by
  induction p with
  | nil => intro hs h; exact ⟨hs, h, List.Perm.refl _⟩
  | cons x p ih =>
    intro hs h
    cases h with
    | cons h1 h2 =>
      obtain ⟨hs', a, b⟩ := ih h2
      exact ⟨_, .cons h1 a, b.cons _⟩
  | swap x y l =>
    intro hs h
    cases h with
    | cons h1 h2 =>
      cases h2 with
      | cons h2 h3 => exact ⟨_, .cons h2 (.cons h1 h3), List.Perm.swap _ _ _⟩
  | trans p q ih1 ih2 =>
    intro hs h
    obtain ⟨hs1, a, b⟩ := ih1 h
    obtain ⟨hs2, c, d⟩ := ih2 a
    exact ⟨hs2, c, b.trans d⟩
/-- no tuples -/
def NT (h : Hp) : Prop := ∀ a xs, h a ≠ some (.tup xs)
theorem nt_one {p : Addr} {o : HO} (h : ∀ xs, o ≠ .tup xs) : NT (one p o) := fun a xs e => by
  by_cases q : a = p
  · rw [q, one_at] at e
    exact h xs (Option.some.inj e)
  · rw [one_ne q] at e
    cases e
structure Ow (F : Hp) (os : Os) (H : Hp) : Prop where
  ex : Same F H
  ps : ∃ hs, Pcs F os hs ∧ (∀ h ∈ hs, Same h H ∧ Ap F h ∧ NT h) ∧ hs.Pairwise Ap
section
variable {F F' H H' : Hp} {os os' : Os} {p : Addr} {e e' : Ent} {o : HO}
theorem Ow.perm (h : Ow F os H) (hp : os.Perm os') : Ow F os' H := by
  obtain ⟨hs, a, b, c⟩ := h.ps
  obtain ⟨hs', a', q⟩ := a.perm hp
  exact ⟨h.ex, hs', a', fun k hk => b k (q.mem_iff.mpr hk), q.pairwise c fun x => x.symm⟩
/-- what is new is frozen -/
theorem Ow.frozen (h : Ow F os H) (hp : H p = none) : Ow (upd F p o) os (upd H p o) := by
  have fp : F p = none := h.ex.free hp
  obtain ⟨hs, a, b, c⟩ := h.ps
  refine ⟨fun q x eb => ?_, hs, a.mono (same_upd fp), fun k hk => ?_, c⟩
  · by_cases hb : q = p
    · subst hb
      rw [upd_same] at eb ⊢
      exact eb
    · rw [upd_ne hb] at eb ⊢
      exact h.ex q x eb
  · obtain ⟨s, x, nt⟩ := b k hk
    have kp : k p = none := s.free hp
    refine ⟨s.trans (same_upd hp), fun q eq => ?_, nt⟩
    by_cases hb : q = p
    · rw [hb]; exact kp
    · rw [upd_ne hb] at eq
      exact x q eq
/-- a piece of new things -/
theorem Ow.newP {k : Hp} (h : Ow F os H) (hk : ∀ a, k a ≠ none → H a = none) (nt : NT k) (he : ∀ F', Same F F' → e p F' k) : Ow F ((p, e) :: os) (ov k H) := by
  obtain ⟨hs, a, b, c⟩ := h.ps
  have s : Same H (ov k H) := fun q x eq => by
    cases z : k q with
    | none => rw [ov_none z]; exact eq
    | some u => rw [hk q (by rw [z]; simp)] at eq; cases eq
  refine ⟨h.ex.trans s, k :: hs, .cons he a, fun g hg => ?_, List.pairwise_cons.mpr ⟨fun g hg => ?_, c⟩⟩
  · rcases List.mem_cons.mp hg with rfl | hg
    · exact ⟨fun q x eq => ov_some eq, Ap.symm fun q eq => h.ex.free (hk q eq), nt⟩
    · exact ⟨(b g hg).1.trans s, (b g hg).2⟩
  · exact fun q eq => (b g hg).1.free (hk q eq)
theorem Ow.new (h : Ow F os H) (hp : H p = none) (he : ∀ F', Same F F' → e p F' (one p o)) (nt : ∀ xs, o ≠ .tup xs := by intro _ z; cases z) : Ow F ((p, e) :: os) (upd H p o) := by
  rw [← ov_one]
  exact h.newP (fun a ha => by rw [one_of ha]; exact hp) (nt_one nt) he
/-- the first piece, and what may stand in its place -/
theorem Ow.wr (h : Ow F ((p, e) :: os) H) : ∃ k, (∀ F', Same F F' → e p F' k) ∧ Same k H ∧ Ap F k ∧ NT k ∧
    ∀ q e' k', (∀ a, k' a ≠ none → k a ≠ none ∨ H a = none) → NT k' → (∀ F', Same F F' → e' q F' k') → Ow F ((q, e') :: os) (ov k' H) := by
  obtain ⟨hs, a, b, c⟩ := h.ps
  cases a with
  | @cons _ _ k hs h1 h2 =>
    obtain ⟨c1, c2⟩ := List.pairwise_cons.mp c
    obtain ⟨s, x, nt⟩ := b k List.mem_cons_self
    refine ⟨k, h1, s, x, nt, fun q e' k' hk nt' he => ?_⟩
    have out : ∀ g : Hp, Same g H → Ap k g → Same g (ov k' H) ∧ Ap k' g := fun g sg ag => by
      have z : ∀ a, k' a ≠ none → g a = none := fun a ha => by
        rcases hk a ha with r | r
        · exact ag a r
        · exact sg.free r
      refine ⟨fun a u eu => ?_, z⟩
      cases y : k' a with
      | none => rw [ov_none y]; exact sg a u eu
      | some w =>
        rw [z a (by rw [y]; simp)] at eu
        cases eu
    obtain ⟨f1, f2⟩ := out F h.ex x.symm
    refine ⟨f1, k' :: hs, .cons he h2, fun g hg => ?_, List.pairwise_cons.mpr ⟨fun g hg => ?_, c2⟩⟩
    · rcases List.mem_cons.mp hg with rfl | hg
      · exact ⟨fun a u eu => ov_some eu, f2.symm, nt'⟩
      · exact ⟨(out g (b g (List.mem_cons_of_mem _ hg)).1 (c1 g hg)).1, (b g (List.mem_cons_of_mem _ hg)).2⟩
    · exact (out g (b g (List.mem_cons_of_mem _ hg)).1 (c1 g hg)).2
theorem Ow.drop (h : Ow F ((p, e) :: os) H) : Ow F os H := by
  obtain ⟨hs, a, b, c⟩ := h.ps
  cases a with
  | cons h1 h2 => exact ⟨h.ex, _, h2, fun g hg => b g (List.mem_cons_of_mem _ hg), (List.pairwise_cons.mp c).2⟩
theorem Ow.freeze (h : Ow F ((p, e) :: os) H) : ∃ k, (∀ F', Same F F' → e p F' k) ∧ Same k H ∧ Ap F k ∧ Same F (ov k F) ∧ Ow (ov k F) os H := by
  obtain ⟨hs, a, b, c⟩ := h.ps
  cases a with
  | @cons _ _ k hs h1 h2 =>
    obtain ⟨c1, c2⟩ := List.pairwise_cons.mp c
    obtain ⟨s, x, _⟩ := b k List.mem_cons_self
    have sf : Same F (ov k F) := fun a u eu => by
      rw [ov_none (x a (by rw [eu]; simp))]
      exact eu
    refine ⟨k, h1, s, x, sf, fun a u eu => ?_, hs, h2.mono sf, fun g hg => ⟨(b g (List.mem_cons_of_mem _ hg)).1, fun a ha => ?_, (b g (List.mem_cons_of_mem _ hg)).2.2⟩, c2⟩
    · cases y : k a with
      | none => rw [ov_none y] at eu; exact h.ex a u eu
      | some w => rw [ov_some y] at eu; cases eu; exact s a _ y
    · cases y : k a with
      | none => rw [ov_none y] at ha; exact (b g (List.mem_cons_of_mem _ hg)).2.1 a ha
      | some w => exact c1 g hg a (by rw [y]; simp)
theorem Ow.grow (h : Ow F os H) (k : Same H H') : Ow F os H' := by
  obtain ⟨hs, a, b, c⟩ := h.ps
  exact ⟨h.ex.trans k, hs, a, fun g hg => ⟨(b g hg).1.trans k, (b g hg).2⟩, c⟩
/-- a tuple that stands is frozen -/
theorem Ow.tup {xs : List V} (h : Ow F os H) (hp : H p = some (.tup xs)) : Same F (upd F p (.tup xs)) ∧ Ow (upd F p (.tup xs)) os H := by
  obtain ⟨hs, a, b, c⟩ := h.ps
  have sf : Same F (upd F p (.tup xs)) := fun q u eu => by
    by_cases z : q = p
    · subst z
      rw [upd_same, ← h.ex q u eu, hp]
    · rw [upd_ne z]
      exact eu
  refine ⟨sf, fun q u eu => ?_, hs, a.mono sf, fun g hg => ⟨(b g hg).1, fun q eq => ?_, (b g hg).2.2⟩, c⟩
  · by_cases z : q = p
    · subst z
      rw [upd_same] at eu
      rw [hp, eu]
    · rw [upd_ne z] at eu
      exact h.ex q u eu
  · by_cases z : q = p
    · subst z
      cases y : g q with
      | none => rfl
      | some w =>
        have e1 := (b g hg).1 q w y
        rw [hp] at e1
        cases e1
        exact ((b g hg).2.2 q xs y).elim
    · rw [upd_ne z] at eq
      exact (b g hg).2.1 q eq
/-- an entry known by less -/
theorem Ow.weak (h : Ow F ((p, e) :: os) H) (k : ∀ F' g, e p F' g → e' p F' g) : Ow F ((p, e') :: os) H := by
  obtain ⟨hs, a, b, c⟩ := h.ps
  cases a with
  | cons h1 h2 => exact ⟨h.ex, _, .cons (fun G g => k G _ (h1 G g)) h2, b, c⟩
/-- entries of one thing -/
def Uni (e : Ent) (r : Hp → HO → Prop) : Prop := ∀ p F h, e p F h → ∃ o, h = one p o ∧ r F o
theorem Ow.atU {r : Hp → HO → Prop} (u : Uni e r) (h : Ow F ((p, e) :: os) H) : F p = none ∧ ∃ o, H p = some o ∧ e p F (one p o) ∧ r F o := by
  obtain ⟨k, h1, s, x, _, _⟩ := h.wr
  obtain ⟨o, rfl, hr⟩ := u p F k (h1 F (Same.refl F))
  exact ⟨Classical.byContradiction fun q => (by have := x p q; rw [one_at] at this; cases this), o, s p o one_at, h1 F (Same.refl F), hr⟩
theorem Ow.putU {r : Hp → HO → Prop} (u : Uni e r) (h : Ow F ((p, e) :: os) H) (he : ∀ F', Same F F' → e' p F' (one p o)) (nt : ∀ xs, o ≠ .tup xs := by intro _ z; cases z) : Ow F ((p, e') :: os) (upd H p o) := by
  obtain ⟨k, h1, s, x, _, w⟩ := h.wr
  obtain ⟨o', rfl, hr⟩ := u p F k (h1 F (Same.refl F))
  rw [← ov_one]
  exact w p e' _ (fun a ha => .inl (by rw [one_of ha, one_at]; simp)) (nt_one nt) he
theorem Ow.freezeU {r : Hp → HO → Prop} (u : Uni e r) (h : Ow F ((p, e) :: os) H) : ∃ o, H p = some o ∧ r F o ∧ Same F (upd F p o) ∧ Ow (upd F p o) os H := by
  obtain ⟨k, h1, s, x, sf, w⟩ := h.freeze
  obtain ⟨o, rfl, hr⟩ := u p F k (h1 F (Same.refl F))
  rw [ov_one] at sf w
  exact ⟨o, s p o one_at, hr, sf, w⟩
theorem uni_ol {ds : List PyData} : Uni (ol ds) (fun F o => ∃ vs, o = .lst vs ∧ DqAll F vs ds) := fun p F h ⟨vs, e, d⟩ => ⟨_, e, vs, rfl, d⟩
theorem Ow.atL {ds : List PyData} (h : Ow F ((p, ol ds) :: os) H) : F p = none ∧ ∃ vs, H p = some (.lst vs) ∧ DqAll F vs ds := by
  obtain ⟨a, o, b, _, vs, rfl, d⟩ := h.atU uni_ol
  exact ⟨a, vs, b, d⟩
theorem Ow.putL {ds ds' : List PyData} {vs : List V} (h : Ow F ((p, ol ds) :: os) H) (hd : DqAll F vs ds') : Ow F ((p, ol ds') :: os) (upd H p (.lst vs)) :=
  h.putU uni_ol fun G g => ⟨vs, rfl, dqall_mono g _ _ hd⟩
end
theorem perm_at {α : Type} : ∀ {l : List α} {k : Nat} {q : α}, l[k]? = some q → l.Perm (q :: l.eraseIdx k)
  | [], k, q, h => by simp at h
  | x :: l, 0, q, h => by
    simp at h
    subst h
    exact List.Perm.refl _
  | x :: l, k + 1, q, h => by
    have h1 : l[k]? = some q := by simpa using h
    exact ((perm_at h1).cons x).trans (List.Perm.swap q x _)
theorem perm_set {α : Type} : ∀ {l : List α} {k : Nat} {q q' : α}, l[k]? = some q → (q' :: l.eraseIdx k).Perm (l.set k q')
  | [], k, q, q', h => by simp at h
  | x :: l, 0, q, q', h => List.Perm.refl _
  | x :: l, k + 1, q, q', h => by
    have h1 : l[k]? = some q := by simpa using h
    exact (List.Perm.swap x q' _).trans ((perm_set (q' := q') h1).cons x)
structure Sl (F : Hp) (es : List Slot) (σ : L2.St) : Prop where
  len : σ.length = es.length
  get : ∀ (i : Nat) (s : Slot), es[i]? = some s → ∃ v : Option V, σ[i]? = some v ∧ ∀ F', Same F F' → s F' v
section
variable {F F' H : Hp} {es : List Slot} {σ : L2.St} {i : Nat} {φ : VP} {v : V}
theorem Sl.mono (h : Sl F es σ) (e : Same F F') : Sl F' es σ := ⟨h.len, fun i s q => let ⟨v, a, b⟩ := h.get i s q; ⟨v, a, fun G g => b G (e.trans g)⟩⟩
theorem Sl.val (h : Sl F es σ) (q : es[i]? = some (sl φ)) : ∃ v, σ[i]? = some (some v) ∧ Cl φ F v := by
  obtain ⟨o, a, b⟩ := h.get i _ q
  obtain ⟨v, rfl, _⟩ := b F (Same.refl F)
  refine ⟨v, a, fun G g => ?_⟩
  obtain ⟨u, e, z⟩ := b G g
  cases e
  exact z
theorem Sl.set (h : Sl F es σ) {s : Slot} {o : Option V} (k : ∀ F', Same F F' → s F' o) : Sl F (es.set i s) (σ.set i o) := by
  refine ⟨by rw [List.length_set, List.length_set, h.len], fun j t q => ?_⟩
  by_cases hj : i = j
  · subst hj
    have hi : i < es.length := by
      have := (List.getElem?_eq_some_iff.mp q).1
      rw [List.length_set] at this
      exact this
    rw [List.getElem?_set_self hi] at q
    cases q
    exact ⟨o, List.getElem?_set_self (by rw [h.len]; exact hi), k⟩
  · rw [List.getElem?_set_ne hj] at q ⊢
    exact h.get j t q
theorem Sl.put (h : Sl F es σ) (k : Cl φ F v) : Sl F (es.set i (sl φ)) (σ.set i (some v)) := h.set fun G g => ⟨v, rfl, k G g⟩
/-- slots may be forgotten: each new one is the old one or un -/
def Wk : List Slot → List Slot → Prop
  | [], [] => True
  | s :: ss, t :: ts => (t = s ∨ t = un) ∧ Wk ss ts
  | _, _ => False
theorem wk_get : ∀ {es es' : List Slot} {i : Nat} {t : Slot}, Wk es es' → es'[i]? = some t → ∃ s, es[i]? = some s ∧ (t = s ∨ t = un)
  | [], [], i, t, _, h => by simp at h
  | [], _ :: _, _, _, h, _ => h.elim
  | _ :: _, [], _, _, h, _ => h.elim
  | s :: ss, t :: ts, 0, u, h, e => by
    simp at e
    subst e
    exact ⟨s, rfl, h.1⟩
  | s :: ss, t :: ts, i + 1, u, h, e => wk_get (i := i) h.2 (by simpa using e)
theorem wk_len : ∀ {es es' : List Slot}, Wk es es' → es.length = es'.length
  | [], [], _ => rfl
  | [], _ :: _, h => h.elim
  | _ :: _, [], h => h.elim
  | s :: ss, t :: ts, h => by rw [List.length_cons, List.length_cons, wk_len h.2]
theorem Sl.weak {es' : List Slot} (h : Sl F es σ) (w : Wk es es') : Sl F es' σ := by
  refine ⟨h.len.trans (wk_len w), fun i t q => ?_⟩
  obtain ⟨s, a, b⟩ := wk_get w q
  obtain ⟨v, c, d⟩ := h.get i s a
  refine ⟨v, c, fun G g => ?_⟩
  rcases b with rfl | rfl
  · exact d G g
  · trivial
end
section
variable (X : Cx)
def WE (e : Expr) (σ : L2.St) (H : Hp) (Q : VK) : Prop := ∀ pins s, Inv X pins σ H s → wpAny (model X.prog X.w) X.A (eval e X.env) (EP X pins σ Q) X.xe s
def WT (e : Expr) (σ : L2.St) (H : Hp) (Q : Bool → Hp → Prop) : Prop := ∀ pins s, Inv X pins σ H s → wpAny (model X.prog X.w) X.A (isTrue e X.env (eval e X.env)) (TP X pins σ Q) X.xe s
def WW (e : Expr) (σ : L2.St) (H : Hp) (Q : Bool → Hp → Prop) : Prop := ∀ (whole : Sem Value) pins s, Inv X pins σ H s → wpAny (model X.prog X.w) X.A (isTrue e X.env whole) (TP X pins σ Q) X.xe s
def WA (es : List Expr) (σ : L2.St) (H : Hp) (Q : List V → Hp → Prop) : Prop := ∀ pos pins s, Inv X pins σ H s → wpAny (model X.prog X.w) X.A (spliced (backTo pos (starEach es X.env))) (AP X pins σ Q) X.xe s
def WS (st : Stmt) (D : Ends) (σ : L2.St) (H : Hp) : Prop := ∀ pins s, Inv X pins σ H s → wpAny (model X.prog X.w) X.A (exec st X.env) (SP X pins D) X.xe s
def WPs (sts : List Stmt) (D : Ends) (σ : L2.St) (H : Hp) : Prop := ∀ pins s, Inv X pins σ H s → wpAny (model X.prog X.w) X.A (execs sts X.env) (SP X pins D) X.xe s
end
section
variable {X : Cx} {e : Expr} {es : List Expr} {st : Stmt} {sts : List Stmt} {σ : L2.St} {H : Hp} {Q : VK} {te : TE} {tt : TT} {ta : TA} {ts : TS}
theorem pe_u : PE X e (WE X e) := ⟨fun pins s _ _ _ I h => h pins s I⟩
theorem pt_u : PT X e (WT X e) := ⟨fun pins s _ _ _ I h => h pins s I⟩
theorem pw_u : PW X e (WW X e) := ⟨fun w pins s _ _ _ I h => h w pins s I⟩
theorem pa_u : PA X es (WA X es) := ⟨fun pos pins s _ _ _ I h => h pos pins s I⟩
theorem ps_u : PS X st (WS X st) := ⟨fun pins s _ _ _ I h => h pins s I⟩
theorem pss_u : PSs X sts (WPs X sts) := ⟨fun pins s _ _ _ I h => h pins s I⟩
theorem we_of (h : PE X e te) (q : te σ H Q) : WE X e σ H Q := fun pins s I => h.run pins s σ H Q I q
theorem wt_of {Q : Bool → Hp → Prop} (h : PT X e tt) (q : tt σ H Q) : WT X e σ H Q := fun pins s I => h.run pins s σ H Q I q
theorem ww_of {Q : Bool → Hp → Prop} (h : PW X e tt) (q : tt σ H Q) : WW X e σ H Q := fun w pins s I => h.run w pins s σ H Q I q
theorem wa_of {Q : List V → Hp → Prop} (h : PA X es ta) (q : ta σ H Q) : WA X es σ H Q := fun pos pins s I => h.run pos pins s σ H Q I q
theorem ws_of {D : Ends} (h : PS X st ts) (q : ts D σ H) : WS X st D σ H := fun pins s I => h.run pins s σ H D I q
theorem wps_of {D : Ends} (h : PSs X sts ts) (q : ts D σ H) : WPs X sts D σ H := fun pins s I => h.run pins s σ H D I q
theorem wps_cons {D : Ends} (h : WS X st { D with nx := WPs X sts D } σ H) : WPs X (st :: sts) D σ H := wps_of (pss_cons ps_u pss_u) h
theorem wps_nil {D : Ends} (h : D.nx σ H) : WPs X [] D σ H := wps_of pss_nil h
end
def ClA : List VP → Hp → List V → Prop
  | [], _, vs => vs = []
  | φ :: φs, F, vs => ∃ v r, vs = v :: r ∧ Cl φ F v ∧ ClA φs F r
theorem cla_len {F : Hp} : ∀ {φs : List VP} {vs : List V}, ClA φs F vs → vs.length = φs.length
  | [], _, h => by rw [h]; rfl
  | φ :: φs, _, ⟨v, r, e1, h1, h2⟩ => by rw [e1, List.length_cons, List.length_cons, cla_len h2]
section
variable (X : Cx) (es : List Slot) (os : Os)
/-- e gives a value of which φ holds; what is owned goes from os to os' -/
def EX (e : Expr) (φ : VP) (os' : Os) : Prop := ∀ F σ H Q, Ow F os H → Sl F es σ → (∀ F' H' v, Same F F' → Ow F' os' H' → Cl φ F' v → Q v H') → WE X e σ H Q
/-- e gives a new list, owned from now on -/
def EN (e : Expr) (n : Ent) (os' : Os) : Prop := ∀ F σ H Q, Ow F os H → Sl F es σ → (∀ F' H' p, Same F F' → Ow F' ((p, n) :: os') H' → Q (.ref p) H') → WE X e σ H Q
def TX (e : Expr) (b : Bool) (os' : Os) : Prop := ∀ F σ H Q, Ow F os H → Sl F es σ → (∀ F' H', Same F F' → Ow F' os' H' → Q b H') → WT X e σ H Q
def WX (e : Expr) (b : Bool) (os' : Os) : Prop := ∀ F σ H Q, Ow F os H → Sl F es σ → (∀ F' H', Same F F' → Ow F' os' H' → Q b H') → WW X e σ H Q
def AX (as : List Expr) (φs : List VP) (os' : Os) : Prop := ∀ F σ H Q, Ow F os H → Sl F es σ → (∀ F' H' vs, Same F F' → Ow F' os' H' → ClA φs F' vs → Q vs H') → WA X as σ H Q
def SX (F0 : Hp) (sts : List Stmt) (D : Ends) : Prop := ∀ F σ H, Same F0 F → Ow F os H → Sl F es σ → WPs X sts D σ H
end
end Z
namespace Z
open PySem PySem.Spec PyProof.Rows L2
section
variable {X : Cx} {es : List Slot} {os os1 os2 os3 : Os} {a b c : Expr} {pos : Pos}
theorem EX.is {φ ψ : VP} {e : Expr} (h : EX X es os e φ os1) (k : φ = ψ) : EX X es os e ψ os1 := k ▸ h
theorem EX.perm {φ : VP} {e : Expr} (h : EX X es os e φ os1) (k : os1.Perm os2) : EX X es os e φ os2 := fun F σ H Q ow sl q =>
  h F σ H Q ow sl fun F' H' v e o c => q F' H' v e (o.perm k) c
theorem EX.pre {φ : VP} {e : Expr} (h : EX X es os e φ os1) (k : os2.Perm os) : EX X es os2 e φ os1 := fun F σ H Q ow sl q => h F σ H Q (ow.perm k) sl q
/-- a new list, given away: it is data from now on -/
theorem EN.ex {e : Expr} {ds : List PyData} (h : EN X es os e (ol ds) os1) : EX X es os e (dat (.list ds)) os1 := fun F σ H Q ow sl q =>
  h F σ H Q ow sl fun F' H' p e o => by
    obtain ⟨u, hu, ⟨vs, rfl, hv⟩, s, o2⟩ := o.freezeU uni_ol
    exact q _ H' (.ref p) (e.trans s) o2 (cl_dat (.lst upd_same (dqall_mono s _ _ hv)))
theorem ex_name {i : Nat} {x : Str} {φ : VP} (hN : X.N[i]? = some x) (hv : Vis X.env.scope x) (hd : (x == ("__debug__" : Str)) = false) (hcd : (x == ("__classdict__" : Str)) = false) (h : es[i]? = some (sl φ)) : EX X es os (.Name x pos) φ os := fun F σ H Q ow sl q => by
  obtain ⟨v, e, k⟩ := sl.val h
  exact we_of (pe_var hN hv hd hcd) ⟨v, e, q F H v (Same.refl F) ow k⟩
theorem ex_int {i : Int} {j} : EX X es os (.Constant (.int i) j pos) (dat (.int i)) os := fun F σ H Q ow sl q => we_of pe_int (q F H _ (Same.refl F) ow (cl_dat (.int i)))
theorem ex_bool {i : Bool} {j} : EX X es os (.Constant (.bool i) j pos) (dat (.bool i)) os := fun F σ H Q ow sl q => we_of pe_bl (q F H _ (Same.refl F) ow (cl_dat (.bl i)))
theorem ex_none {j} : EX X es os (.Constant .none j pos) (dat .none) os := fun F σ H Q ow sl q => we_of pe_non (q F H _ (Same.refl F) ow (cl_dat .non))
/-- a module's constant that holds an int -/
theorem ex_gint {x : Str} {i : Int} {t : Tok} (hg : Gl X x) (hm : X.mg x = some (.int i t)) (hd : (x == ("__debug__" : Str)) = false) : EX X es os (.Name x pos) (dat (.int i)) os := fun F σ H Q ow sl q =>
  we_of (pe_glob (v := .int i) hg hm ⟨t, rfl⟩ hd) (q F H _ (Same.refl F) ow (cl_dat (.int i)))
theorem clv_int {F : Hp} {v : V} {i : Int} (h : Cl (dat (.int i)) F v) : v = .int i := by
  have := h.now
  cases this
  rfl
theorem clv_bool {F : Hp} {v : V} {i : Bool} (h : Cl (dat (.bool i)) F v) : v = .bl i := by
  have := h.now
  cases this
  rfl
theorem clv_str {F : Hp} {v : V} {i : Str} (h : Cl (dat (.str i)) F v) : v = .str i := by
  have := h.now
  cases this
  rfl
/-- by values: r gives a datum where the operands are φ and ψ -/
def R2X (X : Cx) (r : R2) (φ ψ : VP) (os : Os) (d : VP) : Prop := ∀ F H x y Q, Ow F os H → Cl φ F x → Cl ψ F y → (∀ F' H' v, Same F F' → Ow F' os H' → Cl d F' v → Q v H') → r x y H Q
theorem ex_bin {op : Operator} {r : R2} {φ ψ d : VP} (ho : OpR X (binaryOp op) r) (hr : R2X X r φ ψ os2 d) (ha : EX X es os a φ os1) (hb : EX X es os1 b ψ os2) : EX X es os (.BinOp a op b pos) d os2 := fun F σ H Q ow sl q =>
  we_of (pe_op ho pe_u pe_u) (ha F σ H _ ow sl fun F1 H1 x e1 o1 c1 => hb F1 σ H1 _ o1 (sl.mono e1) fun F2 H2 y e2 o2 c2 =>
    hr F2 H2 x y Q o2 (c1.mono e2) c2 fun F3 H3 v e3 o3 c3 => q F3 H3 v ((e1.trans e2).trans e3) o3 c3)
theorem r2_I {C : Int → Int → Prop} {g : Int → Int → Int} {i j : Int} (h : C i j) : R2X X (rI C fun i j => .int (g i j)) (dat (.int i)) (dat (.int j)) os (dat (.int (g i j))) := fun F H x y Q ow cx cy q =>
  ⟨i, j, clv_int cx, clv_int cy, h, q F H _ (Same.refl F) ow (cl_dat (.int _))⟩
theorem r2_I0 {g : Int → Int → Int} {i j : Int} : R2X X (rI0 fun i j => .int (g i j)) (dat (.int i)) (dat (.int j)) os (dat (.int (g i j))) := fun F H x y Q ow cx cy q =>
  ⟨i, j, clv_int cx, clv_int cy, q F H _ (Same.refl F) ow (cl_dat (.int _))⟩
theorem r2_B0 {g : Int → Int → Bool} {i j : Int} : R2X X (rI0 fun i j => .bl (g i j)) (dat (.int i)) (dat (.int j)) os (dat (.bool (g i j))) := fun F H x y Q ow cx cy q =>
  ⟨i, j, clv_int cx, clv_int cy, q F H _ (Same.refl F) ow (cl_dat (.bl _))⟩
theorem ex_add {i j : Int} (ha : EX X es os a (dat (.int i)) os1) (hb : EX X es os1 b (dat (.int j)) os2) : EX X es os (.BinOp a .Add b pos) (dat (.int (i + j))) os2 := ex_bin op_add r2_I0 ha hb
theorem ex_sub {i j : Int} (ha : EX X es os a (dat (.int i)) os1) (hb : EX X es os1 b (dat (.int j)) os2) : EX X es os (.BinOp a .Sub b pos) (dat (.int (i - j))) os2 := ex_bin op_sub r2_I0 ha hb
/-- a product: told by mulO, which is none where both factors are very great -/
def mulO (i j : Int) : Option Int := if i.natAbs.log2 + j.natAbs.log2 < 1000000 then some (i * j) else none
theorem ex_mul {i j m : Int} (hm : mulO i j = some m) (ha : EX X es os a (dat (.int i)) os1) (hb : EX X es os1 b (dat (.int j)) os2) : EX X es os (.BinOp a .Mult b pos) (dat (.int m)) os2 := by
  unfold mulO at hm
  split at hm
  · rename_i h
    cases hm
    exact ex_bin op_mulW (r2_I h) ha hb
  · cases hm
/-- a product with a written factor -/
theorem ex_mulL {i j : Int} (h : -(2 ^ 64) < i ∧ i < 2 ^ 64) (ha : EX X es os a (dat (.int i)) os1) (hb : EX X es os1 b (dat (.int j)) os2) : EX X es os (.BinOp a .Mult b pos) (dat (.int (i * j))) os2 := ex_bin op_mul (r2_I (.inl h)) ha hb
theorem ex_mulR {i j : Int} (h : -(2 ^ 64) < j ∧ j < 2 ^ 64) (ha : EX X es os a (dat (.int i)) os1) (hb : EX X es os1 b (dat (.int j)) os2) : EX X es os (.BinOp a .Mult b pos) (dat (.int (i * j))) os2 := ex_bin op_mul (r2_I (.inr h)) ha hb
/-- i // j, i % j: for a positive j below 2 ^ 9000 -/
def fdivO (i j : Int) : Option Int := if 0 < j ∧ j.natAbs.log2 < 9000 then some (i / j) else none
def modO (i j : Int) : Option Int := if 0 < j then some (i % j) else none
theorem ex_fdiv {i j m : Int} (hm : fdivO i j = some m) (ha : EX X es os a (dat (.int i)) os1) (hb : EX X es os1 b (dat (.int j)) os2) : EX X es os (.BinOp a .FloorDiv b pos) (dat (.int m)) os2 := by
  unfold fdivO at hm
  split at hm
  · rename_i h
    cases hm
    exact ex_bin op_fdivW (r2_I h) ha hb
  · cases hm
theorem ex_mod {i j m : Int} (hm : modO i j = some m) (ha : EX X es os a (dat (.int i)) os1) (hb : EX X es os1 b (dat (.int j)) os2) : EX X es os (.BinOp a .Mod b pos) (dat (.int m)) os2 := by
  unfold modO at hm
  split at hm
  · rename_i h
    cases hm
    exact ex_bin op_mod (r2_I (C := fun _ j => 0 < j) h) ha hb
  · cases hm
/-- i ** j -/
def powO (i j : Int) : Option Int := if 0 ≤ j ∧ (Builtin.Int.intBits i : Int) * j ≤ 2 ^ 27 then some (i ^ j.toNat) else none
theorem op_powW : OpR X (binaryOp .Pow) (rI (fun i j => 0 ≤ j ∧ (Builtin.Int.intBits i : Int) * j ≤ 2 ^ 27) fun i j => .int (i ^ j.toNat)) := opI fun _ _ _ _ _ _ _ hc q => pow_int hc.1 hc.2 q
theorem ex_pow {i j m : Int} (hm : powO i j = some m) (ha : EX X es os a (dat (.int i)) os1) (hb : EX X es os1 b (dat (.int j)) os2) : EX X es os (.BinOp a .Pow b pos) (dat (.int m)) os2 := by
  unfold powO at hm
  split at hm
  · rename_i h
    cases hm
    exact ex_bin op_powW (r2_I h) ha hb
  · cases hm
theorem ex_neg {i : Int} (ha : EX X es os a (dat (.int i)) os1) : EX X es os (.UnaryOp .USub a pos) (dat (.int (-i))) os1 := fun F σ H Q ow sl q =>
  we_of (pe_un un_neg pe_u) (ha F σ H _ ow sl fun F1 H1 x e1 o1 c1 => ⟨i, clv_int c1, q F1 H1 _ e1 o1 (cl_dat (.int _))⟩)
theorem ex_cmp {op : CmpOp} {r : R2} {φ ψ d : VP} (ho : OpR X (compareOp op) r) (hr : R2X X r φ ψ os2 d) (hm : behindInMarks op b = false) (ha : EX X es os a φ os1) (hb : EX X es os1 b ψ os2) : EX X es os (.Compare a [op] [b] pos) d os2 := fun F σ H Q ow sl q =>
  we_of (pe_cmpR ho pe_u pe_u hm) (ha F σ H _ ow sl fun F1 H1 x e1 o1 c1 => hb F1 σ H1 _ o1 (sl.mono e1) fun F2 H2 y e2 o2 c2 =>
    hr F2 H2 x y Q o2 (c1.mono e2) c2 fun F3 H3 v e3 o3 c3 => q F3 H3 v ((e1.trans e2).trans e3) o3 c3)
theorem tx_cmp {op : CmpOp} {r : R2} {φ ψ : VP} {k : Bool} (ho : OpR X (compareOp op) r) (hr : R2X X r φ ψ os2 (dat (.bool k))) (hm : behindInMarks op b = false) (ha : EX X es os a φ os1) (hb : EX X es os1 b ψ os2) : TX X es os (.Compare a [op] [b] pos) k os2 := fun F σ H Q ow sl q =>
  wt_of (pt_cmpR ho pe_u pe_u hm) (ha F σ H _ ow sl fun F1 H1 x e1 o1 c1 => hb F1 σ H1 _ o1 (sl.mono e1) fun F2 H2 y e2 o2 c2 =>
    hr F2 H2 x y _ o2 (c1.mono e2) c2 fun F3 H3 v e3 o3 c3 => ⟨k, clv_bool c3, q F3 H3 ((e1.trans e2).trans e3) o3⟩)
theorem r2_lt {i j : Int} : R2X X (rI0 fun i j => .bl (decide (i < j))) (dat (.int i)) (dat (.int j)) os (dat (.bool (decide (i < j)))) := r2_B0
theorem r2_le {i j : Int} : R2X X (rI0 fun i j => .bl (decide (i ≤ j))) (dat (.int i)) (dat (.int j)) os (dat (.bool (decide (i ≤ j)))) := r2_B0
theorem r2_gt {i j : Int} : R2X X (rI0 fun i j => .bl (decide (j < i))) (dat (.int i)) (dat (.int j)) os (dat (.bool (decide (j < i)))) := r2_B0
theorem r2_ge {i j : Int} : R2X X (rI0 fun i j => .bl (decide (j ≤ i))) (dat (.int i)) (dat (.int j)) os (dat (.bool (decide (j ≤ i)))) := r2_B0
theorem shaped_lay {d : PyData} (h : SeqAt.shaped d = true) : d.hasDict = false := by
  unfold SeqAt.shaped at h
  rw [Bool.and_eq_true] at h
  exact nod_lay d h.1
theorem r2_eqI {i j : Int} : R2X X rEq (dat (.int i)) (dat (.int j)) os (dat (.bool (decide (i = j)))) := fun F H x y Q ow cx cy q => by
  rw [clv_int cx, clv_int cy]
  refine ⟨rfl, ?_⟩
  rw [dec_int, Bool.beq_eq_decide_eq]
  exact q F H _ (Same.refl F) ow (cl_dat (.bl _))
theorem r2_neI {i j : Int} : R2X X rNe (dat (.int i)) (dat (.int j)) os (dat (.bool (!decide (i = j)))) := fun F H x y Q ow cx cy q => by
  rw [clv_int cx, clv_int cy]
  refine ⟨rfl, ?_⟩
  rw [dec_int, Bool.beq_eq_decide_eq]
  exact q F H _ (Same.refl F) ow (cl_dat (.bl _))
theorem r2_eqS {i j : Str} : R2X X rEq (dat (.str i)) (dat (.str j)) os (dat (.bool (decide (i = j)))) := fun F H x y Q ow cx cy q => by
  rw [clv_str cx, clv_str cy]
  refine ⟨rfl, ?_⟩
  have e : decide (V.str i = V.str j) = decide (i = j) := by simp only [V.str.injEq]
  rw [e]
  exact q F H _ (Same.refl F) ow (cl_dat (.bl _))
theorem r2_neS {i j : Str} : R2X X rNe (dat (.str i)) (dat (.str j)) os (dat (.bool (!decide (i = j)))) := fun F H x y Q ow cx cy q => by
  rw [clv_str cx, clv_str cy]
  refine ⟨rfl, ?_⟩
  have e : decide (V.str i = V.str j) = decide (i = j) := by simp only [V.str.injEq]
  rw [e]
  exact q F H _ (Same.refl F) ow (cl_dat (.bl _))
/-- a < b < c -/
theorem ex_chain {op op' : CmpOp} {r r' : R2} {φ ψ χ : VP} {k k' : Bool} (ho : OpR X (compareOp op) r) (ho' : OpR X (compareOp op') r') (hr : R2X X r φ ψ os2 (dat (.bool k))) (hr' : R2X X r' ψ χ os3 (dat (.bool k'))) (h23 : k = false → os2 = os3)
    (ha : EX X es os a φ os1) (hb : EX X es os1 b ψ os2) (hc : k = true → EX X es os2 c χ os3) (hlm : lastMarks [op, op'] [b, c] = false := by rfl) : EX X es os (.Compare a [op, op'] [b, c] pos) (dat (.bool (k && k'))) os3 := fun F σ H Q ow sl q =>
  we_of (pe_chain ho ho' pe_u pe_u pe_u hlm) (ha F σ H _ ow sl fun F1 H1 x e1 o1 c1 => hb F1 σ H1 _ o1 (sl.mono e1) fun F2 H2 y e2 o2 c2 =>
    hr F2 H2 x y _ o2 (c1.mono e2) c2 fun F3 H3 v e3 o3 c3 => ⟨k, clv_bool c3, by
      have e := (e1.trans e2).trans e3
      cases k with
      | true =>
        rw [if_pos rfl]
        refine hc rfl F3 σ H3 _ o3 (sl.mono e) fun F4 H4 z e4 o4 c4 => ?_
        exact hr' F4 H4 y z Q o4 ((c2.mono e3).mono e4) c4 fun F5 H5 v e5 o5 c5 => q F5 H5 v ((e.trans e4).trans e5) o5 (by simpa using c5)
      | false =>
        rw [if_neg Bool.false_ne_true]
        exact q F3 H3 _ e (h23 rfl ▸ o3) (cl_dat (.bl _))⟩)
theorem tx_val {e : Expr} {k : Bool} (h : EX X es os e (dat (.bool k)) os1) (he : ∀ whole, isTrue e X.env whole = (do let v ← whole; standAt e.pos; holding [v] (truthy v)) := by intro _; rfl) : TX X es os e k os1 := fun F σ H Q ow sl q =>
  wt_of (pt_val pe_u he) (h F σ H _ ow sl fun F1 H1 x e1 o1 c1 => ⟨k, clv_bool c1, q F1 H1 e1 o1⟩)
theorem tx_not {k : Bool} (h : TX X es os a k os1) : TX X es os (.UnaryOp .Not a pos) (!k) os1 := fun F σ H Q ow sl q =>
  wt_of (pt_not pt_u) (h F σ H _ ow sl fun F1 H1 e1 o1 => q F1 H1 e1 o1)
theorem WX.tx {e : Expr} {k : Bool} (h : WX X es os e k os1) : TX X es os e k os1 := fun F σ H Q ow sl q => wt_of (PW.pt pw_u) (h F σ H Q ow sl q)
theorem wx_and1 {k : Bool} (h : TX X es os a k os1) : WX X es os (.BoolOp .And [a] pos) k os1 := fun F σ H Q ow sl q => ww_of (pw_and1 pt_u) (h F σ H Q ow sl q)
theorem wx_or1 {k : Bool} (h : TX X es os a k os1) : WX X es os (.BoolOp .Or [a] pos) k os1 := fun F σ H Q ow sl q => ww_of (pw_or1 pt_u) (h F σ H Q ow sl q)
theorem wx_and {rest : List Expr} {k l m : Bool} (h1 : TX X es os a k os1) (h2 : k = true → WX X es os1 (.BoolOp .And (b :: rest) pos) l os2) (hf : k = false → os1 = os2) (hm : (k && l) = m) : WX X es os (.BoolOp .And (a :: b :: rest) pos) m os2 := fun F σ H Q ow sl q =>
  ww_of (pw_and pt_u pw_u) (h1 F σ H _ ow sl fun F1 H1 e1 o1 => by
    cases k with
    | true =>
      rw [if_pos rfl]
      exact h2 rfl F1 σ H1 Q o1 (sl.mono e1) fun F2 H2 e2 o2 => by rw [← hm] at q; exact q F2 H2 (e1.trans e2) o2
    | false =>
      rw [if_neg Bool.false_ne_true]
      rw [← hm] at q
      exact q F1 H1 e1 (hf rfl ▸ o1))
theorem wx_or {rest : List Expr} {k l m : Bool} (h1 : TX X es os a k os1) (h2 : k = false → WX X es os1 (.BoolOp .Or (b :: rest) pos) l os2) (hf : k = true → os1 = os2) (hm : (k || l) = m) : WX X es os (.BoolOp .Or (a :: b :: rest) pos) m os2 := fun F σ H Q ow sl q =>
  ww_of (pw_or pt_u pw_u) (h1 F σ H _ ow sl fun F1 H1 e1 o1 => by
    cases k with
    | false =>
      rw [if_neg Bool.false_ne_true]
      exact h2 rfl F1 σ H1 Q o1 (sl.mono e1) fun F2 H2 e2 o2 => by rw [← hm] at q; exact q F2 H2 (e1.trans e2) o2
    | true =>
      rw [if_pos rfl]
      rw [← hm] at q
      exact q F1 H1 e1 (hf rfl ▸ o1))
/-- as values -/
theorem ex_one {op} {φ : VP} (h : EX X es os a φ os1) : EX X es os (.BoolOp op [a] pos) φ os1 := fun F σ H Q ow sl q => we_of (pe_one pe_u) (h F σ H Q ow sl q)
theorem ex_and {rest : List Expr} {k l m : Bool} (h1 : EX X es os a (dat (.bool k)) os1) (h2 : k = true → EX X es os1 (.BoolOp .And (b :: rest) pos) (dat (.bool l)) os2) (hf : k = false → os1 = os2) (hm : (k && l) = m) :
    EX X es os (.BoolOp .And (a :: b :: rest) pos) (dat (.bool m)) os2 := fun F σ H Q ow sl q =>
  we_of (pe_and pe_u pe_u) (h1 F σ H _ ow sl fun F1 H1 x e1 o1 c1 => ⟨k, clv_bool c1, by
    subst hm
    cases k with
    | true =>
      rw [if_pos rfl]
      exact h2 rfl F1 σ H1 Q o1 (sl.mono e1) fun F2 H2 v e2 o2 c2 => q F2 H2 v (e1.trans e2) o2 (by simpa using c2)
    | false =>
      rw [if_neg Bool.false_ne_true]
      exact q F1 H1 _ e1 (hf rfl ▸ o1) (cl_dat (.bl _))⟩)
theorem ex_not {k : Bool} (h : EX X es os a (dat (.bool k)) os1) : EX X es os (.UnaryOp .Not a pos) (dat (.bool (!k))) os1 := fun F σ H Q ow sl q =>
  we_of (pe_not pe_u) (h F σ H _ ow sl fun F1 H1 x e1 o1 c1 => ⟨k, clv_bool c1, q F1 H1 _ e1 o1 (cl_dat (.bl _))⟩)
theorem ex_if {k : Bool} {φ : VP} (hc : TX X es os c k os1) (ha : k = true → EX X es os1 a φ os2) (hb : k = false → EX X es os1 b φ os2) : EX X es os (.IfExp c a b pos) φ os2 := fun F σ H Q ow sl q =>
  we_of (pe_ifExp pt_u pe_u pe_u) (hc F σ H _ ow sl fun F1 H1 e1 o1 => by
    cases k with
    | true =>
      rw [if_pos rfl]
      exact ha rfl F1 σ H1 Q o1 (sl.mono e1) fun F2 H2 v e2 => q F2 H2 v (e1.trans e2)
    | false =>
      rw [if_neg Bool.false_ne_true]
      exact hb rfl F1 σ H1 Q o1 (sl.mono e1) fun F2 H2 v e2 => q F2 H2 v (e1.trans e2))
theorem ax_nil : AX X es os [] [] os := fun F σ H Q ow sl q => wa_of pa_nil (q F H [] (Same.refl F) ow rfl)
theorem ax_cons {as : List Expr} {φ : VP} {φs : List VP} (ha : EX X es os a φ os1) (hr : AX X es os1 as φs os2) (hs : starEach (a :: as) X.env = (false, eval a X.env) :: starEach as X.env := by rfl) : AX X es os (a :: as) (φ :: φs) os2 := fun F σ H Q ow sl q =>
  wa_of (pa_cons pe_u pa_u hs) (ha F σ H _ ow sl fun F1 H1 x e1 o1 c1 => hr F1 σ H1 _ o1 (sl.mono e1) fun F2 H2 vs e2 o2 c2 => q F2 H2 _ (e1.trans e2) o2 ⟨x, vs, rfl, c1.mono e2, c2⟩)
theorem cla_dq {F : Hp} : ∀ {ds : List PyData} {vs : List V}, ClA (ds.map dat) F vs → DqAll F vs ds
  | [], _, h => by
    have e : _ = [] := h
    rw [e]
    exact .nil
  | d :: ds, _, ⟨v, r, e, h1, h2⟩ => by
    rw [e]
    exact .cons h1.now (cla_dq h2)
theorem ex_tup {as : List Expr} {x1} {ds : List PyData} (h : AX X es os as (ds.map dat) os1) (hl : ds.length ≤ sizeLine := by decide) : EX X es os (.Tuple as x1 pos) (dat (.tuple ds)) os1 := fun F σ H Q ow sl q =>
  we_of (pe_tup pa_u) (h F σ H _ ow sl fun F1 H1 vs e1 o1 c1 => by
    have hd := cla_dq c1
    refine ⟨by rw [dqall_len hd]; exact hl, fun p hp => ?_⟩
    have fp := o1.ex.free hp
    exact q _ _ _ (e1.trans (same_upd fp)) (o1.frozen hp) (cl_dat (.tup upd_same (dqall_mono (same_upd fp) _ _ hd))))
theorem en_lst {as : List Expr} {ds : List PyData} (h : AX X es os as (ds.map dat) os1) (hl : ds.length ≤ sizeLine := by decide) : EN X es os (.List as pos) (ol ds) os1 := fun F σ H Q ow sl q =>
  we_of (pe_lst pa_u) (h F σ H _ ow sl fun F1 H1 vs e1 o1 c1 => by
    have hd := cla_dq c1
    refine ⟨by rw [dqall_len hd]; exact hl, fun p hp => ?_⟩
    exact q _ _ _ e1 (o1.new hp fun G g => ⟨vs, rfl, dqall_mono g _ _ hd⟩))
/-- of every value of φ (its object owned or not): it is read as a list of ds -/
def RdL (X : Cx) (φ : VP) (os : Os) (ds : List PyData) : Prop := ∀ F H v, Ow F os H → Cl φ F v → ∃ a vs, v = .ref a ∧ SqL X.K H a vs ∧ DqAll F vs ds
def RdT (φ : VP) (ds : List PyData) : Prop := ∀ F v, Cl φ F v → ∃ a vs, v = .ref a ∧ F a = some (.tup vs) ∧ DqAll F vs ds
theorem rdl_dat {ds : List PyData} : RdL X (dat (.list ds)) os ds := fun F H v ow c => by
  have h := c.now
  cases h with
  | lst h1 h2 => exact ⟨_, _, rfl, .of (ow.ex _ _ h1), h2⟩
theorem rdl_own {p : Addr} {ds : List PyData} (k : Nat) (h : os[k]? = some (p, ol ds)) : RdL X (own p) os ds := fun F H v ow c => by
  obtain ⟨_, vs, ho, hv⟩ := (ow.perm (perm_at h)).atL
  exact ⟨p, vs, c.now, .of ho, hv⟩
/-- the script -/
def scr (K : PySem.W.Frag) (ns : List Int) : VP := fun F v => ∃ a, v = .ref a ∧ SqL K F a (ns.map V.int)
theorem rdl_scr {ns : List Int} : RdL X (scr X.K ns) os (ns.map PyData.int) := fun F H v ow c => by
  obtain ⟨a, rfl, h⟩ := c.now
  exact ⟨a, _, rfl, ow.ex.seq h, dqall_ints ns⟩
theorem rdt_dat {ds : List PyData} : RdT (dat (.tuple ds)) ds := fun F v c => by
  have h := c.now
  cases h with
  | tup h1 h2 => exact ⟨_, _, rfl, h1, h2⟩
/-- xs[i], i of any sign -/
def idx {α : Type} (xs : List α) (i : Int) : Option α := atI xs i
theorem atI_map {α β : Type} (f : α → β) {xs : List α} {i : Int} {v : α} (h : atI xs i = some v) : atI (xs.map f) i = some (f v) := by
  unfold atI at h ⊢
  rw [List.length_map]
  cases e : ixN xs.length i with
  | none => rw [e] at h; cases h
  | some j =>
    rw [e] at h
    have h' : xs[j]? = some v := h
    show (xs.map f)[j]? = some (f v)
    rw [List.getElem?_map, h']
    rfl
theorem atI_dq {F : Hp} {vs : List V} {ds : List PyData} {i : Int} {d : PyData} (h : DqAll F vs ds) (k : atI ds i = some d) : ∃ v, atI vs i = some v ∧ Dq F v d := by
  unfold atI at k ⊢
  rw [dqall_len h]
  cases e : ixN ds.length i with
  | none => rw [e] at k; cases k
  | some j =>
    rw [e] at k
    exact dqall_get' h k
theorem ex_ixL {φ : VP} {ds : List PyData} {i : Int} {d : PyData} (hr : RdL X φ os2 ds) (hk : atI ds i = some d) (ha : EX X es os a φ os1) (hb : EX X es os1 b (dat (.int i)) os2) (hp : PlainIx b := by exact fun _ _ => rfl) : EX X es os (.Subscript a b pos) (dat d) os2 := fun F σ H Q ow sl q =>
  we_of (pe_ix ix_list pe_u pe_u hp) (ha F σ H _ ow sl fun F1 H1 x e1 o1 c1 => hb F1 σ H1 _ o1 (sl.mono e1) fun F2 H2 y e2 o2 c2 => by
    obtain ⟨p, vs, rfl, hs, hv⟩ := hr F2 H2 x o2 (c1.mono e2)
    obtain ⟨v, hi, hd⟩ := atI_dq hv hk
    exact ⟨p, vs, i, v, rfl, clv_int c2, hs, hi, q F2 H2 v (e1.trans e2) o2 (cl_dat hd)⟩)
theorem ex_ixT {φ : VP} {ds : List PyData} {i : Int} {d : PyData} (hr : RdT φ ds) (hk : atI ds i = some d) (ha : EX X es os a φ os1) (hb : EX X es os1 b (dat (.int i)) os2) (hp : PlainIx b := by exact fun _ _ => rfl) : EX X es os (.Subscript a b pos) (dat d) os2 := fun F σ H Q ow sl q =>
  we_of (pe_ix ix_tup pe_u pe_u hp) (ha F σ H _ ow sl fun F1 H1 x e1 o1 c1 => hb F1 σ H1 _ o1 (sl.mono e1) fun F2 H2 y e2 o2 c2 => by
    obtain ⟨p, vs, rfl, hs, hv⟩ := hr F2 x (c1.mono e2)
    obtain ⟨v, hi, hd⟩ := atI_dq hv hk
    exact ⟨p, vs, i, v, rfl, clv_int c2, .of (o2.ex _ _ hs), hi, q F2 H2 v (e1.trans e2) o2 (cl_dat hd)⟩)
end
end Z
namespace Z
open PySem PySem.Spec PyProof.Rows L2
structure FnG (P : Program) (w : World) (K : PySem.W.Frag) (mg : Str → Option Value) (base : Heap) (C : CXT) (k : Nat) (f : Addr) (fd : FuncData) (ps : List Str) (sp : Sp) : Prop where
  len : ∀ vs H Q E, sp vs H Q E → vs.length = ps.length
  run : ∀ (A : Around) (outer : List Env) (s : Shared) (H : Hp) (args : Args) (us : List Value) (vs : List V) (Q : VK) (E : XK), A.guards = some [] → Room k A →
    Env0 P w K mg base A outer s H → BindsTo s fd args (ps.zip us) → Vals vs us → sp vs H Q E → codeAny (model P w) A (.call (.ref f) args) (CR C outer P w H s Q E) s
section
variable {P : Program} {w : World} {K : PySem.W.Frag} {mg : Str → Option Value} {base : Heap} {C : CXT}
theorem FnG.mono {j k : Nat} {f : Addr} {fd : FuncData} {ps : List Str} {sp : Sp} (F : FnG P w K mg base C j f fd ps sp) (h : j ≤ k) : FnG P w K mg base C k f fd ps sp :=
  ⟨F.len, fun A outer s H args us vs Q E hg hr => F.run A outer s H args us vs Q E hg (hr.mono h)⟩
/-- the body of a def is looked at once -/
theorem fun_ok {x qual : Str} {st : Stmt} {f : Addr} {fd : FuncData} {N ps : List Str} {k : Nat} {sp : Sp} (G : Fun K x qual st f fd) (S : FnScope N ps (defScope st)) (len : ∀ vs H Q E, sp vs H Q E → vs.length = ps.length)
    (body : ∀ (cdv : Value) (A : Around) (outer : List Env) (s : Shared) (H : Hp) (vs : List V) (Q : VK) (E : XK), A.guards = some [] → Room k (A.deeper (envOfC qual (defScope st) s.heap.objs.size f cdv)) → sp vs H Q E →
      WPs (cxOf C P w K mg base N qual (defScope st) f cdv A outer s H E) (defBody st) { nx := fun _ H' => Q .non H', rt := Q } (start N vs) H) : FnG P w K mg base C (k + 1) f fd ps sp := by
  obtain ⟨oc, od, kV, doc, pm, an, cdv, ct, osl, rfl, lk, hcd⟩ := G.ex
  refine ⟨len, ?_⟩
  intro A outer s H args us vs Q E hg hr e0 hb r hsp
  have inh : K.In s.heap := e0.mod.kin.keeps fun b o q => (e0.bs b o q).1
  have nol : s.heap.NoLimit := e0.mod.nolimit.keeps fun b o q => (e0.bs b o q).1
  refine codeAny_call_function hr.depth (inh _ _ lk) rfl S.co S.gen rfl (PySem.W.codeRec_of inh hcd) (hb _ _ _ _ ?_)
  refine wpAny_newFunctionEnv_cells S.kind ?_ ?_
  · rintro ⟨n, v⟩ hy
    rcases S.par n (List.of_mem_zip hy).1 with q | q
    · exact .inl q
    · exact .inr ⟨q, PySem.W.cellsFrom_some _ _ _ (.inl q)⟩
  · intro env he s1 x
    subst he
    refine ⟨nol.keeps x.toInCall.keep, codeAny_func ?_⟩
    have I := inv_start (CX := C) (P := P) (w := w) (E := E) S hr.hd e0 (len _ _ _ _ hsp) r x
    refine wpAny_mono (body cdv A outer s H vs Q E hg (hr.deeper _) hsp [] s1 I) ?_ fun _ _ z => z
    intro fl s' z
    cases fl with
    | ret u =>
      obtain ⟨v, σ', H', J, rv, q⟩ := z
      exact ⟨v, H', J.os, J.bare, J.base, J.hok, rv, q⟩
    | next =>
      obtain ⟨σ', H', J, q⟩ := z
      exact ⟨.non, H', J.os, J.bare, J.base, J.hok, rfl, q⟩
    | brk =>
      obtain ⟨_, _, _, q⟩ := z
      exact q.elim
    | cont =>
      obtain ⟨_, _, _, q⟩ := z
      exact q.elim
end
def visB (sc : Scope) (x : Str) : Bool := match sc.names.lookup x with
  | some .local => true
  | some .cell => true
  | some .free => true
  | _ => false
def locB (sc : Scope) (x : Str) : Bool := match sc.names.lookup x with
  | some .local => true
  | some .cell => true
  | _ => false
def glB (sc : Scope) (x : Str) : Bool := match sc.names.lookup x with
  | some .globalImplicit => true
  | _ => false
def dunB (x : Str) : Bool := !(x == ("__debug__" : Str)) && !(x == ("__classdict__" : Str)) && !(x == ("__name__" : Str))
theorem vis_of {sc : Scope} {x : Str} (h : visB sc x = true) : Vis sc x := by
  unfold visB at h
  split at h
  · exact .inl (by assumption)
  · exact .inr (.inl (by assumption))
  · exact .inr (.inr (by assumption))
  · cases h
theorem loc_of {sc : Scope} {x : Str} (h : locB sc x = true) : Loc sc x := by
  unfold locB at h
  split at h
  · exact .inl (by assumption)
  · exact .inr (by assumption)
  · cases h
/-- in X: the i-th name stands at its slot and is seen; the j-th global one is one -/
structure Bd (X : Cx) (N : List Str) (V G : List Str) (k : Nat) : Prop where
  hN : X.N = N
  nd : N.Nodup
  calm : X.calm = true
  gd : X.A.guards = some []
  room : Room k X.A
  vis : ∀ x ∈ V, Vis X.env.scope x ∧ dunB x = true
  gl : ∀ x ∈ G, Gl X x ∧ dunB x = true
theorem dun_d {x : Str} (h : dunB x = true) : (x == ("__debug__" : Str)) = false := by
  unfold dunB at h
  simp only [Bool.and_eq_true, Bool.not_eq_true'] at h
  exact h.1.1
theorem dun_c {x : Str} (h : dunB x = true) : (x == ("__classdict__" : Str)) = false := by
  unfold dunB at h
  simp only [Bool.and_eq_true, Bool.not_eq_true'] at h
  exact h.1.2
theorem dun_n {x : Str} (h : dunB x = true) : x ≠ "__name__" := by
  unfold dunB at h
  simp only [Bool.and_eq_true, Bool.not_eq_true', beq_eq_false_iff_ne, ne_eq] at h
  exact h.2
/-- the names of a body, all at once -/
def namB (sc : Scope) (V G : List Str) : Bool := (V.all fun x => visB sc x && dunB x) && (G.all fun x => glB sc x && dunB x)
theorem nam_vis {sc : Scope} {V G : List Str} (h : namB sc V G = true) : ∀ x ∈ V, Vis sc x ∧ dunB x = true := fun x hx => by
  unfold namB at h
  rw [Bool.and_eq_true, List.all_eq_true] at h
  have := h.1 x hx
  rw [Bool.and_eq_true] at this
  exact ⟨vis_of this.1, this.2⟩
theorem nam_gl {sc : Scope} {V G : List Str} (h : namB sc V G = true) : ∀ x ∈ G, sc.names.lookup x = some .globalImplicit ∧ dunB x = true := fun x hx => by
  unfold namB at h
  rw [Bool.and_eq_true, List.all_eq_true, List.all_eq_true] at h
  have := h.2 x hx
  rw [Bool.and_eq_true] at this
  refine ⟨?_, this.2⟩
  have q := this.1
  unfold glB at q
  split at q
  · assumption
  · cases q
section
variable {X : Cx} {es : List Slot} {os os1 os2 os3 : Os} {N V G : List Str} {k : Nat} {x : Str} {p pos : Pos} {e : Expr} {as : List Expr}
theorem ex_v {i j : Nat} {φ : VP} (B : Bd X N V G k) (hi : N[i]? = some x) (hj : V[j]? = some x) (h : es[i]? = some (sl φ)) : EX X es os (.Name x pos) φ os :=
  let ⟨a, b⟩ := B.vis x (List.mem_of_getElem? hj)
  ex_name (B.hN ▸ hi) a (dun_d b) (dun_c b) h
theorem ex_g {j : Nat} {i : Int} {t : Tok} (B : Bd X N V G k) (hj : G[j]? = some x) (hm : X.mg x = some (.int i t)) : EX X es os (.Name x pos) (dat (.int i)) os :=
  let ⟨a, b⟩ := B.gl x (List.mem_of_getElem? hj)
  ex_gint a hm (dun_d b)
def RCX (r : List L2.V → Hp → VK → Prop) (φs : List VP) (os : Os) (d : VP) (os' : Os) : Prop := ∀ F H vs Q, Ow F os H → ClA φs F vs → (∀ F' H' v, Same F F' → Ow F' os' H' → Cl d F' v → Q v H') → r vs H Q
def RCN (r : List L2.V → Hp → VK → Prop) (φs : List VP) (os : Os) (n : Ent) (os' : Os) : Prop := ∀ F H vs Q, Ow F os H → ClA φs F vs → (∀ F' H' p, Same F F' → Ow F' ((p, n) :: os') H' → Q (.ref p) H') → r vs H Q
theorem ex_fn {id : String} {r : List L2.V → Hp → VK → Prop} {φs : List VP} {d : VP} {j : Nat} (B : Bd X N V G k) (hj : G[j]? = some x) (hm : X.mg x = none) (hv : bootBuiltins x = some (.builtin id)) (hc : CallR X (.builtin id) r) (hr : RCX r φs os1 d os2)
    (ha : AX X es os (e :: as) φs os1) (he : starEach (e :: as) X.env = (false, eval e X.env) :: starEach as X.env := by rfl) (hpl : (backTo pos (starEach as X.env)).any (·.1) = false := by rfl) : EX X es os (.Call (.Name x p) (e :: as) [] pos) d os2 := fun F σ H Q ow sl q =>
  let ⟨a, b⟩ := B.gl x (List.mem_of_getElem? hj)
  we_of (pe_callB hc a hm hv pa_u (dun_n b) (dun_d b) he hpl) (ha F σ H _ ow sl fun F1 H1 vs e1 o1 c1 => hr F1 H1 vs Q o1 c1 fun F2 H2 v e2 => q F2 H2 v (e1.trans e2))
theorem en_fn {id : String} {r : List L2.V → Hp → VK → Prop} {φs : List VP} {n : Ent} {j : Nat} (B : Bd X N V G k) (hj : G[j]? = some x) (hm : X.mg x = none) (hv : bootBuiltins x = some (.builtin id)) (hc : CallR X (.builtin id) r) (hr : RCN r φs os1 n os2)
    (ha : AX X es os (e :: as) φs os1) (he : starEach (e :: as) X.env = (false, eval e X.env) :: starEach as X.env := by rfl) (hpl : (backTo pos (starEach as X.env)).any (·.1) = false := by rfl) : EN X es os (.Call (.Name x p) (e :: as) [] pos) n os2 := fun F σ H Q ow sl q =>
  let ⟨a, b⟩ := B.gl x (List.mem_of_getElem? hj)
  we_of (pe_callB hc a hm hv pa_u (dun_n b) (dun_d b) he hpl) (ha F σ H _ ow sl fun F1 H1 vs e1 o1 c1 => hr F1 H1 vs Q o1 c1 fun F2 H2 v e2 => q F2 H2 v (e1.trans e2))
theorem ex_ty {T : String} {r : List L2.V → Hp → VK → Prop} {φs : List VP} {d : VP} {j : Nat} (B : Bd X N V G k) (hj : G[j]? = some x) (hm : X.mg x = none) (hv : bootBuiltins x = some (.type T)) (hc : CallR X (.type T) r) (hr : RCX r φs os1 d os2)
    (ha : AX X es os (e :: as) φs os1) (he : starEach (e :: as) X.env = (false, eval e X.env) :: starEach as X.env := by rfl) (hpl : (backTo pos (starEach as X.env)).any (·.1) = false := by rfl) : EX X es os (.Call (.Name x p) (e :: as) [] pos) d os2 := fun F σ H Q ow sl q =>
  let ⟨a, b⟩ := B.gl x (List.mem_of_getElem? hj)
  we_of (pe_callTy hc a hm hv pa_u (dun_n b) (dun_d b) he hpl) (ha F σ H _ ow sl fun F1 H1 vs e1 o1 c1 => hr F1 H1 vs Q o1 c1 fun F2 H2 v e2 => q F2 H2 v (e1.trans e2))
theorem en_ty {T : String} {r : List L2.V → Hp → VK → Prop} {φs : List VP} {n : Ent} {j : Nat} (B : Bd X N V G k) (hj : G[j]? = some x) (hm : X.mg x = none) (hv : bootBuiltins x = some (.type T)) (hc : CallR X (.type T) r) (hr : RCN r φs os1 n os2)
    (ha : AX X es os (e :: as) φs os1) (he : starEach (e :: as) X.env = (false, eval e X.env) :: starEach as X.env := by rfl) (hpl : (backTo pos (starEach as X.env)).any (·.1) = false := by rfl) : EN X es os (.Call (.Name x p) (e :: as) [] pos) n os2 := fun F σ H Q ow sl q =>
  let ⟨a, b⟩ := B.gl x (List.mem_of_getElem? hj)
  we_of (pe_callTy hc a hm hv pa_u (dun_n b) (dun_d b) he hpl) (ha F σ H _ ow sl fun F1 H1 vs e1 o1 c1 => hr F1 H1 vs Q o1 c1 fun F2 H2 v e2 => q F2 H2 v (e1.trans e2))
theorem cla1 {φ : VP} {F : Hp} {vs : List L2.V} (h : ClA [φ] F vs) : ∃ v, vs = [v] ∧ Cl φ F v := by
  obtain ⟨v, r, e, h1, h2⟩ := h
  have e2 : r = [] := h2
  subst e2
  exact ⟨v, e, h1⟩
theorem cla2 {φ ψ : VP} {F : Hp} {vs : List L2.V} (h : ClA [φ, ψ] F vs) : ∃ v u, vs = [v, u] ∧ Cl φ F v ∧ Cl ψ F u := by
  obtain ⟨v, r, e, h1, h2⟩ := h
  obtain ⟨u, e2, h3⟩ := cla1 h2
  subst e2
  exact ⟨v, u, e, h1, h3⟩
theorem rc_max {i j : Int} : RCX (fun xs H Q => ∃ i j, xs = [L2.V.int i, .int j] ∧ Q (.int (if j > i then j else i)) H) [dat (.int i), dat (.int j)] os (dat (.int (if j > i then j else i))) os := fun F H vs Q ow c q => by
  obtain ⟨v, u, rfl, h, h2⟩ := cla2 c
  exact ⟨i, j, by rw [clv_int h, clv_int h2], q F H _ (Same.refl F) ow (cl_dat (.int _))⟩
theorem rc_min {i j : Int} : RCX (fun xs H Q => ∃ i j, xs = [L2.V.int i, .int j] ∧ Q (.int (if j < i then j else i)) H) [dat (.int i), dat (.int j)] os (dat (.int (if j < i then j else i))) os := fun F H vs Q ow c q => by
  obtain ⟨v, u, rfl, h, h2⟩ := cla2 c
  exact ⟨i, j, by rw [clv_int h, clv_int h2], q F H _ (Same.refl F) ow (cl_dat (.int _))⟩
theorem rc_intI {i : Int} : RCX (fun xs H Q => (∃ i, xs = [L2.V.int i] ∧ Q (.int i) H) ∨ ∃ k, xs = [.bl k] ∧ Q (.int (if k then 1 else 0)) H) [dat (.int i)] os (dat (.int i)) os := fun F H vs Q ow c q => by
  obtain ⟨v, rfl, h⟩ := cla1 c
  exact .inl ⟨i, by rw [clv_int h], q F H _ (Same.refl F) ow (cl_dat (.int _))⟩
theorem rc_lenL {φ : VP} {ds : List PyData} (hr : RdL X φ os ds) : RCX (fun xs H Q => ∃ p ys, xs = [L2.V.ref p] ∧ (SqL X.K H p ys ∨ SqT X.K H p ys) ∧ Q (.int ys.length) H) [φ] os (dat (.int (ds.length : Int))) os := fun F H vs Q ow c q => by
  obtain ⟨v, rfl, h⟩ := cla1 c
  obtain ⟨a, us, rfl, h1, h2⟩ := hr F H v ow h
  exact ⟨a, us, rfl, .inl h1, by rw [dqall_len h2]; exact q F H _ (Same.refl F) ow (cl_dat (.int _))⟩
theorem rc_lenT {φ : VP} {ds : List PyData} (hr : RdT φ ds) : RCX (fun xs H Q => ∃ p ys, xs = [L2.V.ref p] ∧ (SqL X.K H p ys ∨ SqT X.K H p ys) ∧ Q (.int ys.length) H) [φ] os (dat (.int (ds.length : Int))) os := fun F H vs Q ow c q => by
  obtain ⟨v, rfl, h⟩ := cla1 c
  obtain ⟨a, us, rfl, h1, h2⟩ := hr F v h
  exact ⟨a, us, rfl, .inr (.of (ow.ex _ _ h1)), by rw [dqall_len h2]; exact q F H _ (Same.refl F) ow (cl_dat (.int _))⟩
theorem rc_all {φ : VP} {bs : List Bool} (hr : RdL X φ os (bs.map PyData.bool)) : RCX (rAll X.K) [φ] os (dat (.bool (bs.all id))) os := fun F H vs Q ow c q => by
  obtain ⟨v, rfl, h⟩ := cla1 c
  obtain ⟨a, us, rfl, h1, h2⟩ := hr F H v ow h
  have e := dqall_of_bools bs h2
  subst e
  exact ⟨a, bs, rfl, h1, q F H _ (Same.refl F) ow (cl_dat (.bl _))⟩
theorem rc_any {φ : VP} {bs : List Bool} (hr : RdL X φ os (bs.map PyData.bool)) : RCX (rAny X.K) [φ] os (dat (.bool (bs.any id))) os := fun F H vs Q ow c q => by
  obtain ⟨v, rfl, h⟩ := cla1 c
  obtain ⟨a, us, rfl, h1, h2⟩ := hr F H v ow h
  have e := dqall_of_bools bs h2
  subst e
  exact ⟨a, bs, rfl, h1, q F H _ (Same.refl F) ow (cl_dat (.bl _))⟩
theorem rc_tupL {φ : VP} {ds : List PyData} (hr : RdL X φ os ds) : RCX (fun xs H Q => ∃ p ys, xs = [L2.V.ref p] ∧ ((SqL X.K H p ys ∧ ∀ l, H l = none → Q (.ref l) (upd H l (.tup ys))) ∨ (SqT X.K H p ys ∧ Q (.ref p) H))) [φ] os (dat (.tuple ds)) os := fun F H vs Q ow c q => by
  obtain ⟨v, rfl, h⟩ := cla1 c
  obtain ⟨a, us, rfl, h1, h2⟩ := hr F H v ow h
  refine ⟨a, us, rfl, .inl ⟨h1, fun l hl => ?_⟩⟩
  have fp := ow.ex.free hl
  exact q _ _ _ (same_upd fp) (ow.frozen hl) (cl_dat (.tup upd_same (dqall_mono (same_upd fp) _ _ h2)))
def isI : PyData → Bool
  | .int _ => true
  | _ => false
def shortO (d : PyData) : Bool := isI d || decide (d.shown.length ≤ sizeLine)
/-- repr of data -/
def rRepr (K : PySem.W.Frag) : List L2.V → Hp → VK → Prop := fun xs H Q => ∃ v d, xs = [v] ∧ Dp K H v d ∧ d.showable = true ∧ d.hasDict = false ∧ d.depth ≤ 60 ∧ shortO d = true ∧ Q (.str d.shown) H
theorem call_repr (gd : X.A.guards = some []) (room : Room k X.A) : CallR X (.builtin "repr") (rRepr X.K) := by
  intro pins s σ H vs us Q I r h
  obtain ⟨v, d, rfl, hd, h1, h2, h3, h4, q⟩ := h
  obtain ⟨u, rfl, ru⟩ := vals1 r
  have un := room.un
  have h5 : isI d = false → d.shown.length ≤ sizeLine := fun z => by
    unfold shortO at h4
    rw [z, Bool.false_or] at h4
    exact of_decide_eq_true h4
  cases hd with
  | non =>
    obtain rfl : u = Value.none := ru
    have e : (PyData.none).shown = ("None" : Str) := by simp only [PyData.shown]
    rw [e] at q
    exact PySem.P.repr_of_none ⟨.str _, H, I.tok _, ⟨_, rfl⟩, q⟩
  | bl b =>
    obtain rfl : u = Value.bool b := ru
    have e : (PyData.bool b).shown = (if b then "True" else "False" : Str) := by simp only [PyData.shown]
    rw [e] at q
    exact PySem.P.repr_of_bool ⟨.str _, H, I.tok _, ⟨_, rfl⟩, q⟩
  | int i =>
    obtain ⟨t, rfl⟩ := ru
    have e : (PyData.int i).shown = toString i := by simp only [PyData.shown]
    have h1' : i.natAbs.log2 < 1920 := by simpa only [PyData.showable, decide_eq_true_eq] using h1
    rw [e] at q
    exact PySem.P.repr_of_int h1' ⟨.str _, H, I.tok _, ⟨_, rfl⟩, q⟩
  | str x =>
    obtain ⟨t, rfl⟩ := ru
    have e : (PyData.str x).shown = reprText x := by simp only [PyData.shown]
    have h6 := h5 rfl
    rw [e] at q h6
    exact PySem.P.repr_of_str ⟨.str _, H, I.tok _, ⟨_, rfl⟩, q⟩ h6
  | lst hs ha =>
    obtain rfl : u = Value.ref _ := ru
    obtain ⟨as, hr⟩ := Dp.reads I _ _ (.ref _) (Dp.lst hs ha) rfl
    exact repr_of_reads' hr h1 (PyData.noDict_hsm h2) gd (by omega) (fun _ _ e => e) (fun h' tk t' hk => ⟨.str _, H, I.kept hk, ⟨_, rfl⟩, q⟩) (h5 rfl)
  | tup hs ha =>
    obtain rfl : u = Value.ref _ := ru
    obtain ⟨as, hr⟩ := Dp.reads I _ _ (.ref _) (Dp.tup hs ha) rfl
    exact repr_of_reads' hr h1 (PyData.noDict_hsm h2) gd (by omega) (fun _ _ e => e) (fun h' tk t' hk => ⟨.str _, H, I.kept hk, ⟨_, rfl⟩, q⟩) (h5 rfl)
def reprO (d : PyData) : Option Str := if d.showable = true ∧ d.hasDict = false ∧ d.depth ≤ 60 ∧ shortO d = true then some d.shown else none
theorem rc_repr {d : PyData} {t : Str} (h : reprO d = some t) : RCX (rRepr X.K) [dat d] os (dat (.str t)) os := fun F H vs Q ow c q => by
  unfold reprO at h
  split at h
  · rename_i hl
    cases h
    obtain ⟨v, rfl, h⟩ := cla1 c
    exact ⟨v, d, rfl, dq_dp _ _ _ hl.2.1 (dq_mono ow.ex _ _ h.now), hl.1, hl.2.1, hl.2.2.1, hl.2.2.2, q F H _ (Same.refl F) ow (cl_dat (.str _))⟩
  · cases h
end
end Z
namespace Z
open PySem PySem.Spec PyProof.Rows L2
/-- a def of the text that keeps a promise, as callers see it -/
structure Cal (P : Program) (w : World) (K : PySem.W.Frag) (mg : Str → Option Value) (base : Heap) (k : Nat) (x : Str) (st : Stmt) (ps : List Str) (sp : Sp) : Prop where
  ex : ∃ (f : Addr) (fd : FuncData), Fun K x x st f fd ∧ FnG P w K mg base CX0 k f fd ps sp ∧ mg x = some (.ref f) ∧ Binds K fd ps []
theorem Cal.mono {P : Program} {w : World} {K : PySem.W.Frag} {mg : Str → Option Value} {base : Heap} {j k : Nat} {x : Str} {st : Stmt} {ps : List Str} {sp : Sp} (c : Cal P w K mg base j x st ps sp) (h : j ≤ k) : Cal P w K mg base k x st ps sp :=
  let ⟨f, fd, a, b, d⟩ := c.ex
  ⟨f, fd, a, b.mono h, d⟩
section
variable {X : Cx} {k : Nat} {f : Addr} {fd : FuncData} {ps : List Str} {sp : Sp} {x : Str} {p pos : Pos} {e : Expr} {as : List Expr} {t tk : TA} {kws : List Keyword}
theorem run_g {pins : List (Addr × Obj)} {σ : L2.St} {H : Hp} {s : Shared} {Q : VK} {us zs : List Value} {kv : List (Str × Value)} {vs : List L2.V} (c : FnG X.prog X.w X.K X.mg X.base CX0 k f fd ps sp) (gd : X.A.guards = some []) (hr : Room k X.A)
    (I : Inv X pins σ H s) (b : BindsTo s fd ⟨us, kv⟩ (ps.zip zs)) (r : Vals vs zs) (h : sp vs H Q E0) : wpAny (model X.prog X.w) X.A (call (.ref f) us kv) (EP X pins σ Q) X.xe s := by
  refine wpAny_call (codeAny_mono (c.run X.A X.stack s H ⟨us, kv⟩ zs vs Q E0 gd hr I.env0 b r h) ?_)
  intro res s' hq
  cases res with
  | error e => exact hq.elim
  | ok fl =>
    cases fl with
    | ret u => exact I.after hq
    | next => exact hq.elim
    | brk => exact hq.elim
    | cont => exact hq.elim
theorem pe_g {st : Stmt} (c : Cal X.prog X.w X.K X.mg X.base k x st ps sp) (gd : X.A.guards = some []) (hr : Room k X.A) (hg : Gl X x) (ha : PA X (e :: as) t) (hdb : (x == ("__debug__" : Str)) = false)
    (he : starEach (e :: as) X.env = (false, eval e X.env) :: starEach as X.env := by rfl) (hpl : (backTo pos (starEach as X.env)).any (·.1) = false := by rfl) : PE X (.Call (.Name x p) (e :: as) [] pos) (fun σ H Q => t σ H fun vs H1 => sp vs H1 Q E0) := by
  obtain ⟨f, fd, Fn, G, hm, hb⟩ := c.ex
  refine ⟨fun pins s σ H Q I h => wpAny_Call_Name_kw (ld_glob I hg hm ?_ hdb)⟩
  refine PySem.W.callWith_K (h₀ := X.base) I.ok.mod.kin Fn.kp (thn (ha.run pos pins s σ H _ I h) ?_) he hpl
  rintro us s1 ⟨vs, H1, I1, r, q⟩
  refine ⟨I1.kIn, run_g G gd hr I1 ?_ r q⟩
  have := hb s1 us I1.kIn (by rw [List.append_nil, ← r.length]; exact G.len _ _ _ _ q)
  rw [List.append_nil] at this
  exact this
def kperm {α : Type} (n m : Nat) (pi : List Nat) (us ws : List α) : List α := if us.length = n ∧ ws.length = m then pi.filterMap fun i => (us ++ ws)[i]? else []
theorem vals_fm {vs : List L2.V} {us : List Value} (h : Vals vs us) : ∀ pi : List Nat, Vals (pi.filterMap fun i => vs[i]?) (pi.filterMap fun i => us[i]?)
  | [] => .nil
  | i :: pi => by
    rw [List.filterMap_cons, List.filterMap_cons]
    cases e : vs[i]? with
    | none =>
      rw [h.none_of e]
      exact vals_fm h pi
    | some v =>
      obtain ⟨u, e2, r⟩ := h.get e
      rw [e2]
      exact .cons r (vals_fm h pi)
theorem vals_kperm {n m : Nat} {pi : List Nat} {vs zs : List L2.V} {us ws : List Value} (h : Vals vs us) (h' : Vals zs ws) : Vals (kperm n m pi vs zs) (kperm n m pi us ws) := by
  unfold kperm
  rw [h.length, h'.length]
  split
  · exact vals_fm (h.append h') pi
  · exact .nil
/-- how the def st binds positional values and keywords ks -/
def KwOk (x : Str) (st : Stmt) (ps ks : List Str) (n : Nat) (pi : List Nat) : Prop := ∀ (kV doc pm : Value) (an : Option Addr) (cdv ct : Value) (us ws : List Value), us.length = n → ws.length = ks.length →
  bindArgs (PySem.W.fnOf x x (defArgs st) (defBody st) (defScope st) .none kV doc pm an cdv ct) ⟨us, ks.zip ws⟩ = pure (ps.zip (pi.filterMap fun i => (us ++ ws)[i]?))
theorem pe_gk0 {st : Stmt} {ks : List Str} {pi : List Nat} (c : Cal X.prog X.w X.K X.mg X.base k x st ps sp) (kw : KwOk x st ps ks 0 pi) (hps : 0 < ps.length) (gd : X.A.guards = some []) (hr : Room k X.A) (hg : Gl X x) (hk : PK X kws tk) (hdb : (x == ("__debug__" : Str)) = false)
    (hall : (backToKw pos (keywordEach kws X.env)).all (·.1.isSome) = true := by rfl) (hks : (backToKw pos (keywordEach kws X.env)).filterMap (·.1) = ks := by rfl)
    (hpl : ((backTo pos (starEach [] X.env)).any (·.1) || (backToKw pos (keywordEach kws X.env)).any (·.1.isNone)) = false := by rfl) :
    PE X (.Call (.Name x p) [] kws pos) (fun σ H Q => tk σ H fun zs H2 => sp (kperm 0 ks.length pi [] zs) H2 Q E0) := by
  obtain ⟨f, fd, Fn, G, hm, hb⟩ := c.ex
  refine ⟨fun pins s σ H Q I h => wpAny_Call_Name_kw (ld_glob I hg hm ?_ hdb)⟩
  refine PySem.W.callWith_KW0 (h₀ := X.base) I.ok.mod.kin Fn.kp hall ?_ hpl
  refine thn (hk.run pos pins s σ H _ I h) ?_
  rintro ws s2 ⟨zs, H2, I2, rz, q2⟩
  refine ⟨I2.kIn, ?_⟩
  rw [hks]
  have rk := vals_kperm (n := 0) (m := ks.length) (pi := pi) (show Vals [] [] from .nil) rz
  refine run_g (us := []) G gd hr I2 (.of_eq ?_) rk q2
  have hl := G.len _ _ _ _ q2
  obtain ⟨oc, od, kV, doc, pm, an, cdv, ct, osl, rfl, _, _⟩ := Fn.ex
  unfold kperm at hl ⊢
  split at hl
  · rename_i hh
    rw [if_pos (by rw [← rz.length]; exact hh)]
    exact kw kV doc pm an cdv ct [] ws rfl (by rw [← rz.length]; exact hh.2)
  · have : ps.length = 0 := hl.symm
    omega
end
/-- it hands back the value of which res tells -/
def spZ {α β : Type} (ps : α → List VP) (pre : α → Os) (m : α → Option β) (res : α → β → VP) (post : α → β → Os) : Sp := fun vs H Q _ =>
  ∃ (a : α) (b : β) (F : Hp) (os : Os), ClA (ps a) F vs ∧ Ow F (pre a ++ os) H ∧ m a = some b ∧ ∀ F' H' v, Same F F' → Ow F' (post a b ++ os) H' → Cl (res a b) F' v → Q v H'
/-- it hands back a new list -/
def spN {α β : Type} (ps : α → List VP) (pre : α → Os) (m : α → Option β) (n : α → β → Ent) (post : α → β → Os) : Sp := fun vs H Q _ =>
  ∃ (a : α) (b : β) (F : Hp) (os : Os), ClA (ps a) F vs ∧ Ow F (pre a ++ os) H ∧ m a = some b ∧ ∀ F' H' p, Same F F' → Ow F' ((p, n a b) :: (post a b ++ os)) H' → Q (.ref p) H'
theorem spZ_len {α β : Type} {ps : α → List VP} {pre : α → Os} {m : α → Option β} {res : α → β → VP} {post : α → β → Os} {n : Nat} (h : ∀ a, (ps a).length = n) : ∀ vs H Q E, spZ ps pre m res post vs H Q E → vs.length = n :=
  fun vs H Q E ⟨a, b, F, os, c, _⟩ => (cla_len c).trans (h a)
theorem spN_len {α β : Type} {ps : α → List VP} {pre : α → Os} {m : α → Option β} {n : α → β → Ent} {post : α → β → Os} {k : Nat} (h : ∀ a, (ps a).length = k) : ∀ vs H Q E, spN ps pre m n post vs H Q E → vs.length = k :=
  fun vs H Q E ⟨a, b, F, os, c, _⟩ => (cla_len c).trans (h a)
section
variable {X : Cx} {es : List Slot} {os os1 os2 rest : Os} {N V G : List Str} {k j : Nat} {x : Str} {p pos : Pos} {e : Expr} {as : List Expr} {kws : List Keyword} {ks : List Str} {st : Stmt} {pn : List Str} {α β : Type} {ps : α → List VP} {pre : α → Os} {m : α → Option β} {res : α → β → VP} {post : α → β → Os} {n : α → β → Ent} {gi : Nat}
theorem ex_call (B : Bd X N V G k) (hj : G[gi]? = some x) (c : Cal X.prog X.w X.K X.mg X.base j x st pn (spZ ps pre m res post)) (hl : j ≤ k) {a : α} {b : β} (hm : m a = some b) (ha : AX X es os (e :: as) (ps a) (pre a ++ rest))
    (he : starEach (e :: as) X.env = (false, eval e X.env) :: starEach as X.env := by rfl) (hpl : (backTo pos (starEach as X.env)).any (·.1) = false := by rfl) : EX X es os (.Call (.Name x p) (e :: as) [] pos) (res a b) (post a b ++ rest) := fun F σ H Q ow sl q =>
  let ⟨u, v⟩ := B.gl x (List.mem_of_getElem? hj)
  we_of (pe_g (c.mono hl) B.gd B.room u pa_u (dun_d v) he hpl) (ha F σ H _ ow sl fun F1 H1 vs e1 o1 c1 => ⟨a, b, F1, rest, c1, o1, hm, fun F2 H2 v e2 o2 c2 => q F2 H2 v (e1.trans e2) o2 c2⟩)
theorem en_call (B : Bd X N V G k) (hj : G[gi]? = some x) (c : Cal X.prog X.w X.K X.mg X.base j x st pn (spN ps pre m n post)) (hl : j ≤ k) {a : α} {b : β} (hm : m a = some b) (ha : AX X es os (e :: as) (ps a) (pre a ++ rest))
    (he : starEach (e :: as) X.env = (false, eval e X.env) :: starEach as X.env := by rfl) (hpl : (backTo pos (starEach as X.env)).any (·.1) = false := by rfl) : EN X es os (.Call (.Name x p) (e :: as) [] pos) (n a b) (post a b ++ rest) := fun F σ H Q ow sl q =>
  let ⟨u, v⟩ := B.gl x (List.mem_of_getElem? hj)
  we_of (pe_g (c.mono hl) B.gd B.room u pa_u (dun_d v) he hpl) (ha F σ H _ ow sl fun F1 H1 vs e1 o1 c1 => ⟨a, b, F1, rest, c1, o1, hm, fun F2 H2 v e2 o2 => q F2 H2 v (e1.trans e2) o2⟩)
/-- the values of keywords -/
def KX (X : Cx) (es : List Slot) (os : Os) (kws : List Keyword) (φs : List VP) (os' : Os) : Prop := ∀ F σ H, Ow F os H → Sl F es σ → ∀ Q : List L2.V → Hp → Prop, (∀ F' H' vs, Same F F' → Ow F' os' H' → ClA φs F' vs → Q vs H') →
  ∀ pos pins s, Inv X pins σ H s → wpAny (model X.prog X.w) X.A (evalAll ((backToKw pos (keywordEach kws X.env)).map (·.2))) (AP X pins σ Q) X.xe s
def WK (X : Cx) (kws : List Keyword) (σ : L2.St) (H : Hp) (Q : List L2.V → Hp → Prop) : Prop := ∀ pos pins s, Inv X pins σ H s → wpAny (model X.prog X.w) X.A (evalAll ((backToKw pos (keywordEach kws X.env)).map (·.2))) (AP X pins σ Q) X.xe s
theorem pk_u : PK X kws (WK X kws) := ⟨fun pos pins s _ _ _ I h => h pos pins s I⟩
theorem kx_nil : KX X es os [] [] os := fun F σ H ow sl Q q pos pins s I => pk_nil.run pos pins s σ H Q I (q F H [] (Same.refl F) ow rfl)
theorem kx_cons {nm : Option Str} {kpos : Pos} {φ : VP} {φs : List VP} (ha : EX X es os e φ os1) (hr : KX X es os1 kws φs os2) : KX X es os (⟨nm, e, kpos⟩ :: kws) (φ :: φs) os2 := fun F σ H ow sl Q q pos pins s I =>
  (pk_cons pe_u pk_u).run pos pins s σ H Q I (ha F σ H _ ow sl fun F1 H1 x e1 o1 c1 => hr F1 σ H1 o1 (sl.mono e1) _ fun F2 H2 vs e2 o2 c2 => q F2 H2 _ (e1.trans e2) o2 ⟨x, vs, rfl, c1.mono e2, c2⟩)
theorem cla_get {F : Hp} : ∀ {φs : List VP} {vs : List L2.V} {i : Nat}, ClA φs F vs → (φs[i]? = none ∧ vs[i]? = none) ∨ ∃ φ v, φs[i]? = some φ ∧ vs[i]? = some v ∧ Cl φ F v
  | [], _, i, h => by
    have e : _ = [] := h
    subst e
    exact .inl ⟨rfl, rfl⟩
  | φ :: φs, _, 0, ⟨v, r, e, h1, h2⟩ => by
    subst e
    exact .inr ⟨φ, v, rfl, rfl, h1⟩
  | φ :: φs, _, i + 1, ⟨v, r, e, h1, h2⟩ => by
    subst e
    rw [List.getElem?_cons_succ, List.getElem?_cons_succ]
    exact cla_get h2
theorem cla_fm {F : Hp} {φs : List VP} {vs : List L2.V} (h : ClA φs F vs) : ∀ pi : List Nat, ClA (pi.filterMap fun i => φs[i]?) F (pi.filterMap fun i => vs[i]?)
  | [] => rfl
  | i :: pi => by
    rw [List.filterMap_cons, List.filterMap_cons]
    rcases cla_get (i := i) h with ⟨e1, e2⟩ | ⟨φ, v, e1, e2, c⟩
    · rw [e1, e2]
      exact cla_fm h pi
    · rw [e1, e2]
      exact ⟨v, _, rfl, c, cla_fm h pi⟩
theorem cla_app {F : Hp} : ∀ {φs ψs : List VP} {vs us : List L2.V}, ClA φs F vs → ClA ψs F us → ClA (φs ++ ψs) F (vs ++ us)
  | [], _, _, _, h, g => by
    have e : _ = [] := h
    subst e
    exact g
  | φ :: φs, _, _, _, ⟨v, r, e, h1, h2⟩, g => by
    subst e
    exact ⟨v, _, rfl, h1, cla_app h2 g⟩
theorem cla_kperm {F : Hp} {φs ψs : List VP} {vs us : List L2.V} {n m : Nat} {pi : List Nat} (h : ClA φs F vs) (g : ClA ψs F us) : ClA (kperm n m pi φs ψs) F (kperm n m pi vs us) := by
  unfold kperm
  rw [cla_len h, cla_len g]
  split
  · exact cla_fm (cla_app h g) pi
  · rfl
theorem en_callk0 {ψs : List VP} {pi : List Nat} (B : Bd X N V G k) (hj : G[gi]? = some x) (c : Cal X.prog X.w X.K X.mg X.base j x st pn (spN ps pre m n post)) (hl : j ≤ k) (kw : KwOk x st pn ks 0 pi) (hpn : 0 < pn.length) {a : α} {b : β} (hm : m a = some b) (hk : KX X es os kws ψs (pre a ++ rest))
    (hp : ps a = kperm 0 ks.length pi [] ψs)
    (hall : (backToKw pos (keywordEach kws X.env)).all (·.1.isSome) = true := by rfl) (hks : (backToKw pos (keywordEach kws X.env)).filterMap (·.1) = ks := by rfl)
    (hpl : ((backTo pos (starEach [] X.env)).any (·.1) || (backToKw pos (keywordEach kws X.env)).any (·.1.isNone)) = false := by rfl) : EN X es os (.Call (.Name x p) [] kws pos) (n a b) (post a b ++ rest) := fun F σ H Q ow sl q =>
  let ⟨u, v⟩ := B.gl x (List.mem_of_getElem? hj)
  we_of (pe_gk0 (c.mono hl) kw hpn B.gd B.room u pk_u (dun_d v) hall hks hpl) (hk F σ H ow sl _ fun F2 H2 zs e2 o2 c2 =>
    ⟨a, b, F2, rest, by rw [hp]; exact cla_kperm (φs := []) (vs := []) rfl c2, o2, hm, fun F3 H3 v e3 o3 => q F3 H3 v (e2.trans e3) o3⟩)
end
end Z
namespace Z
open PySem PySem.Spec PyProof.Rows L2
/-- what a body's statements need beside Bd -/
structure Bt (X : Cx) (V : List Str) : Prop where
  fn : ∀ x, X.fn x = true
  loc : ∀ x ∈ V, Loc X.env.scope x
  po : PassesOwn (model X.prog X.w) X.A X.env X.xe
/-- the state fits -/
def At (F0 : Hp) (es : List Slot) (os : Os) (σ : L2.St) (H : Hp) : Prop := ∃ F, Same F0 F ∧ Ow F os H ∧ Sl F es σ
section
variable {X : Cx} {es es' : List Slot} {os os1 os2 : Os} {F0 : Hp} {rest : List Stmt} {D : Ends} {N V G W : List Str} {k i vi : Nat} {x : Str} {pos pos' : Pos} {e : Expr} {φ : VP} {n : Ent}
theorem SX.at (h : SX X es os F0 rest D) {σ : L2.St} {H : Hp} (a : At F0 es os σ H) : WPs X rest D σ H := let ⟨F, s, ow, sl⟩ := a; h F σ H s ow sl
theorem SX.perm (h : SX X es os F0 rest D) (p : os1.Perm os) : SX X es os1 F0 rest D := fun F σ H s ow sl => h F σ H s (ow.perm p) sl
theorem SX.weak (h : SX X es' os F0 rest D) (w : Wk es es') : SX X es os F0 rest D := fun F σ H s ow sl => h F σ H s ow (sl.weak w)
theorem SX.drop {q : Addr × Ent} (h : SX X es os F0 rest D) : SX X es (q :: os) F0 rest D := fun F σ H s ow sl => h F σ H s ow.drop sl
theorem sx_nil (h : ∀ σ H, At F0 es os σ H → D.nx σ H) : SX X es os F0 [] D := fun F σ H s ow sl => wps_nil (h σ H ⟨F, s, ow, sl⟩)
/-- behind a branch the rest goes on -/
theorem sx_fall {D' : Ends} (h : SX X es os F0 rest D') (e : D.nx = WPs X rest D') : SX X es os F0 [] D := sx_nil fun σ H a => by
  rw [e]
  exact h.at a
theorem sx_asg (B : Bd X N W G k) (T : Bt X V) (hi : N[i]? = some x) (hv : V[vi]? = some x) (he : EX X es os e φ os1) (h : SX X (es.set i (sl φ)) os1 F0 rest D) (hs : swapsWith e (some (.Name x pos')) pos.line X.env = pure false := by rfl) :
    SX X es os F0 (.Assign [.Name x pos'] e pos :: rest) D := fun F σ H s ow sl =>
  wps_cons (ws_of (ps_set (B.hN ▸ B.nd) (B.hN ▸ hi) (T.loc x (List.mem_of_getElem? hv)) pe_u hs (.inl (T.fn x))) (he F σ H _ ow sl fun F1 H1 v e1 o1 c1 => h F1 _ H1 (s.trans e1) o1 ((sl.mono e1).put c1)))
theorem sx_asgN (B : Bd X N W G k) (T : Bt X V) (hi : N[i]? = some x) (hv : V[vi]? = some x) (he : EN X es os e n os1) (h : ∀ p, SX X (es.set i (sl (own p))) ((p, n) :: os1) F0 rest D) (hs : swapsWith e (some (.Name x pos')) pos.line X.env = pure false := by rfl) :
    SX X es os F0 (.Assign [.Name x pos'] e pos :: rest) D := fun F σ H s ow sl =>
  wps_cons (ws_of (ps_set (B.hN ▸ B.nd) (B.hN ▸ hi) (T.loc x (List.mem_of_getElem? hv)) pe_u hs (.inl (T.fn x))) (he F σ H _ ow sl fun F1 H1 p e1 o1 => h p F1 _ H1 (s.trans e1) o1 ((sl.mono e1).put cl_own)))
theorem sx_expr (he : EX X es os e φ os1) (h : SX X es os1 F0 rest D) (hs : swapsWith e none pos.line X.env = pure false := by rfl) : SX X es os F0 (.Expr e pos :: rest) D := fun F σ H s ow sl =>
  wps_cons (ws_of (ps_expr pe_u hs) (he F σ H _ ow sl fun F1 H1 v e1 o1 c1 => h F1 σ H1 (s.trans e1) o1 (sl.mono e1)))
theorem sx_ret (he : EX X es os e φ os1) (h : ∀ F H v, Same F0 F → Ow F os1 H → Cl φ F v → D.rt v H) : SX X es os F0 (.Return (some e) pos :: rest) D := fun F σ H s ow sl =>
  wps_cons (ws_of (ps_ret pe_u) (he F σ H _ ow sl fun F1 H1 v e1 o1 c1 => h F1 H1 v (s.trans e1) o1 c1))
theorem sx_retN (he : EN X es os e n os1) (h : ∀ F H p, Same F0 F → Ow F ((p, n) :: os1) H → D.rt (.ref p) H) : SX X es os F0 (.Return (some e) pos :: rest) D := fun F σ H s ow sl =>
  wps_cons (ws_of (ps_ret pe_u) (he F σ H _ ow sl fun F1 H1 v e1 o1 => h F1 H1 v (s.trans e1) o1))
theorem sx_if {c : Expr} {a b : List Stmt} {t : Bool} (hc : TX X es os c t os1) (ha : t = true → SX X es os1 F0 a { D with nx := WPs X rest D }) (hb : t = false → SX X es os1 F0 b { D with nx := WPs X rest D }) : SX X es os F0 (.If c a b pos :: rest) D := fun F σ H s ow sl =>
  wps_cons (ws_of (ps_if pt_u pss_u pss_u) (hc F σ H _ ow sl fun F1 H1 e1 o1 => by
    cases t with
    | true =>
      rw [if_pos rfl]
      exact ha rfl F1 σ H1 (s.trans e1) o1 (sl.mono e1)
    | false =>
      rw [if_neg Bool.false_ne_true]
      exact hb rfl F1 σ H1 (s.trans e1) o1 (sl.mono e1)))
theorem sx_brk (h : ∀ σ H, At F0 es os σ H → D.bk σ H) : SX X es os F0 (.Break pos :: rest) D := fun F σ H s ow sl => wps_cons (ws_of ps_break (h σ H ⟨F, s, ow, sl⟩))
/-- x += e (ints) -/
theorem sx_addI {a b : Int} (B : Bd X N W G k) (T : Bt X V) (hi : N[i]? = some x) (hv : V[vi]? = some x) (hx : es[i]? = some (sl (dat (.int a)))) (he : EX X es os e (dat (.int b)) os1) (h : SX X (es.set i (sl (dat (.int (a + b))))) os1 F0 rest D) :
    SX X es os F0 (.AugAssign (.Name x pos') .Add e pos :: rest) D := fun F σ H s ow sl => by
  obtain ⟨v, ev, cv⟩ := sl.val hx
  refine wps_cons (ws_of (ps_aug (B.hN ▸ B.nd) (B.hN ▸ hi) (T.loc x (List.mem_of_getElem? hv)) pe_u ip_add (.inl (T.fn x))) ⟨v, ev, he F σ H _ ow sl fun F1 H1 y e1 o1 c1 => ?_⟩)
  exact ⟨a, b, clv_int cv, clv_int c1, h F1 _ H1 (s.trans e1) o1 ((sl.mono e1).put (cl_dat (.int _)))⟩
def WG (X : Cx) (tg : Expr) : TG := fun v σ H Q => ∀ pins s u, Inv X pins σ H s → RelV v u → wpAny (model X.prog X.w) X.A (assign tg X.env u) (fun _ s' => ∃ σ' H', Inv X pins σ' H' s' ∧ Q σ' H') X.xe s
theorem pg_u {tg : Expr} : PG X tg (WG X tg) := ⟨fun pins s _ _ _ u _ I r h => h pins s u I r⟩
theorem wg_of {tg : Expr} {g : TG} {v : L2.V} {σ : L2.St} {H : Hp} {Q : L2.St → Hp → Prop} (h : PG X tg g) (q : g v σ H Q) : WG X tg v σ H Q := fun pins s u I r => h.run pins s σ H v u Q I r q
/-- to assign a value of φ to tg changes the slots as f tells -/
def GX (X : Cx) (tg : Expr) (φ : VP) (f : List Slot → List Slot) : Prop := ∀ es os F σ H v Q, Ow F os H → Sl F es σ → Cl φ F v → (∀ σ', Sl F (f es) σ' → Q σ' H) → WG X tg v σ H Q
theorem gx_name (B : Bd X N W G k) (T : Bt X V) (hi : N[i]? = some x) (hv : V[vi]? = some x) : GX X (.Name x pos) φ (fun es => es.set i (sl φ)) := fun es os F σ H v Q ow sl c q =>
  wg_of (pg_name (B.hN ▸ B.nd) (B.hN ▸ hi) (T.loc x (List.mem_of_getElem? hv)) (.inl (T.fn x))) (q _ (sl.put c))
theorem gx_pair {a b : Expr} {kk : Nat} {d1 d2 : PyData} {f g : List Slot → List Slot} (B : Bd X N W G k) (h1 : GX X a (dat d1) f) (h2 : GX X b (dat d2) g) (hn : (assignEach [a, b] X.env).length = 2 := by rfl) (hst : (assignEach [a, b] X.env).findIdx? (·.1) = none := by rfl)
    (hs : (assignEach [a, b] X.env).map (·.2) = assign a X.env :: (assignEach [b] X.env).map (·.2) := by rfl) (hs2 : (assignEach [b] X.env).map (·.2) = assign b X.env :: (assignEach [] X.env).map (·.2) := by rfl) :
    GX X (.Tuple [a, b] kk pos) (dat (.tuple [d1, d2])) (fun es => g (f es)) := fun es os F σ H v Q ow sl c q => by
  obtain ⟨p, vs, rfl, hp, hv⟩ := rdt_dat F v c
  cases hv with
  | cons k1 r =>
    cases r with
    | cons k2 r =>
      cases r
      refine wg_of (pg_tup (n := 2) B.calm (pgs_cons pg_u (pgs_cons pg_u pgs_nil hs2) hs) hn hst) ⟨p, _, rfl, .of (ow.ex _ _ hp), rfl, _, _, rfl, ?_⟩
      refine h1 es os F σ H _ _ ow sl (cl_dat k1) fun σ1 s1 => ⟨_, _, rfl, ?_⟩
      exact h2 _ os F σ1 H _ _ ow s1 (cl_dat k2) fun σ2 s2 => ⟨rfl, q σ2 s2⟩
theorem gx_triple {a b c : Expr} {kk : Nat} {d1 d2 d3 : PyData} {f g h : List Slot → List Slot} (B : Bd X N W G k) (h1 : GX X a (dat d1) f) (h2 : GX X b (dat d2) g) (h3 : GX X c (dat d3) h) (hn : (assignEach [a, b, c] X.env).length = 3 := by rfl) (hst : (assignEach [a, b, c] X.env).findIdx? (·.1) = none := by rfl)
    (hs : (assignEach [a, b, c] X.env).map (·.2) = assign a X.env :: (assignEach [b, c] X.env).map (·.2) := by rfl) (hs2 : (assignEach [b, c] X.env).map (·.2) = assign b X.env :: (assignEach [c] X.env).map (·.2) := by rfl) (hs3 : (assignEach [c] X.env).map (·.2) = assign c X.env :: (assignEach [] X.env).map (·.2) := by rfl) :
    GX X (.Tuple [a, b, c] kk pos) (dat (.tuple [d1, d2, d3])) (fun es => h (g (f es))) := fun es os F σ H v Q ow sl c q => by
  obtain ⟨p, vs, rfl, hp, hv⟩ := rdt_dat F v c
  cases hv with
  | cons k1 r =>
    cases r with
    | cons k2 r =>
      cases r with
      | cons k3 r =>
        cases r
        refine wg_of (pg_tup (n := 3) B.calm (pgs_cons pg_u (pgs_cons pg_u (pgs_cons pg_u pgs_nil hs3) hs2) hs) hn hst) ⟨p, _, rfl, .of (ow.ex _ _ hp), rfl, _, _, rfl, ?_⟩
        refine h1 es os F σ H _ _ ow sl (cl_dat k1) fun σ1 s1 => ⟨_, _, rfl, ?_⟩
        refine h2 _ os F σ1 H _ _ ow s1 (cl_dat k2) fun σ2 s2 => ⟨_, _, rfl, ?_⟩
        exact h3 _ os F σ2 H _ _ ow s2 (cl_dat k3) fun σ3 s3 => ⟨rfl, q σ3 s3⟩
/-- a, b = e: e a tuple -/
theorem sx_unp {tg : Expr} {f : List Slot → List Slot} (hg : GX X tg φ f) (he : EX X es os e φ os1) (h : SX X (f es) os1 F0 rest D) (hs : swapsWithSole [tg] e pos.line X.env = pure false := by rfl) (hw : swappedStores [tg] e X.env = pure none := by rfl)
    (h1 : (assignEach [tg] X.env).map (·.2) = [assign tg X.env] := by rfl) : SX X es os F0 (.Assign [tg] e pos :: rest) D := fun F σ H s ow sl =>
  wps_cons (ws_of (ps_asg pe_u pg_u hs hw h1) (he F σ H _ ow sl fun F1 H1 v e1 o1 c1 => hg es os1 F1 σ H1 v _ o1 (sl.mono e1) c1 fun σ1 s1 => h F1 σ1 H1 (s.trans e1) o1 s1))
theorem ty_own {F H : Hp} {K : PySem.W.Frag} {p : Addr} {ds : List PyData} {j : Nat} (ow : Ow F os H) (hj : os[j]? = some (p, ol ds)) : ∃ vs, H p = some (.lst vs) ∧ DqAll F vs ds ∧ tyV K "list" (.ref p) H := by
  obtain ⟨_, vs, ho, hv⟩ := (ow.perm (perm_at hj)).atL
  exact ⟨vs, ho, hv, .inl ⟨rfl, vs, .of ho⟩⟩
/-- a list that is one's own is rewritten -/
theorem ow_set {F H : Hp} {p : Addr} {ds ds' : List PyData} {vs' : List L2.V} {j : Nat} (ow : Ow F os H) (hj : os[j]? = some (p, ol ds)) (h : DqAll F vs' ds') : Ow F (os.set j (p, ol ds')) (upd H p (.lst vs')) :=
  ((ow.perm (perm_at hj)).putL h).perm (perm_set hj)
theorem ex_append {a : Expr} {apos cpos : Pos} {p : Addr} {ds : List PyData} {d : PyData} {j : Nat} (ho : EX X es os a (own p) os) (he : EX X es os e (dat d) os1) (h0 : os[j]? = some (p, ol ds0)) (hj : os1[j]? = some (p, ol ds)) (hz : ds.length < sizeLine)
    (hbase : attributeBase a "append" X.env (eval a X.env) = eval a X.env := by rfl) (hline : (apos.endLine == cpos.line) = true := by rfl) (hs : starEach [e] X.env = (false, eval e X.env) :: starEach [] X.env := by rfl)
    (hfew : ((backTo cpos (starEach [e] X.env)).all (fun x => !x.1) && (backToKw cpos (keywordEach [] X.env)).all (fun x => x.1.isSome) && decide ([e].length + ([] : List Keyword).length + (if ([] : List Keyword).isEmpty then 0 else 1) < 30)) = true := by rfl)
    (hplain : (backTo cpos (starEach [] X.env)).any (·.1) = false := by rfl) : EX X es os (.Call (.Attribute a "append" apos) [e] [] cpos) (dat .none) (os1.set j (p, ol (ds ++ [d]))) := fun F σ H Q ow sl q =>
  we_of (pe_bm PySem.F.plainAttrs_list PySem.F.slot_list_append PySem.F.type_list_append mt_append pe_u pa_u hbase hfew hline hs hplain) (ho F σ H _ ow sl fun F1 H1 v e1 o1 c1 => by
    obtain rfl : v = .ref p := c1.now
    obtain ⟨_, _, _, ty⟩ := ty_own (K := X.K) o1 h0
    refine ⟨ty, wa_of (pa_cons pe_u pa_nil hs) (he F1 σ H1 _ o1 (sl.mono e1) fun F2 H2 u e2 o2 c2 => ?_)⟩
    obtain ⟨vs, hp, hv, _⟩ := ty_own (K := X.K) o2 hj
    exact ⟨p, vs, u, rfl, rfl, hp, by rw [dqall_len hv]; exact hz, q F2 _ .non (e1.trans e2) (ow_set o2 hj (dqall_app hv (.cons c2.now .nil))) (cl_dat .non)⟩)
theorem dqall_last {F : Hp} : ∀ {ds : List PyData} {vs : List L2.V} {d : PyData}, DqAll F vs ds → ds.getLast? = some d → ∃ v, vs[vs.length - 1]? = some v ∧ Dq F v d ∧ DqAll F vs.dropLast ds.dropLast := fun {ds vs d} h e => by
  rw [List.getLast?_eq_getElem?] at e
  obtain ⟨v, e2, hd⟩ := dqall_get' h e
  refine ⟨v, by rw [dqall_len h]; exact e2, hd, ?_⟩
  rw [List.dropLast_eq_take, List.dropLast_eq_take, dqall_len h]
  exact dqall_take _ h
theorem ex_pop {a : Expr} {apos cpos : Pos} {p : Addr} {ds : List PyData} {d : PyData} {j : Nat} (ho : EX X es os a (own p) os) (hj : os[j]? = some (p, ol ds)) (hd : ds.getLast? = some d)
    (hbase : attributeBase a "pop" X.env (eval a X.env) = eval a X.env := by rfl) (hline : (apos.endLine == cpos.line) = true := by rfl) : EX X es os (.Call (.Attribute a "pop" apos) [] [] cpos) (dat d) (os.set j (p, ol ds.dropLast)) := fun F σ H Q ow sl q =>
  we_of (pe_bm0 PySem.F.plainAttrs_list PySem.F.slot_list_pop PySem.F.type_list_pop mt_pop pe_u hbase hline) (ho F σ H _ ow sl fun F1 H1 v e1 o1 c1 => by
    obtain rfl : v = .ref p := c1.now
    obtain ⟨vs, hp, hv, ty⟩ := ty_own (K := X.K) o1 hj
    obtain ⟨u, eu, hu, hr⟩ := dqall_last hv hd
    exact ⟨ty, p, vs, u, rfl, rfl, hp, eu, q F1 _ u e1 (ow_set o1 hj hr) (cl_dat hu)⟩)
/-- xs[i] = e -/
theorem sx_setL {a b : Expr} {tpos : Pos} {p : Addr} {ds : List PyData} {d : PyData} {j m : Nat} {z : Int} (he : EX X es os e (dat d) os1) (ho : EX X es os1 a (own p) os1) (hb : EX X es os1 b (dat (.int z)) os2) (hj : os2[j]? = some (p, ol ds)) (hz : ixN ds.length z = some m) (h : SX X es (os2.set j (p, ol (ds.set m d))) F0 rest D)
    (hs : swapsWithSole [.Subscript a b tpos] e pos.line X.env = pure false := by rfl) (hw : swappedStores [.Subscript a b tpos] e X.env = pure none := by rfl) (h1 : (assignEach [.Subscript a b tpos] X.env).map (·.2) = [assign (.Subscript a b tpos) X.env] := by rfl)
    (hsub : ∀ v, assign (.Subscript a b tpos) X.env v = (do
      let ov ← holding [v] (eval a X.env)
      let iv ← holding [v, ov] (eval b X.env)
      standAt tpos
      holding [v, ov, iv] (setItem ov iv v)
      release [v, ov, iv] []) := by intro _; rfl) : SX X es os F0 (.Assign [.Subscript a b tpos] e pos :: rest) D := fun F σ H s ow sl =>
  wps_cons (ws_of (ps_asg pe_u (pg_sub pe_u pe_u set_list hsub) hs hw h1) (he F σ H _ ow sl fun F1 H1 v e1 o1 c1 => ho F1 σ H1 _ o1 (sl.mono e1) fun F2 H2 w e2 o2 c2 => hb F2 σ H2 _ o2 (sl.mono (e1.trans e2)) fun F3 H3 u e3 o3 c3 => by
    obtain rfl : w = .ref p := c2.now
    obtain ⟨vs, hp, hv, _⟩ := ty_own (K := X.K) o3 hj
    refine ⟨p, vs, z, m, rfl, clv_int c3, hp, by rw [dqall_len hv]; exact hz, ?_⟩
    have e := (e1.trans e2).trans e3
    exact h F3 σ _ (s.trans e) (ow_set o3 hj (dqall_set ((c1.mono e2).mono e3).now m hv)) (sl.mono e)))
end
end Z
namespace Z
open PySem PySem.Spec PyProof.Rows L2
/-- one turn after another; none: it raises -/
def lp {α S : Type} (f : S → α → Option S) : List α → S → Option S
  | [], s => some s
  | x :: xs, s => (f s x).bind (lp f xs)
inductive Step (R S : Type) where
  | go (s : S) | brk (s : S) | ret (r : R)
/-- what follows a turn -/
def Step.aft {R S : Type} (k : S → Option (Sum R S)) : Step R S → Option (Sum R S)
  | .go s => k s
  | .brk s => some (.inr s)
  | .ret r => some (.inl r)
/-- .. that may be left: inl, what is handed back; inr, the state behind -/
def lpR {α R S : Type} (f : S → α → Option (Step R S)) : List α → S → Option (Sum R S)
  | [], s => some (.inr s)
  | x :: xs, s => (f s x).bind (Step.aft (lpR f xs))
/-- while, at most so many turns -/
def wh {R S : Type} (c : S → Option Bool) (f : S → Option (Step R S)) : Nat → S → Option (Sum R S)
  | 0, _ => none
  | n + 1, s => (c s).bind fun b => if b = true then (f s).bind (Step.aft (wh c f n)) else some (.inr s)
/-- a comprehension whose element may change the state -/
def lcS {α β S : Type} (f : S → α → Option (Option β × S)) : List α → S → Option (List β × S)
  | [], s => some ([], s)
  | x :: xs, s => (f s x).bind fun t => (lcS f xs t.2).bind fun u => some (t.1.toList ++ u.1, u.2)
def range' (a b : Int) : List Int := (List.range (b - a).toNat).map fun (i : Nat) => a + (i : Int)
section
variable {X : Cx} {es : List Slot} {os os1 os2 : Os} {F0 : Hp} {rest : List Stmt} {D : Ends} {N V G W : List Str} {k i vi gi : Nat} {x : Str} {p pos : Pos} {e e2 : Expr} {α : Type}
def WI (X : Cx) (tg iter : Expr) (σ : L2.St) (H : Hp) (R : It → Hp → Prop) : Prop := ∀ pins s, Inv X pins σ H s →
    wpAny (model X.prog X.w) X.A (eval iter X.env) (fun v s1 => wpAny (model X.prog X.w) X.A (pyIter v) (PIE X pins σ tg R) X.xe s1) X.xe s
theorem pi_u {tg iter : Expr} : PI X tg iter (WI X tg iter) := ⟨fun pins s _ _ _ I h => h pins s I⟩
theorem wi_of {tg iter : Expr} {w : TI} {σ : L2.St} {H : Hp} {R : It → Hp → Prop} (h : PI X tg iter w) (q : w σ H R) : WI X tg iter σ H R := fun pins s I => h.run pins s σ H R I q
/-- J yields the xs, as vp tells of each, from F on, while c holds of what is owned -/
def Good (J : It) (F : Hp) (xs : List α) (vp : α → VP) (c : Os → Prop) : Prop := ∀ F2 H2 os2 i, Same F F2 → Ow F2 os2 H2 → c os2 →
  (xs.length ≤ i → J.stop i H2) ∧ ∀ x, xs[i]? = some x → J.go i H2 ∧ ∀ v H3, J.yld i H2 v H3 → ∃ F3, Same F2 F3 ∧ Ow F3 os2 H3 ∧ Cl (vp x) F3 v
def IX (X : Cx) (tg : Expr) (es : List Slot) (os : Os) (iter : Expr) (xs : List α) (vp : α → VP) (c : Os → Prop) (os' : Os) : Prop := ∀ F σ H R, Ow F os H → Sl F es σ → (∀ F' H' J, Same F F' → Ow F' os' H' → Good J F' xs vp c → R J H') → WI X tg iter σ H R
def anyOs : Os → Prop := fun _ => True
theorem range_get {n i : Nat} {lo x : Int} (h : ((List.range n).map fun (i : Nat) => lo + (i : Int))[i]? = some x) : i < n ∧ x = lo + (i : Int) := by
  rw [List.getElem?_map] at h
  by_cases hi : i < n
  · rw [List.getElem?_range hi] at h
    exact ⟨hi, (Option.some.inj h).symm⟩
  · rw [List.getElem?_eq_none (by rw [List.length_range]; omega)] at h
    cases h
theorem good_range {F : Hp} {lo : Int} {n : Nat} : Good (Itr lo n) F ((List.range n).map fun (i : Nat) => lo + (i : Int)) (fun x => dat (.int x)) anyOs := fun F2 H2 os2 i s ow _ => by
  refine ⟨fun h => show n ≤ i by simpa using h, fun x hx => ?_⟩
  obtain ⟨h1, rfl⟩ := range_get hx
  refine ⟨h1, fun v H3 y => ?_⟩
  obtain ⟨rfl, rfl⟩ := y
  exact ⟨F2, Same.refl F2, ow, cl_dat (.int _)⟩
theorem ix_range1 {tg : Expr} {b : Int} (B : Bd X N W G k) (hj : G[gi]? = some "range") (hm : X.mg "range" = none) (hb : -(2 ^ 62) ≤ b ∧ b < 2 ^ 62) (ha : EX X es os e (dat (.int b)) os1) (hs : starEach [e] X.env = [(false, eval e X.env)] := by rfl) :
    IX X tg es os (.Call (.Name "range" p) [e] [] pos) (range' 0 b) (fun x => dat (.int x)) anyOs os1 := fun F σ H R ow sl q =>
  wi_of (pi_range1 (B.gl _ (List.mem_of_getElem? hj)).1 hm pa_u hs) (wa_of (pa_cons pe_u pa_nil hs) (ha F σ H _ ow sl fun F1 H1 v e1 o1 c1 => ⟨b, by rw [clv_int c1], hb.1, hb.2, q F1 H1 _ e1 o1 (by
    have := good_range (F := F1) (lo := 0) (n := b.toNat)
    unfold range'
    rw [Int.sub_zero]
    exact this)⟩))
theorem ix_range2 {tg : Expr} {a b : Int} (B : Bd X N W G k) (hj : G[gi]? = some "range") (hm : X.mg "range" = none) (hab : -(2 ^ 62) ≤ a ∧ a < 2 ^ 62 ∧ -(2 ^ 62) ≤ b ∧ b < 2 ^ 62) (ha : EX X es os e (dat (.int a)) os1) (hb : EX X es os1 e2 (dat (.int b)) os2)
    (hs : starEach [e, e2] X.env = [(false, eval e X.env), (false, eval e2 X.env)] := by rfl) (hs2 : starEach [e2] X.env = [(false, eval e2 X.env)] := by rfl) :
    IX X tg es os (.Call (.Name "range" p) [e, e2] [] pos) (range' a b) (fun x => dat (.int x)) anyOs os2 := fun F σ H R ow sl q =>
  wi_of (pi_range2 (B.gl _ (List.mem_of_getElem? hj)).1 hm pa_u hs hs2) (wa_of (pa_cons pe_u (pa_cons pe_u pa_nil hs2) (by rw [hs, hs2])) (ha F σ H _ ow sl fun F1 H1 v e1 o1 c1 => hb F1 σ H1 _ o1 (sl.mono e1) fun F2 H2 u e2 o2 c2 =>
    ⟨a, b, by rw [clv_int c1, clv_int c2], hab, q F2 H2 _ (e1.trans e2) o2 good_range⟩))
theorem dqall_map {F : Hp} {xs : List α} {enc : α → PyData} {vs : List L2.V} {i : Nat} {x : α} (h : DqAll F vs (xs.map enc)) (e : xs[i]? = some x) : ∃ v, vs[i]? = some v ∧ Dq F v (enc x) := dqall_get' h (by rw [List.getElem?_map, e]; rfl)
/-- a list (read as rl tells) -/
theorem ix_list {tg : Expr} {φ : VP} {xs : List α} {enc : α → PyData} {c : Os → Prop} (he : EX X es os e φ os1) (hc : ∀ o, c o → RdL X φ o (xs.map enc)) (h0 : c os1) : IX X tg es os e xs (fun x => dat (enc x)) c os1 := fun F σ H R ow sl q =>
  wi_of (pi_list pe_u) (he F σ H _ ow sl fun F1 H1 v e1 o1 c1 => by
    obtain ⟨a, vs, rfl, h1, h2⟩ := hc os1 h0 F1 H1 v o1 c1
    refine ⟨a, rfl, ⟨vs, h1⟩, q F1 H1 _ e1 o1 fun F2 H2 os2 i s ow2 k2 => ?_⟩
    obtain ⟨a', us, ea, g1, g2⟩ := hc os2 k2 F2 H2 _ ow2 (c1.mono s)
    cases ea
    have hl := dqall_len g2
    rw [List.length_map] at hl
    refine ⟨fun h => ⟨us, g1, by omega⟩, fun x hx => ?_⟩
    obtain ⟨u, hu, hd⟩ := dqall_map g2 hx
    refine ⟨⟨us, u, g1, hu⟩, fun w H3 y => ?_⟩
    obtain ⟨rfl, hy⟩ := y
    have ew : us[i]? = some w := hy us g1
    rw [hu] at ew
    cases ew
    exact ⟨F2, Same.refl F2, ow2, cl_dat hd⟩)
theorem ix_tup {tg : Expr} {φ : VP} {xs : List α} {enc : α → PyData} (he : EX X es os e φ os1) (hr : RdT φ (xs.map enc)) : IX X tg es os e xs (fun x => dat (enc x)) anyOs os1 := fun F σ H R ow sl q =>
  wi_of (pi_tup pe_u) (he F σ H _ ow sl fun F1 H1 v e1 o1 c1 => by
    obtain ⟨a, vs, rfl, h1, h2⟩ := hr F1 v c1
    refine ⟨a, rfl, ⟨vs, .of (o1.ex _ _ h1)⟩, q F1 H1 _ e1 o1 fun F2 H2 os2 i s ow2 k2 => ?_⟩
    have g1 := ow2.ex _ _ (s _ _ h1)
    have g2 := dqall_mono s _ _ h2
    have hl := dqall_len g2
    rw [List.length_map] at hl
    refine ⟨fun h => ⟨vs, .of g1, by omega⟩, fun x hx => ?_⟩
    obtain ⟨u, hu, hd⟩ := dqall_map g2 hx
    refine ⟨⟨vs, u, .of g1, hu⟩, fun w H3 y => ?_⟩
    obtain ⟨rfl, hy⟩ := y
    have ew : vs[i]? = some w := hy vs (.of g1)
    rw [hu] at ew
    cases ew
    exact ⟨F2, Same.refl F2, ow2, cl_dat hd⟩)
theorem zipIdx_get {xs : List α} {i : Nat} {z : Int × α} (h : (xs.zipIdx.map fun y => ((y.2 : Int), y.1))[i]? = some z) : z.1 = (i : Int) ∧ xs[i]? = some z.2 := by
  rw [List.getElem?_map, List.getElem?_zipIdx] at h
  cases e : xs[i]? with
  | none =>
    rw [e] at h
    cases h
  | some x =>
    rw [e] at h
    have := Option.some.inj h
    subst this
    exact ⟨by simp, rfl⟩
/-- enumerate(a list) -/
def enum {α : Type} (xs : List α) : List (Int × α) := xs.zipIdx.map fun y => ((y.2 : Int), y.1)
theorem enum_len {xs : List α} : (enum xs).length = xs.length := by
  unfold enum
  rw [List.length_map, List.length_zipIdx]
theorem ix_enum {elts : List Expr} {kk : Nat} {tpos : Pos} {φ : VP} {xs : List α} {enc : α → PyData} {c : Os → Prop} (B : Bd X N W G k) (hj : G[gi]? = some "enumerate") (hm : X.mg "enumerate" = none) (he : EX X es os e φ os1) (hc : ∀ o, c o → RdL X φ o (xs.map enc)) (h0 : c os1) (hs : starEach [e] X.env = [(false, eval e X.env)] := by rfl) :
    IX X (.Tuple elts kk tpos) es os (.Call (.Name "enumerate" p) [e] [] pos) (enum xs) (fun x => dat (.tuple [.int x.1, enc x.2])) c os1 := fun F σ H R ow sl q =>
  wi_of (pi_enum (B.gl _ (List.mem_of_getElem? hj)).1 hm pa_u hs) (wa_of (pa_cons pe_u pa_nil hs) (he F σ H _ ow sl fun F1 H1 v e1 o1 c1 => by
    obtain ⟨a, vs, rfl, h1, h2⟩ := hc os1 h0 F1 H1 v o1 c1
    refine ⟨a, vs, rfl, h1, q F1 H1 _ e1 o1 fun F2 H2 os2 i s ow2 k2 => ?_⟩
    obtain ⟨a', us, ea, g1, g2⟩ := hc os2 k2 F2 H2 _ ow2 (c1.mono s)
    cases ea
    have hl := dqall_len g2
    rw [List.length_map] at hl
    refine ⟨fun h => ⟨us, g1, by rw [enum_len] at h; omega⟩, fun x hx => ?_⟩
    obtain ⟨hz1, hz2⟩ := zipIdx_get hx
    obtain ⟨u, hu, hd⟩ := dqall_map g2 hz2
    refine ⟨⟨us, u, g1, hu⟩, fun w H3 y => ?_⟩
    obtain ⟨T, w2, rfl, hT, rfl, hy⟩ := y
    have ew : us[i]? = some w2 := hy us g1
    rw [hu] at ew
    cases ew
    have fT := ow2.ex.free hT
    refine ⟨_, same_upd fT, ow2.frozen hT, cl_dat (.tup upd_same ?_)⟩
    rw [hz1]
    exact .cons (.int _) (.cons (dq_mono (same_upd fT) _ _ hd) .nil)))
theorem drop_cons' {xs : List α} {i : Nat} {x : α} (h : xs[i]? = some x) : xs.drop i = x :: xs.drop (i + 1) := by
  obtain ⟨h1, h2⟩ := List.getElem?_eq_some_iff.mp h
  rw [List.drop_eq_getElem_cons h1, h2]
/-- what a turn is to reach -/
def LpD {R S γ : Type} (F0 : Hp) (ES : S → γ → List Slot) (OS : S → γ → Os) (RT : R → L2.V → Hp → Prop) (t : Step R S) : Ends where
  nx := fun σ H => ∃ s g, t = .go s ∧ At F0 (ES s g) (OS s g) σ H
  ct := fun σ H => ∃ s g, t = .go s ∧ At F0 (ES s g) (OS s g) σ H
  bk := fun σ H => ∃ s g, t = .brk s ∧ At F0 (ES s g) (OS s g) σ H
  rt := fun v H => ∃ r, t = .ret r ∧ RT r v H
/-- a loop that may be left. γ: what changes beside the mirror's state (addresses) -/
theorem sx_forR {R S γ : Type} {tg iter : Expr} {body : List Stmt} {xs : List α} {vp : α → VP} {c : Os → Prop} {up : α → List Slot → List Slot} {fpos : Pos} (f : S → α → Option (Step R S)) (ES : S → γ → List Slot) (OS : S → γ → Os) (RT : R → L2.V → Hp → Prop)
    (B : Bd X N W G k) (T : Bt X V) (hg : ∀ x, GX X tg (vp x) (up x)) (s0 : S) (g0 : γ) (o : Sum R S) (hl : lpR f xs s0 = some o) (hi : IX X tg es os iter xs vp c (OS s0 g0)) (h0 : Wk es (ES s0 g0)) (hc : ∀ s g, c (OS s g))
    (hb : ∀ F1, Same F0 F1 → ∀ s g x t, x ∈ xs → f s x = some t → SX X (up x (ES s g)) (OS s g) F1 body (LpD F1 ES OS RT t))
    (hn : ∀ s g, o = .inr s → SX X (ES s g) (OS s g) F0 rest D) (hr : ∀ r v H, o = .inl r → RT r v H → D.rt v H) (hs : ∀ x, foldedSetIterable iter X.env x = pure x := by intro _; rfl) : SX X es os F0 (.For tg iter body [] fpos :: rest) D := fun F σ H s ow sl => by
  refine wps_cons (ws_of (ps_for T.po B.calm pi_u pg_u pss_u hs) (hi F σ H _ ow sl fun F1 H1 J e1 o1 good => ?_))
  refine ⟨fun i m σ' H' => m = xs.length - i ∧ i ≤ xs.length ∧ ∃ s' g', lpR f (xs.drop i) s' = some o ∧ ∃ F', Same F1 F' ∧ Ow F' (OS s' g') H' ∧ Sl F' (ES s' g') σ', ⟨_, rfl, Nat.zero_le _, s0, g0, hl, F1, Same.refl F1, o1, (sl.mono e1).weak h0⟩, ?_⟩
  rintro i m σ' H' ⟨rfl, hi, s', g', hl', F', e', o', sl'⟩
  obtain ⟨stop, go⟩ := good F' H' (OS s' g') i e' o' (hc s' g')
  cases hx : xs[i]? with
  | none =>
    have hi2 : xs.length ≤ i := List.getElem?_eq_none_iff.mp hx
    refine .inl ⟨stop hi2, ?_⟩
    rw [List.drop_eq_nil_of_le hi2] at hl'
    cases hl'
    exact hn s' g' rfl F' σ' H' ((s.trans e1).trans e') o' sl'
  | some x =>
    obtain ⟨hgo, hy⟩ := go x hx
    have hlt : i < xs.length := (List.getElem?_eq_some_iff.mp hx).1
    rw [drop_cons' hx] at hl'
    cases hf : f s' x with
    | none =>
      unfold lpR at hl'
      rw [hf] at hl'
      cases hl'
    | some t =>
      unfold lpR at hl'
      rw [hf] at hl'
      have hl2 : Step.aft (lpR f (xs.drop (i + 1))) t = some o := hl'
      refine .inr ⟨hgo, fun σ2 H2 => ∃ s2 g2, t = .go s2 ∧ ∃ F2, Same F1 F2 ∧ Ow F2 (OS s2 g2) H2 ∧ Sl F2 (ES s2 g2) σ2, ?_, ?_⟩
      · rintro σ2 H2 ⟨s2, g2, rfl, F2, e2, o2, sl2⟩
        exact ⟨_, by omega, rfl, by omega, s2, g2, hl2, F2, e2, o2, sl2⟩
      · intro v H3 yv
        obtain ⟨F3, e3, o3, c3⟩ := hy v H3 yv
        refine hg x _ _ F3 σ' H3 v _ o3 (sl'.mono e3) c3 fun σ4 sl4 => ?_
        have key := hb F1 (s.trans e1) s' g' x t (List.mem_of_getElem? hx) hf
        have q3 : Same F1 F3 := e'.trans e3
        -- the body, from F3; its ends are at least as strong as is wanted
        intro pins sh I
        refine wpAny_mono (key F3 σ4 H3 q3 o3 sl4 pins sh I) (fun fl s5 z => ?_) fun _ _ z => z
        cases fl with
        | next =>
          obtain ⟨σ5, H5, J5, s5', g5, et, F5, e5, o5, sl5⟩ := z
          exact ⟨σ5, H5, J5, s5', g5, et, F5, e5, o5, sl5⟩
        | cont =>
          obtain ⟨σ5, H5, J5, s5', g5, et, F5, e5, o5, sl5⟩ := z
          exact ⟨σ5, H5, J5, s5', g5, et, F5, e5, o5, sl5⟩
        | brk =>
          obtain ⟨σ5, H5, J5, s5', g5, et, F5, e5, o5, sl5⟩ := z
          subst et
          cases hl2
          exact ⟨σ5, H5, J5, hn s5' g5 rfl F5 σ5 H5 ((s.trans e1).trans e5) o5 sl5⟩
        | ret u =>
          obtain ⟨w, σ5, H5, J5, rv, r, et, rr⟩ := z
          subst et
          cases hl2
          exact ⟨w, σ5, H5, J5, rv, hr r w H5 rfl rr⟩
end
end Z
namespace Z
open PySem PySem.Spec PyProof.Rows L2
theorem lp_lpR {α S : Type} (f : S → α → Option S) : ∀ (xs : List α) (s fin : S), lp f xs s = some fin → lpR (R := Empty) (fun s x => (f s x).map Step.go) xs s = some (.inr fin)
  | [], s, fin, h => by
    cases h
    rfl
  | x :: xs, s, fin, h => by
    unfold lp at h
    unfold lpR
    cases e : f s x with
    | none =>
      rw [e] at h
      cases h
    | some s' =>
      rw [e] at h
      exact lp_lpR f xs s' fin h
section
variable {X : Cx} {es : List Slot} {os os1 os2 : Os} {F0 : Hp} {rest : List Stmt} {D : Ends} {N V G W : List Str} {k i vi gi : Nat} {x : Str} {p pos : Pos} {e e2 : Expr} {α : Type}
/-- what a turn of a plain loop is to reach -/
def LgD {S γ : Type} (F0 : Hp) (ES : S → γ → List Slot) (OS : S → γ → Os) (s : S) : Ends where
  nx := fun σ H => ∃ g, At F0 (ES s g) (OS s g) σ H
  ct := fun σ H => ∃ g, At F0 (ES s g) (OS s g) σ H
  bk := fun _ _ => False
  rt := fun _ _ => False
theorem sx_for {S γ : Type} {tg iter : Expr} {body : List Stmt} {xs : List α} {vp : α → VP} {c : Os → Prop} {up : α → List Slot → List Slot} {fpos : Pos} (f : S → α → Option S) (ES : S → γ → List Slot) (OS : S → γ → Os)
    (B : Bd X N W G k) (T : Bt X V) (hg : ∀ x, GX X tg (vp x) (up x)) (s0 : S) (g0 : γ) (fin : S) (hl : lp f xs s0 = some fin) (hi : IX X tg es os iter xs vp c (OS s0 g0)) (h0 : Wk es (ES s0 g0)) (hc : ∀ s g, c (OS s g))
    (hb : ∀ F1, Same F0 F1 → ∀ s g x s', x ∈ xs → f s x = some s' → SX X (up x (ES s g)) (OS s g) F1 body (LgD F1 ES OS s'))
    (hn : ∀ g, SX X (ES fin g) (OS fin g) F0 rest D) (hs : ∀ x, foldedSetIterable iter X.env x = pure x := by intro _; rfl) : SX X es os F0 (.For tg iter body [] fpos :: rest) D := by
  refine sx_forR (R := Empty) (fun s x => (f s x).map Step.go) ES OS (fun _ _ _ => False) B T hg s0 g0 (.inr fin) (lp_lpR f xs s0 fin hl) hi h0 hc (fun F1 h1 s g x t hx ht => ?_) (fun s g e => ?_) (fun r _ _ _ z => z.elim) hs
  · cases e : f s x with
    | none =>
      rw [e] at ht
      cases ht
    | some s' =>
      rw [e] at ht
      cases ht
      intro F σ H a b c pins sh I
      refine wpAny_mono (hb F1 h1 s g x s' hx e F σ H a b c pins sh I) (fun fl s5 z => ?_) fun _ _ z => z
      cases fl with
      | next =>
        obtain ⟨σ5, H5, J5, g5, a5⟩ := z
        exact ⟨σ5, H5, J5, s', g5, rfl, a5⟩
      | cont =>
        obtain ⟨σ5, H5, J5, g5, a5⟩ := z
        exact ⟨σ5, H5, J5, s', g5, rfl, a5⟩
      | brk =>
        obtain ⟨σ5, H5, J5, z⟩ := z
        exact z.elim
      | ret u =>
        obtain ⟨w, σ5, H5, J5, rv, z⟩ := z
        exact z.elim
  · cases e
    exact hn g
theorem sx_while {R S γ : Type} {cd : Expr} {body : List Stmt} {fpos : Pos} (c : S → Option Bool) (f : S → Option (Step R S)) (ES : S → γ → List Slot) (OS : S → γ → Os) (RT : R → L2.V → Hp → Prop)
    (T : Bt X V) (n : Nat) (s0 : S) (g0 : γ) (o : Sum R S) (hl : wh c f n s0 = some o) (h0 : Wk es (ES s0 g0)) (ho : os = OS s0 g0)
    (hc : ∀ s g b, c s = some b → TX X (ES s g) (OS s g) cd b (OS s g))
    (hb : ∀ F1, Same F0 F1 → ∀ s g t, c s = some true → f s = some t → SX X (ES s g) (OS s g) F1 body (LpD F1 ES OS RT t))
    (hn : ∀ s g, o = .inr s → SX X (ES s g) (OS s g) F0 rest D) (hr : ∀ r v H, o = .inl r → RT r v H → D.rt v H) : SX X es os F0 (.While cd body [] fpos :: rest) D := fun F σ H s ow sl => by
  subst ho
  refine wps_cons (ws_of (ps_while T.po pt_u pss_u) ⟨fun m σ' H' => ∃ s' g', wh c f m s' = some o ∧ At F (ES s' g') (OS s' g') σ' H', ⟨n, s0, g0, hl, F, Same.refl F, ow, sl.weak h0⟩, ?_⟩)
  rintro m σ' H' ⟨s', g', hl', F', e', o', sl'⟩
  cases m with
  | zero => cases hl'
  | succ m =>
    unfold wh at hl'
    cases hcs : c s' with
    | none =>
      rw [hcs] at hl'
      cases hl'
    | some b =>
      rw [hcs] at hl'
      refine hc s' g' b hcs F' σ' H' _ o' sl' fun F1 H1 e1 o1 => ?_
      cases b with
      | false =>
        have hl2 : some (.inr s') = some o := hl'
        cases hl2
        rw [if_neg Bool.false_ne_true]
        exact hn s' g' rfl F1 σ' H1 ((s.trans e').trans e1) o1 (sl'.mono e1)
      | true =>
        have hl2 : (f s').bind (Step.aft (wh c f m)) = some o := hl'
        rw [if_pos rfl]
        cases hf : f s' with
        | none =>
          rw [hf] at hl2
          cases hl2
        | some t =>
          rw [hf] at hl2
          have hl3 : Step.aft (wh c f m) t = some o := hl2
          refine ⟨fun σ2 H2 => ∃ s2 g2, t = .go s2 ∧ At F (ES s2 g2) (OS s2 g2) σ2 H2, ?_, ?_⟩
          · rintro σ2 H2 ⟨s2, g2, rfl, a2⟩
            exact ⟨m, Nat.lt_succ_self m, s2, g2, hl3, a2⟩
          · intro pins sh I
            refine wpAny_mono (hb F s s' g' t hcs hf F1 σ' H1 (e'.trans e1) o1 (sl'.mono e1) pins sh I) (fun fl s5 z => ?_) fun _ _ z => z
            cases fl with
            | next => exact z
            | cont => exact z
            | brk =>
              obtain ⟨σ5, H5, J5, s5', g5, et, F5, e5, o5, sl5⟩ := z
              subst et
              cases hl3
              exact ⟨σ5, H5, J5, hn s5' g5 rfl F5 σ5 H5 (s.trans e5) o5 sl5⟩
            | ret u =>
              obtain ⟨w, σ5, H5, J5, rv, r, et, rr⟩ := z
              subst et
              cases hl3
              exact ⟨w, σ5, H5, J5, rv, hr r w H5 rfl rr⟩
theorem sl_wipe {F : Hp} {σ : L2.St} (h : Sl F es σ) : ∀ vs : List Nat, (∀ j ∈ vs, ∃ s, es[j]? = some s ∧ s = un) → Sl F es (wipe σ vs)
  | [], _ => h
  | v :: vs, hv => by
    have ih := sl_wipe h vs fun j hj => hv j (List.mem_cons_of_mem _ hj)
    obtain ⟨s, e, eu⟩ := hv v List.mem_cons_self
    subst eu
    have := ih.set (i := v) (s := un) (o := none) fun _ _ => trivial
    have e2 : es.set v un = es := by
      refine List.ext_getElem? fun j => ?_
      by_cases hj : v = j
      · subst hj
        rw [List.getElem?_set_self (List.getElem?_eq_some_iff.mp e).1, e]
      · rw [List.getElem?_set_ne hj]
    rw [e2] at this
    exact this
/-- the contexts in which the block of a comprehension runs -/
def Fam (X : Cx) (scope : Scope) (X' : Cx) : Prop := ∃ s H C cl fp, X' = X.blk s H scope (compEnvC scope cl C X.env) fp
/-- the tests of a comprehension: none, or one -/
inductive PTX (X : Cx) (es : List Slot) (os : Os) : List Expr → Bool → Os → Prop
  | nil : PTX X es os [] true os
  | one {c : Expr} {b : Bool} {os' : Os} : TX X es os c b os' → PTX X es os [c] b os'
def tIfs (X : Cx) (scope : Scope) (ifs : List Expr) : TT := fun σ H Q => match ifs with
  | [] => Q true H
  | [c] => ∀ X', Fam X scope X' → WT X' c σ H Q
  | _ => False
theorem pts_u {scope : Scope} {X' : Cx} (hf : Fam X scope X') : ∀ ifs : List Expr, PTs X' ifs (tIfs X scope ifs)
  | [] => pts_nil
  | [c] => pts_one ⟨fun pins s _ _ _ I h => h X' hf pins s I⟩
  | _ :: _ :: _ => ⟨fun _ _ _ _ _ _ h => h.elim⟩
def tElt (X : Cx) (scope : Scope) (e : Expr) : TE := fun σ H Q => ∀ X', Fam X scope X' → WE X' e σ H Q
theorem pe_elt {scope : Scope} {X' : Cx} (hf : Fam X scope X') : PE X' e (tElt X scope e) := ⟨fun pins s _ _ _ I h => h X' hf pins s I⟩
/-- the own names of a comprehension may be stored -/
def ownB (scope sc : Scope) (x : Str) : Bool := match (relS scope sc).names.lookup x with
  | some .local => true
  | some .cell => scope.names.lookup x == some .cell
  | _ => false
theorem pg_own {scope : Scope} {X' : Cx} {j : Nat} {y : Str} {tpos : Pos} (hf : Fam X scope X') (B : Bd X N W G k) (hj : N[j]? = some y) (ho : ownB scope X.env.scope y = true) : PG X' (.Name y tpos) (gName j) := by
  obtain ⟨s, H, C, cl, fp, rfl⟩ := hf
  unfold ownB at ho
  have e : (X.blk s H scope (compEnvC scope cl C X.env) fp).env.scope = relS scope X.env.scope := rfl
  split at ho
  · rename_i hl
    exact pg_name (B.hN ▸ B.nd) (B.hN ▸ hj) (.inl (by rw [e]; exact hl)) (.inr (by rw [e]; exact hl))
  · rename_i hl
    exact pg_name (B.hN ▸ B.nd) (B.hN ▸ hj) (.inr (by rw [e]; exact hl)) (.inl ho)
  · cases ho
/-- the state of a comprehension: the list so far, what is still to come -/
def LcS {S β : Type} (f : S → α → Option (Option β × S)) (OS : S → Os → Os) (enc : β → PyData) (xs : List α) (ys : List β) (sf : S) (os0 : Os) (Dl : Addr) (F1 : Hp) (i : Nat) (H : Hp) : Prop :=
  ∃ s d r F, lcS f (xs.drop i) s = some (r, sf) ∧ ys = d ++ r ∧ d.length ≤ i ∧ Same F1 F ∧ Ow F (OS s ((Dl, ol (d.map enc)) :: os0)) H
theorem lc_elt {S β : Type} {elt : Expr} {scope : Scope} {xs : List α} {enc : β → PyData} {f : S → α → Option (Option β × S)} {OS : S → Os → Os} {ys : List β} {sf : S} {os0 : Os} {Dl : Addr} {F1 F4 : Hp} {i : Nat} {up : List Slot} {t : Option β × S} {d r : List β} {σ : L2.St} {H4 : Hp} {os1 : Os}
    (hperm : ∀ s q tl, (OS s (q :: tl)).Perm (q :: OS s tl)) (hi : i < xs.length) (hz : xs.length < sizeLine) (hd : d.length ≤ i) (hr : ((lcS f (xs.drop (i + 1)) t.2).bind fun u => some (t.1.toList ++ u.1, u.2)) = some (r, sf)) (hy : ys = d ++ r)
    (e4 : Same F1 F4) (o4 : Ow F4 os1 H4) (sl : Sl F4 up σ) (key : ∀ X', Fam X scope X' → ∃ y, t.1 = some y ∧ EX X' up os1 elt (dat (enc y)) (OS t.2 ((Dl, ol (d.map enc)) :: os0))) :
    tElt X scope elt σ H4 fun y H5 => ∃ acc, H5 Dl = some (.lst acc) ∧ acc.length < sizeLine ∧ LcS f OS enc xs ys sf os0 Dl F1 (i + 1) (upd H5 Dl (.lst (acc ++ [y]))) := by
  intro X' hX'
  obtain ⟨y, hy1, he⟩ := key X' hX'
  refine he F4 σ H4 _ o4 sl fun F5 H5 v e5 o5 c5 => ?_
  have o6 := o5.perm (hperm t.2 _ os0)
  obtain ⟨_, vs, hu, hv⟩ := o6.atL
  have hl := dqall_len hv
  rw [List.length_map] at hl
  refine ⟨vs, hu, by omega, ?_⟩
  cases hu2 : lcS f (xs.drop (i + 1)) t.2 with
  | none =>
    rw [hu2] at hr
    cases hr
  | some w =>
    rw [hu2, hy1] at hr
    have hr2 : (y :: w.1, w.2) = (r, sf) := Option.some.inj hr
    obtain ⟨rfl, rfl⟩ := Prod.mk.inj hr2
    refine ⟨t.2, d ++ [y], w.1, F5, by rw [hu2], by rw [hy, List.append_assoc]; rfl, by rw [List.length_append, List.length_singleton]; omega, e4.trans e5, ?_⟩
    refine (o6.putL (ds' := (d ++ [y]).map enc) ?_).perm (hperm t.2 _ os0).symm
    rw [List.map_append]
    exact dqall_app hv (.cons c5.now .nil)
theorem lc_read {S β : Type} {elt iter tg : Expr} {ifs : List Expr} {scope : Scope} {vs : List Nat} {xs : List α} {vp : α → VP} {c : Os → Prop} {g : TG} {up : α → List Slot → List Slot} {enc : β → PyData} {f : S → α → Option (Option β × S)} {OS : S → Os → Os}
    {s0 : S} {os0 : Os} {ys : List β} {sf : S} (hv : ∀ j ∈ vs, es[j]? = some un) (hid : ∀ σ : L2.St, wipe (wipe σ vs) vs = wipe σ vs)
    (hg : ∀ x F σ H v Q os2, Sl F es σ → wipe σ vs = σ → Ow F os2 H → Cl (vp x) F v → (∀ σ', Sl F (up x es) σ' → wipe σ' vs = σ → Q σ' H) → g v σ H Q)
    (hif : ifs.length ≤ 1) (hl : lcS f xs s0 = some (ys, sf)) (hz : xs.length < sizeLine) (hi : IX X tg es os iter xs vp c (OS s0 os0)) (hc : ∀ s tl, c (OS s tl)) (hperm : ∀ s q tl, (OS s (q :: tl)).Perm (q :: OS s tl))
    (hb : ∀ s x t tl, x ∈ xs → f s x = some t → ∃ b os1, ∀ X', Fam X scope X' → PTX X' (up x es) (OS s tl) ifs b os1 ∧ (b = true → ∃ y, t.1 = some y ∧ EX X' (up x es) os1 elt (dat (enc y)) (OS t.2 tl)) ∧ (b = false → t.1 = none ∧ os1 = OS t.2 tl))
    {F σ H Q} (ow : Ow F os H) (sl : Sl F es σ) (q : ∀ F' H' p, Same F F' → Ow F' ((p, ol (ys.map enc)) :: OS sf os0) H' → Q (.ref p) H') : tLc (WI X tg iter) g (tIfs X scope ifs) (tElt X scope elt) vs σ H Q := by
  refine hi F σ H _ ow sl fun F1 H1 J e1 o1 good Dl hD => ?_
  refine ⟨fun i m H => m = xs.length - i ∧ i ≤ xs.length ∧ LcS f OS enc xs ys sf os0 Dl F1 i H, ⟨_, rfl, Nat.zero_le _, s0, [], ys, F1, hl, rfl, Nat.le_refl _, Same.refl F1, ?_⟩, ?_⟩
  · exact (o1.new hD fun G g => ⟨[], rfl, .nil⟩).perm (hperm s0 _ os0).symm
  · rintro i m H' ⟨rfl, hi, s, d, r, F', hr, hy, hdl, e', o'⟩
    obtain ⟨stop, go⟩ := good F' H' _ i e' o' (hc s _)
    cases hx : xs[i]? with
    | none =>
      have hi2 : xs.length ≤ i := List.getElem?_eq_none_iff.mp hx
      rw [List.drop_eq_nil_of_le hi2] at hr
      cases hr
      refine .inl ⟨stop hi2, q F' H' Dl (e1.trans e') ?_⟩
      rw [hy, List.append_nil]
      exact o'.perm (hperm _ _ os0)
    | some x =>
      obtain ⟨hgo, hyl⟩ := go x hx
      have hlt : i < xs.length := (List.getElem?_eq_some_iff.mp hx).1
      rw [drop_cons' hx] at hr
      unfold lcS at hr
      cases hf : f s x with
      | none =>
        rw [hf] at hr
        cases hr
      | some t =>
        rw [hf] at hr
        have hr : ((lcS f (xs.drop (i + 1)) t.2).bind fun u => some (t.1.toList ++ u.1, u.2)) = some (r, sf) := hr
        refine .inr ⟨hgo, LcS f OS enc xs ys sf os0 Dl F1 (i + 1), fun H2 hH2 => ⟨_, by omega, rfl, by omega, hH2⟩, fun v H3 yv => ?_⟩
        obtain ⟨F3, e3, o3, c3⟩ := hyl v H3 yv
        have slw : Sl F3 es (wipe σ vs) := sl_wipe (sl.mono ((e1.trans e').trans e3)) vs fun j hj => ⟨un, hv j hj, rfl⟩
        refine hg x F3 (wipe σ vs) H3 v _ _ slw (hid σ) o3 c3 fun σ' sl' hw => ⟨hw, ?_⟩
        obtain ⟨b, os1, key⟩ := hb s x t ((Dl, ol (d.map enc)) :: os0) (List.mem_of_getElem? hx) hf
        have e4 := e'.trans e3
        match ifs, hif, key with
        | [], _, key =>
          refine lc_elt hperm hlt hz hdl hr hy e4 o3 sl' fun X' hX' => ?_
          obtain ⟨k1, k2, _⟩ := key X' hX'
          cases k1
          exact k2 rfl
        | [cd], _, key =>
          intro X' hX'
          obtain ⟨k1, k2, k3⟩ := key X' hX'
          cases k1 with
          | one ht =>
            refine ht F3 σ' H3 _ o3 sl' fun F4 H4 e5 o4 => ?_
            cases b with
            | true =>
              rw [if_pos rfl]
              exact lc_elt hperm hlt hz hdl hr hy (e4.trans e5) o4 (sl'.mono e5) fun X'' hX'' => (key X'' hX'').2.1 rfl
            | false =>
              rw [if_neg Bool.false_ne_true]
              obtain ⟨k4, rfl⟩ := k3 rfl
              cases hu2 : lcS f (xs.drop (i + 1)) t.2 with
              | none =>
                rw [hu2] at hr
                cases hr
              | some w =>
                rw [hu2, k4] at hr
                have hr2 : (w.1, w.2) = (r, sf) := Option.some.inj hr
                obtain ⟨rfl, rfl⟩ := Prod.mk.inj hr2
                exact ⟨t.2, d, w.1, F4, by rw [hu2], hy, by omega, e4.trans e5, o4⟩
        | _ :: _ :: _, hif, key =>
          rw [List.length_cons, List.length_cons] at hif
          omega
/-- all that a comprehension asks -/
structure LcOk (X : Cx) (es : List Slot) (os : Os) {α S β : Type} (tg iter elt : Expr) (ifs : List Expr) (scope : Scope) (own : List (Str × Nat)) (xs : List α) (vp : α → VP) (c : Os → Prop) (g : TG) (up : α → List Slot → List Slot) (enc : β → PyData)
    (f : S → α → Option (Option β × S)) (OS : S → Os → Os) (s0 : S) (os0 : Os) (ys : List β) (sf : S) : Prop where
  calm : X.calm = true
  nd : X.N.Nodup
  ok : BlkOk X.N X.env.scope scope own
  pg : ∀ X', Fam X scope X' → PG X' tg g
  hv : ∀ j ∈ own.map (·.2), es[j]? = some un
  hid : ∀ σ : L2.St, wipe (wipe σ (own.map (·.2))) (own.map (·.2)) = wipe σ (own.map (·.2))
  hg : ∀ x F σ H v Q os2, Sl F es σ → wipe σ (own.map (·.2)) = σ → Ow F os2 H → Cl (vp x) F v → (∀ σ', Sl F (up x es) σ' → wipe σ' (own.map (·.2)) = σ → Q σ' H) → g v σ H Q
  hif : ifs.length ≤ 1
  hl : lcS f xs s0 = some (ys, sf)
  hz : xs.length < sizeLine
  hi : IX X tg es os iter xs vp c (OS s0 os0)
  hc : ∀ s tl, c (OS s tl)
  hperm : ∀ s q tl, (OS s (q :: tl)).Perm (q :: OS s tl)
  hb : ∀ s x t tl, x ∈ xs → f s x = some t → ∃ b os1, ∀ X', Fam X scope X' → PTX X' (up x es) (OS s tl) ifs b os1 ∧ (b = true → ∃ y, t.1 = some y ∧ EX X' (up x es) os1 elt (dat (enc y)) (OS t.2 tl)) ∧ (b = false → t.1 = none ∧ os1 = OS t.2 tl)
section
variable {α S β : Type} {tg iter elt : Expr} {ifs : List Expr} {scope : Scope} {own : List (Str × Nat)} {xs : List α} {vp : α → VP} {c : Os → Prop} {g : TG} {up : α → List Slot → List Slot} {enc : β → PyData}
    {f : S → α → Option (Option β × S)} {OS : S → Os → Os} {s0 : S} {os0 : Os} {ys : List β} {sf : S}
theorem en_lc (h : LcOk X es os tg iter elt ifs scope own xs vp c g up enc f OS s0 os0 ys sf) (hs : ∀ x, foldedSetIterable iter X.env x = pure x := by intro _; rfl) : EN X es os (.ListComp elt [⟨tg, iter, ifs, 0⟩] scope pos) (ol (ys.map enc)) (OS sf os0) := fun F σ H Q ow sl q =>
  we_of (pe_lc h.calm h.nd pi_u h.ok (fun s H C cl fp => h.pg _ ⟨s, H, C, cl, fp, rfl⟩) (fun s H C cl fp => pts_u ⟨s, H, C, cl, fp, rfl⟩ ifs) (fun s H C cl fp => pe_elt ⟨s, H, C, cl, fp, rfl⟩) hs)
    (lc_read h.hv h.hid h.hg h.hif h.hl h.hz h.hi h.hc h.hperm h.hb ow sl q)
theorem sx_asgLc {y : Str} {py spos : Pos} (B : Bd X N W G k) (T : Bt X V) (hi : N[i]? = some y) (hyl : X.env.scope.names.lookup y = some .local) (h : LcOk X es os tg iter elt ifs scope own xs vp c g up enc f OS s0 os0 ys sf)
    (hsw : swapsWith (.ListComp elt [⟨tg, iter, ifs, 0⟩] scope pos) (some (.Name y py)) spos.line X.env = pure true)
    (hn : ∀ p, SX X (es.set i (sl (Z.own p))) ((p, ol (ys.map enc)) :: OS sf os0) F0 rest D) (hs : ∀ x, foldedSetIterable iter X.env x = pure x := by intro _; rfl) : SX X es os F0 (.Assign [.Name y py] (.ListComp elt [⟨tg, iter, ifs, 0⟩] scope pos) spos :: rest) D := fun F σ H s ow sl =>
  wps_cons (ws_of (ps_setLc h.calm h.nd (B.hN ▸ hi) hyl hsw pi_u h.ok (fun s H C cl fp => h.pg _ ⟨s, H, C, cl, fp, rfl⟩) (fun s H C cl fp => pts_u ⟨s, H, C, cl, fp, rfl⟩ ifs) (fun s H C cl fp => pe_elt ⟨s, H, C, cl, fp, rfl⟩) hs)
    (lc_read (Q := fun v H1 => gName i v σ H1 (WPs X rest D)) h.hv h.hid h.hg h.hif h.hl h.hz h.hi h.hc h.hperm h.hb ow sl fun F1 H1 p e1 o1 => hn p F1 _ H1 (s.trans e1) o1 ((sl.mono e1).put cl_own)))
end
/-- the target is one name -/
theorem lc_gname {α : Type} {vp : α → VP} {j : Nat} (x : α) (F : Hp) (σ : L2.St) (H : Hp) (v : L2.V) (Q : L2.St → Hp → Prop) (os2 : Os) (sl : Sl F es σ) (hw : wipe σ [j] = σ) (ow : Ow F os2 H) (c : Cl (vp x) F v) (q : ∀ σ', Sl F (es.set j (Z.sl (vp x))) σ' → wipe σ' [j] = σ → Q σ' H) : gName j v σ H Q := by
  refine q _ (sl.put c) ?_
  show (σ.set j (some v)).set j none = σ
  rw [List.set_set]
  exact hw
theorem lc_id1 {j : Nat} (σ : L2.St) : wipe (wipe σ [j]) [j] = wipe σ [j] := by
  show (σ.set j none).set j none = σ.set j none
  rw [List.set_set]
/-- a pair of names -/
theorem lc_id2 {i j : Nat} (hij : i ≠ j) (σ : L2.St) : wipe (wipe σ [i, j]) [i, j] = wipe σ [i, j] := by
  show (((σ.set j none).set i none).set j none).set i none = (σ.set j none).set i none
  rw [List.set_comm _ _ hij, List.set_set, List.set_set]
theorem lc_gpair {α : Type} {K : PySem.W.Frag} {d1 d2 : α → PyData} {i j : Nat} (hij : i ≠ j) (x : α) (F : Hp) (σ : L2.St) (H : Hp) (v : L2.V) (Q : L2.St → Hp → Prop) (os2 : Os) (sl : Sl F es σ) (hw : wipe σ [i, j] = σ) (ow : Ow F os2 H) (c : Cl (dat (.tuple [d1 x, d2 x])) F v)
    (q : ∀ σ', Sl F ((es.set i (Z.sl (dat (d1 x)))).set j (Z.sl (dat (d2 x)))) σ' → wipe σ' [i, j] = σ → Q σ' H) : gTup K 2 (gCons (gName i) (gCons (gName j) gNil)) v σ H Q := by
  obtain ⟨p, vs, rfl, hp, hv⟩ := rdt_dat F v c
  cases hv with
  | cons k1 r =>
    cases r with
    | cons k2 r =>
      cases r
      refine ⟨p, _, rfl, .of (ow.ex _ _ hp), rfl, _, _, rfl, _, _, rfl, rfl, ?_⟩
      refine q _ ((sl.put (cl_dat k1)).put (cl_dat k2)) ?_
      have hw2 : (σ.set j none).set i none = σ := hw
      show (((σ.set i _).set j _).set j none).set i none = σ
      rw [List.set_set, List.set_comm _ _ hij, List.set_set, List.set_comm _ _ (Ne.symm hij)]
      rw [List.set_comm _ _ hij]
      exact hw2
theorem pg_own2 {scope : Scope} {X' : Cx} {i j : Nat} {y z : Str} {p1 p2 tpos : Pos} {kk : Nat} (hf : Fam X scope X') (B : Bd X N W G k) (hi : N[i]? = some y) (hj : N[j]? = some z) (ho : ownB scope X.env.scope y = true) (ho2 : ownB scope X.env.scope z = true) :
    PG X' (.Tuple [.Name y p1, .Name z p2] kk tpos) (gTup X'.K 2 (gCons (gName i) (gCons (gName j) gNil))) := by
  have hc : X'.calm = true := by
    obtain ⟨s, H, C, cl, fp, rfl⟩ := hf
    exact B.calm
  exact pg_tup hc (pgs_cons (pg_own hf B hi ho) (pgs_cons (pg_own hf B hj ho2) pgs_nil))
/-- a body's facts hold in a comprehension's block -/
theorem Bd.fam {scope : Scope} {X' : Cx} {W' G' : List Str} (B : Bd X N W G k) (hf : Fam X scope X') (h : namB (relS scope X.env.scope) W' G' = true) : Bd X' N W' G' k := by
  obtain ⟨s, H, C, cl, fp, rfl⟩ := hf
  exact ⟨B.hN, B.nd, B.calm, B.gd, B.room, nam_vis h, nam_gl h⟩
end
end Z
namespace Z
open PySem PySem.Spec PyProof.Rows L2
section
variable {P : Program} {w : World} {K : PySem.W.Frag} {mg : Str → Option Value} {base : Heap}
theorem pass_nox {N : List Str} {qual : Str} {sc : Scope} {f : Addr} {cdv : Value} {A : Around} {outer : List Env} {s : Shared} {H : Hp} {E : XK} {sts : List Stmt} {D : Ends} {σ : L2.St} {H' : Hp}
    (h : WPs (cxOf CX0 P w K mg base N qual sc f cdv A outer s H E).nox sts D σ H') : WPs (cxOf CX0 P w K mg base N qual sc f cdv A outer s H E) sts D σ H' :=
  wps_of (PSs.nox (pss_u (X := (cxOf CX0 P w K mg base N qual sc f cdv A outer s H E).nox))) h
theorem cla_start {F : Hp} : ∀ {φs : List VP} {vs : List L2.V} (n : Nat), ClA φs F vs → Sl F (φs.map sl ++ List.replicate n un) (vs.map some ++ List.replicate n none)
  | [], _, n, h => by
    have e : _ = [] := h
    subst e
    refine ⟨by simp, fun i t q => ?_⟩
    have q' : (List.replicate n un)[i]? = some t := q
    rw [List.getElem?_replicate] at q'
    split at q'
    · rename_i hi
      cases q'
      refine ⟨none, ?_, fun _ _ => trivial⟩
      show (List.replicate n none)[i]? = some none
      rw [List.getElem?_replicate, if_pos hi]
    · cases q'
  | φ :: φs, _, n, ⟨v, r, e, h1, h2⟩ => by
    subst e
    have ih := cla_start n h2
    refine ⟨by simpa using ih.len, fun i t q => ?_⟩
    cases i with
    | zero =>
      have q' : some (sl φ) = some t := q
      cases q'
      exact ⟨some v, rfl, fun G g => ⟨v, rfl, h1 G g⟩⟩
    | succ i => exact ih.get i t q
/-- how a body hands back what a promise tells -/
structure RetZ (F0 : Hp) (os : Os) (φ : VP) (D : Ends) : Prop where
  rt : ∀ F H v, Same F0 F → Ow F os H → Cl φ F v → D.rt v H
  nx : ∀ σ H, D.rt .non H → D.nx σ H
structure RetN (F0 : Hp) (os : Os) (n : Ent) (D : Ends) : Prop where
  rt : ∀ F H p, Same F0 F → Ow F ((p, n) :: os) H → D.rt (.ref p) H
variable {α β : Type} {ps : α → List VP} {pre : α → Os} {m : α → Option β} {res : α → β → VP} {post : α → β → Os} {n : α → β → Ent} {x : Str} {st : Stmt} {f : Addr} {fd : FuncData} {N V Gs pn : List Str} {k nl : Nat}
theorem cal_Z (Fn : Fun K x x st f fd) (S : FnScope N pn (defScope st)) (nam : namB (defScope st) V Gs = true) (loc : V.all (locB (defScope st)) = true) (hmg : mg x = some (.ref f)) (hb : Binds K fd pn []) (hps : ∀ a, (ps a).length = pn.length) (hN : N.length = pn.length + nl)
    (body : ∀ (f : Addr) (cdv : Value) (A : Around) (outer : List Env) (s : Shared) (H : Hp) (E : XK) (a : α) (b : β) (F0 : Hp) (os : Os) (D : Ends), Bd (cxOf CX0 P w K mg base N x (defScope st) f cdv A outer s H E).nox N V Gs k → Bt (cxOf CX0 P w K mg base N x (defScope st) f cdv A outer s H E).nox V →
      m a = some b → RetZ F0 (post a b ++ os) (res a b) D → SX (cxOf CX0 P w K mg base N x (defScope st) f cdv A outer s H E).nox ((ps a).map sl ++ List.replicate nl un) (pre a ++ os) F0 (defBody st) D) : Cal P w K mg base (k + 1) x st pn (spZ ps pre m res post) := by
  refine ⟨f, fd, Fn, fun_ok Fn S (spZ_len hps) ?_, hmg, hb⟩
  rintro cdv A outer s H vs Q E hg hr ⟨a, b, F, os, c, ow, hm, q⟩
  refine pass_nox ?_
  have hl := (cla_len c).trans (hps a)
  have hst : L2.start N vs = vs.map some ++ List.replicate nl none := by
    unfold L2.start
    rw [hl, hN, Nat.add_sub_cancel_left]
  rw [hst]
  refine body f cdv A outer s H E a b F os _ ⟨rfl, S.nd, rfl, hg, hr, nam_vis nam, nam_gl nam⟩ ⟨fun _ => rfl, fun y hy => loc_of (List.all_eq_true.mp loc y hy), PassesOwn.never⟩ hm ⟨fun F' H' v e o c => q F' H' v e o c, fun _ _ z => z⟩ F _ H (Same.refl F) ow (cla_start nl c)
theorem cal_N (Fn : Fun K x x st f fd) (S : FnScope N pn (defScope st)) (nam : namB (defScope st) V Gs = true) (loc : V.all (locB (defScope st)) = true) (hmg : mg x = some (.ref f)) (hb : Binds K fd pn []) (hps : ∀ a, (ps a).length = pn.length) (hN : N.length = pn.length + nl)
    (body : ∀ (f : Addr) (cdv : Value) (A : Around) (outer : List Env) (s : Shared) (H : Hp) (E : XK) (a : α) (b : β) (F0 : Hp) (os : Os) (D : Ends), Bd (cxOf CX0 P w K mg base N x (defScope st) f cdv A outer s H E).nox N V Gs k → Bt (cxOf CX0 P w K mg base N x (defScope st) f cdv A outer s H E).nox V →
      m a = some b → RetN F0 (post a b ++ os) (n a b) D → SX (cxOf CX0 P w K mg base N x (defScope st) f cdv A outer s H E).nox ((ps a).map sl ++ List.replicate nl un) (pre a ++ os) F0 (defBody st) D) : Cal P w K mg base (k + 1) x st pn (spN ps pre m n post) := by
  refine ⟨f, fd, Fn, fun_ok Fn S (spN_len hps) ?_, hmg, hb⟩
  rintro cdv A outer s H vs Q E hg hr ⟨a, b, F, os, c, ow, hm, q⟩
  refine pass_nox ?_
  have hl := (cla_len c).trans (hps a)
  have hst : L2.start N vs = vs.map some ++ List.replicate nl none := by
    unfold L2.start
    rw [hl, hN, Nat.add_sub_cancel_left]
  rw [hst]
  refine body f cdv A outer s H E a b F os _ ⟨rfl, S.nd, rfl, hg, hr, nam_vis nam, nam_gl nam⟩ ⟨fun _ => rfl, fun y hy => loc_of (List.all_eq_true.mp loc y hy), PassesOwn.never⟩ hm ⟨fun F' H' p e o => q F' H' p e o⟩ F _ H (Same.refl F) ow (cla_start nl c)
end
/-- the law's call keeps a promise -/
def LawSp (K : PySem.W.Frag) (m : List Int → Option Bool) : Sp := spZ (fun ns => [scr K ns]) (fun _ => []) m (fun _ b => dat (.bool b)) (fun _ _ => [])
theorem law_run {P : Program} {w : World} {K : PySem.W.Frag} {mg mb : Str → Option Value} {k : Nat} {fa a : Addr} {fd : FuncData} {x : Str} {sp : Sp} {s1 : Shared} {vs : List Value} {ns : List Int}
    (KX : K.In s1.heap) (hns : s1.heap.Ns mainGlobals mg) (hb : s1.heap.Ns builtinsNs mb) (hbb : ∀ x : Str, x ≠ "__name__" → mb x = bootBuiltins x) (hlim : s1.heap.NoLimit) (hg : s1.gens = #[])
    (ha : s1.heap.get? a = some { cls := .type "list", data := .seq vs.toArray }) (hi : IntsAre vs ns) (hl : ns.length ≤ sizeLine) (hr : Room k callerA)
    (F : ∀ base : Heap, K.In base → base.Ns mainGlobals mg → FnG P w K mg base CX0 k fa fd [x] sp) (hbind : ∀ (s : Shared) (u : Value), BindsTo s fd ⟨[u], []⟩ [(x, u)])
    (hsp : ∀ H : Hp, Only H → SqL K H a (ns.map V.int) → sp [.ref a] H (fun v _ => v = .bl true) E0) :
    codeAny (model P w) callerA (.call (.ref fa) ⟨[.ref a], []⟩) (fun r s' => r = .ok (.ret (.bool true)) ∧ OldK s1.heap s'.heap ∧ s'.os = s1.os ∧ AllBare s'.gens) s1 := by
  have rv := vals_ints hi
  have step : ∀ H : Hp, Only H → SqL K H a (ns.map V.int) → HOk P w H s1.heap → (∀ b, H b ≠ none → b = a) → (H a ≠ none → K.lookup a = none) →
      codeAny (model P w) callerA (.call (.ref fa) ⟨[.ref a], []⟩) (fun r s' => r = .ok (.ret (.bool true)) ∧ OldK s1.heap s'.heap ∧ s'.os = s1.os ∧ AllBare s'.gens) s1 := by
    intro H only seq hok single lone
    have nsH : ∀ {b : Addr} {m : Str → Option Value}, s1.heap.Ns b m → (hidT s1.heap H).Ns b m := by
      rintro b m ⟨o, es, ep, e, d, r⟩
      refine ⟨o, es, ep, hidT_get e ?_, d, r⟩
      cases q : H b with
      | none => rfl
      | some u =>
        obtain rfl : b = a := single b (by rw [q]; simp)
        rw [ha] at e
        cases e
        have d' : Data.seq vs.toArray _ = Data.dict es ep := d
        cases d'
    have kin : K.In (hidT s1.heap H) := by
      intro b o e
      refine hidT_get (KX b o e) ?_
      cases q : H b with
      | none => rfl
      | some u =>
        obtain rfl : b = a := single b (by rw [q]; simp)
        have := lone (by rw [q]; simp)
        rw [this] at e
        cases e
    obtain ⟨mc, lim1, lim2⟩ := hlim
    have e0 : Env0 P w K mg (hidT s1.heap H) callerA [] s1 H :=
      { frames := rfl
        mod := ⟨kin, nsH hns, ⟨mb, nsH hb, hbb⟩, ⟨mc, nsH lim1, lim2⟩⟩
        bs := fun b o e => of_hidT e
        bsz := Nat.le_of_eq (hidT_size _ _)
        funs := trivial
        frf := fun b hb => nomatch (show b ∈ ([] : List Addr) from hb)
        hok := hok
        bare := .of_eq hg }
    refine codeAny_mono ((F _ kin (nsH hns)).run callerA [] s1 H ⟨[.ref a], []⟩ [.ref a] [.ref a] _ _ rfl hr e0 (hbind s1 (.ref a)) (.cons rfl .nil) (hsp H only seq)) ?_
    intro r s' h
    cases r with
    | error e => exact h.elim
    | ok fl =>
      cases fl with
      | next => exact h.elim
      | brk => exact h.elim
      | cont => exact h.elim
      | ret u =>
        obtain ⟨v, H', os, bare, un, hok', r', q⟩ := h
        obtain rfl : v = .bl true := q
        obtain rfl : u = Value.bool true := r'
        refine ⟨rfl, OldK.of_keep ?_, os, bare⟩
        intro b o e
        cases q : H b with
        | none => exact un.keep b o e q (fun z => nomatch (show b ∈ ([] : List Addr) from z)) (fun z => nomatch z)
        | some u =>
          rcases only b with z | ⟨ob, xs, z⟩
          · rw [q] at z
            cases z
          · obtain ⟨e1, _⟩ := hok b _ z
            obtain ⟨e2, _⟩ := hok' b _ (un.frzs b ob _ z)
            rw [e] at e1
            cases e1
            exact e2
  cases hk : K.lookup a with
  | some o =>
    have e := KX a o hk
    rw [ha] at e
    cases e
    exact step (fun _ => none) (fun _ => .inl rfl) (.inr ⟨_, vs.toArray, _, hk, rfl, rfl, rfl, by rw [List.size_toArray, hi.length]; exact hl, by simpa using rv⟩) (fun b u z => nomatch z) (fun b z => absurd rfl z) fun z => absurd rfl z
  | none =>
    let Hs : Hp := fun b => if b = a then some (.frz { cls := .type "list", data := .seq vs.toArray } (.lst (ns.map V.int))) else none
    have at_ : Hs a = some (.frz { cls := .type "list", data := .seq vs.toArray } (.lst (ns.map V.int))) := if_pos rfl
    have off : ∀ b, b ≠ a → Hs b = none := fun b h => if_neg h
    refine step Hs (fun b => ?_) (.inl (.inr ⟨_, at_⟩)) (fun b u z => ?_) (fun b z => Classical.byContradiction fun h => z (off b h)) fun _ => hk
    · by_cases h : b = a
      · exact .inr ⟨_, _, h ▸ at_⟩
      · exact .inl (off b h)
    · by_cases h : b = a
      · subst h
        rw [at_] at z
        cases z
        exact ⟨ha, by rw [List.length_map]; exact hl, vs, _, rv, ha⟩
      · rw [off b h] at z
        cases z
theorem law_sp {K : PySem.W.Frag} {m : List Int → Option Bool} {H : Hp} {a : Addr} {ns : List Int} (hm : m ns = some true) (hS : SqL K H a (ns.map V.int)) : LawSp K m [.ref a] H (fun v _ => v = .bl true) E0 :=
  ⟨ns, true, H, [], ⟨_, [], rfl, fun G g => ⟨a, rfl, g.seq hS⟩, rfl⟩, ⟨Same.refl H, [], .nil, (fun _ z => nomatch z), .nil⟩, hm, fun F' H' v _ _ c => clv_bool c⟩
/-- the goal that k_head leaves -/
theorem walk_ofG {l : PySem.W.OpenLaw} {n k : Nat} {q : Program} {loose : List Str} {XP : (Str → Option Value) → Heap → Prop} {YP : World → Heap → Prop} {d : DefRec} {K : Params → PySem.W.Frag} {m : List Int → Option Bool} {x : Str}
    (hn : l.most = some n) (hn2 : n ≤ sizeLine) (hdf : d.params.defaults = []) (hr : Room k callerA) (hY : ∀ (w : World) (h : Heap), YP w h → (K w.params).In h)
    (F : ∀ (w : World) (mg : Str → Option Value) (fa : Addr) (h : Heap), (K w.params).In h → h.Ns mainGlobals mg → mg d.name = some (.ref fa) →
      ∃ fd : FuncData, (∀ (s : Shared) (u : Value), BindsTo s fd ⟨[u], []⟩ [(x, u)]) ∧ ∀ base : Heap, (K w.params).In base → base.Ns mainGlobals mg → FnG l.prog w (K w.params) mg base CX0 k fa fd [x] (LawSp (K w.params) m))
    (hm : ∀ ns : List Int, ns.length ≤ n → m ns = some true) : PySem.W.WalkO q loose XP YP l.row.toRowW d [] (fun f vs => PySem.call f vs) := by
  refine Att.attach_call hn hdf ?_
  intro w s0 s1 mg mb fa o pm cd doc a vs ns G Y ho hd hcd hmg hobj hints hlen hg
  have KX := hY w _ Y
  obtain ⟨fd, hb, hF⟩ := F w mg fa _ KX G.T.g hmg
  exact law_run KX G.T.g G.T.b G.T.builtins G.T.nolimit hg hobj hints (Nat.le_trans hlen hn2) hr hF hb fun H _ hS => law_sp (hm ns hlen) hS
end Z
namespace Z
open PySem PySem.Spec PyProof.Rows L2
theorem bnd {α β : Type} {m : Option α} {k : α → Option β} {b : β} (h : m.bind k = some b) : ∃ a, m = some a ∧ k a = some b := by
  cases m with
  | none => cases h
  | some a => exact ⟨a, rfl, h⟩
theorem ifT {α : Type} {c : Bool} {a b : Option α} {r : α} (h : (if c = true then a else b) = some r) (hc : c = true) : a = some r := by
  rw [if_pos hc] at h
  exact h
theorem ifF {α : Type} {c : Bool} {a b : Option α} {r : α} (h : (if c = true then a else b) = some r) (hc : c = false) : b = some r := by
  rw [if_neg (by rw [hc]; exact Bool.false_ne_true)] at h
  exact h
theorem som {α : Type} {a b : α} (h : some a = some b) : a = b := Option.some.inj h
/-- the ends of range(..) in bounds -/
def rngO (a b : Int) : Option (List Int) := if -(2 ^ 62) ≤ a ∧ a < 2 ^ 62 ∧ -(2 ^ 62) ≤ b ∧ b < 2 ^ 62 then some (range' a b) else none
/-- a list may grow by so many -/
def appO {α : Type} (xs : List α) (x : α) : Option (List α) := if xs.length < sizeLine then some (xs ++ [x]) else none
def popO {α : Type} (xs : List α) : Option (α × List α) := match xs.getLast? with
  | some x => some (x, xs.dropLast)
  | none => none
def setO {α : Type} (xs : List α) (i : Int) (x : α) : Option (List α) := (ixN xs.length i).bind fun m => some (xs.set m x)
abbrev eL {α : Type} (e : α → PyData) : List α → PyData := fun xs => .list (xs.map e)
abbrev eT {α : Type} (e : α → PyData) : List α → PyData := fun xs => .tuple (xs.map e)
structure Tri (α β γ : Type) where
  a : α
  b : β
  c : γ
  deriving DecidableEq
abbrev eP3 {α β γ : Type} (e : α → PyData) (f : β → PyData) (g : γ → PyData) : Tri α β γ → PyData := fun x => .tuple [e x.a, f x.b, g x.c]
abbrev eO {α : Type} (e : α → PyData) : Option α → PyData := fun
  | none => .none
  | some a => e a
section
variable {X : Cx} {es es' : List Slot} {os os1 os2 : Os} {F0 : Hp} {rest : List Stmt} {D : Ends} {N V G W : List Str} {k i vi gi : Nat} {x : Str} {p pos : Pos} {e e2 a b : Expr} {φ : VP} {n : Ent} {α : Type}
theorem At.weak {σ : L2.St} {H : Hp} (h : At F0 es os σ H) (w : Wk es es') : At F0 es' os σ H := let ⟨F, s, o, l⟩ := h; ⟨F, s, o, l.weak w⟩
theorem At.perm {σ : L2.St} {H : Hp} (h : At F0 es os σ H) (w : os.Perm os1) : At F0 es os1 σ H := let ⟨F, s, o, l⟩ := h; ⟨F, s, o.perm w, l⟩
theorem At.drop {σ : L2.St} {H : Hp} {q : Addr × Ent} (h : At F0 es (q :: os) σ H) : At F0 es os σ H := let ⟨F, s, o, l⟩ := h; ⟨F, s, o.drop, l⟩
theorem EX.weak (h : EX X es' os e φ os1) (w : Wk es es') : EX X es os e φ os1 := fun F σ H Q ow sl q => h F σ H Q ow (sl.weak w) q
theorem EN.weak (h : EN X es' os e n os1) (w : Wk es es') : EN X es os e n os1 := fun F σ H Q ow sl q => h F σ H Q ow (sl.weak w) q
theorem EN.perm (h : EN X es os e n os1) (k : os1.Perm os2) : EN X es os e n os2 := fun F σ H Q ow sl q => h F σ H Q ow sl fun F' H' v e o => q F' H' v e (o.perm (k.cons _))
/-- an own list at the slot i is data from now on -/
theorem sx_frz {j : Nat} {q : Addr} {ds : List PyData} (hj : os[j]? = some (q, ol ds)) (hi : es[i]? = some (sl (own q))) (h : SX X (es.set i (sl (dat (.list ds)))) (os.eraseIdx j) F0 rest D) : SX X es os F0 rest D := fun F σ H s ow sl => by
  obtain ⟨u, hu, ⟨vs, rfl, hv⟩, e1, o1⟩ := (ow.perm (perm_at hj)).freezeU uni_ol
  have hv := dqall_mono e1 _ _ hv
  obtain ⟨v, ev, cv⟩ := sl.val hi
  obtain rfl : v = .ref q := cv.now
  have sl2 := (sl.mono e1).put (i := i) (v := .ref q) (φ := dat (.list ds)) (cl_dat (.lst upd_same hv))
  have e2 : σ.set i (some (.ref q)) = σ := by
    refine List.ext_getElem? fun m => ?_
    by_cases hm : i = m
    · subst hm
      rw [List.getElem?_set_self (List.getElem?_eq_some_iff.mp ev).1, ev]
    · rw [List.getElem?_set_ne hm]
  rw [e2] at sl2
  exact h _ σ H (s.trans e1) o1 sl2
theorem ix_rng1 {tg : Expr} {b : Int} {xs : List Int} (B : Bd X N W G k) (hj : G[gi]? = some "range") (hm : X.mg "range" = none) (hr : rngO 0 b = some xs) (ha : EX X es os e (dat (.int b)) os1) (hs : starEach [e] X.env = [(false, eval e X.env)] := by rfl) :
    IX X tg es os (.Call (.Name "range" p) [e] [] pos) xs (fun x => dat (.int x)) anyOs os1 := by
  unfold rngO at hr
  split at hr
  · rename_i h
    cases hr
    exact ix_range1 B hj hm h.2.2 ha hs
  · cases hr
theorem ix_rng2 {tg : Expr} {a b : Int} {xs : List Int} (B : Bd X N W G k) (hj : G[gi]? = some "range") (hm : X.mg "range" = none) (hr : rngO a b = some xs) (ha : EX X es os e (dat (.int a)) os1) (hb : EX X es os1 e2 (dat (.int b)) os2)
    (hs : starEach [e, e2] X.env = [(false, eval e X.env), (false, eval e2 X.env)] := by rfl) (hs2 : starEach [e2] X.env = [(false, eval e2 X.env)] := by rfl) :
    IX X tg es os (.Call (.Name "range" p) [e, e2] [] pos) xs (fun x => dat (.int x)) anyOs os2 := by
  unfold rngO at hr
  split at hr
  · rename_i h
    cases hr
    exact ix_range2 B hj hm h ha hb hs hs2
  · cases hr
/-- xs.append(e) of an own list -/
theorem ex_app {β : Type} {apos cpos : Pos} {q : Addr} {enc : β → PyData} {xs xs0 ys : List β} {y : β} {j : Nat} (ha : appO xs y = some ys) (ho : EX X es os a (own q) os) (h0 : os[j]? = some (q, ol (xs0.map enc))) (he : EX X es os e (dat (enc y)) os1) (hj : os1[j]? = some (q, ol (xs.map enc)))
    (hbase : attributeBase a "append" X.env (eval a X.env) = eval a X.env := by rfl) (hline : (apos.endLine == cpos.line) = true := by rfl) (hs : starEach [e] X.env = (false, eval e X.env) :: starEach [] X.env := by rfl)
    (hfew : ((backTo cpos (starEach [e] X.env)).all (fun x => !x.1) && (backToKw cpos (keywordEach [] X.env)).all (fun x => x.1.isSome) && decide ([e].length + ([] : List Keyword).length + (if ([] : List Keyword).isEmpty then 0 else 1) < 30)) = true := by rfl)
    (hplain : (backTo cpos (starEach [] X.env)).any (·.1) = false := by rfl) : EX X es os (.Call (.Attribute a "append" apos) [e] [] cpos) (dat .none) (os1.set j (q, ol (ys.map enc))) := by
  unfold appO at ha
  split at ha
  · rename_i h
    cases ha
    rw [List.map_append]
    exact ex_append ho he h0 hj (by rw [List.length_map]; exact h) hbase hline hs hfew hplain
  · cases ha
theorem ex_popO {β : Type} {apos cpos : Pos} {q : Addr} {enc : β → PyData} {xs : List β} {r : β × List β} {j : Nat} (hr : popO xs = some r) (ho : EX X es os a (own q) os) (hj : os[j]? = some (q, ol (xs.map enc)))
    (hbase : attributeBase a "pop" X.env (eval a X.env) = eval a X.env := by rfl) (hline : (apos.endLine == cpos.line) = true := by rfl) : EX X es os (.Call (.Attribute a "pop" apos) [] [] cpos) (dat (enc r.1)) (os.set j (q, ol (r.2.map enc))) := by
  unfold popO at hr
  split at hr
  · rename_i z hz
    cases hr
    have e : (xs.map enc).getLast? = some (enc z) := by rw [List.getLast?_map, hz]; rfl
    have h := ex_pop ho hj e hbase hline
    rw [← List.map_dropLast] at h
    exact h
  · cases hr
theorem sx_setO {β : Type} {tpos : Pos} {q : Addr} {enc : β → PyData} {xs ys : List β} {y : β} {j : Nat} {z : Int} (hy : setO xs z y = some ys) (he : EX X es os e (dat (enc y)) os1) (ho : EX X es os1 a (own q) os1) (hb : EX X es os1 b (dat (.int z)) os2) (hj : os2[j]? = some (q, ol (xs.map enc))) (h : SX X es (os2.set j (q, ol (ys.map enc))) F0 rest D)
    (hs : swapsWithSole [.Subscript a b tpos] e pos.line X.env = pure false := by rfl) (hw : swappedStores [.Subscript a b tpos] e X.env = pure none := by rfl) (h1 : (assignEach [.Subscript a b tpos] X.env).map (·.2) = [assign (.Subscript a b tpos) X.env] := by rfl)
    (hsub : ∀ v, assign (.Subscript a b tpos) X.env v = (do
      let ov ← holding [v] (eval a X.env)
      let iv ← holding [v, ov] (eval b X.env)
      standAt tpos
      holding [v, ov, iv] (setItem ov iv v)
      release [v, ov, iv] []) := by intro _; rfl) : SX X es os F0 (.Assign [.Subscript a b tpos] e pos :: rest) D := by
  obtain ⟨m, hm, h2⟩ := bnd hy
  cases h2
  rw [List.map_set] at h
  exact sx_setL he ho hb hj (by rw [List.length_map]; exact hm) h hs hw h1 hsub
theorem ex_idxL {β : Type} {enc : β → PyData} {xs : List β} {y : β} {z : Int} (hk : idx xs z = some y) (hr : RdL X φ os2 (xs.map enc)) (ha : EX X es os a φ os1) (hb : EX X es os1 b (dat (.int z)) os2) (hp : PlainIx b := by exact fun _ _ => rfl) : EX X es os (.Subscript a b pos) (dat (enc y)) os2 := ex_ixL hr (atI_map enc hk) ha hb hp
theorem ex_idxT {β : Type} {enc : β → PyData} {xs : List β} {y : β} {z : Int} (hk : idx xs z = some y) (hr : RdT φ (xs.map enc)) (ha : EX X es os a φ os1) (hb : EX X es os1 b (dat (.int z)) os2) (hp : PlainIx b := by exact fun _ _ => rfl) : EX X es os (.Subscript a b pos) (dat (enc y)) os2 := ex_ixT hr (atI_map enc hk) ha hb hp
/-- a literal list or tuple of one kind is a map -/
theorem EN.list {ds ds' : List PyData} (h : EN X es os e (ol ds) os1) (k : ds = ds') : EN X es os e (ol ds') os1 := k ▸ h
theorem EX.to {d d' : PyData} (h : EX X es os e (dat d) os1) (k : d = d') : EX X es os e (dat d') os1 := k ▸ h
theorem TX.to {t t' : Bool} (h : TX X es os e t os1) (k : t = t') : TX X es os e t' os1 := k ▸ h
end
/-- two lists of data are equal exactly if they are alike -/
def EqvOk {α : Type} [DecidableEq α] (e : α → PyData) : Prop := ∀ a b, PyData.eqv (e a) (e b) = decide (a = b)
theorem eqv_int : EqvOk PyData.int := fun a b => by
  simp only [PyData.eqv]
  exact Bool.beq_eq_decide_eq a b
theorem eqvAll_map {α : Type} [DecidableEq α] {e : α → PyData} (h : EqvOk e) : ∀ xs ys : List α, PyData.eqvAll (xs.map e) (ys.map e) = decide (xs = ys)
  | [], [] => by simp [PyData.eqvAll]
  | [], y :: ys => by simp [PyData.eqvAll]
  | x :: xs, [] => by simp [PyData.eqvAll]
  | x :: xs, y :: ys => by
    simp only [List.map_cons, PyData.eqvAll, h x y, eqvAll_map h xs ys, List.cons.injEq, Bool.decide_and]
theorem eqv_list {α : Type} [DecidableEq α] {e : α → PyData} (h : EqvOk e) : EqvOk (eL e) := fun a b => by
  simp only [PyData.eqv]
  exact eqvAll_map h a b
theorem eqv_tup {α : Type} [DecidableEq α] {e : α → PyData} (h : EqvOk e) : EqvOk (eT e) := fun a b => by
  simp only [PyData.eqv]
  exact eqvAll_map h a b
theorem eqv_tri {α β γ : Type} [DecidableEq α] [DecidableEq β] [DecidableEq γ] {e : α → PyData} {f : β → PyData} {g : γ → PyData} (h : EqvOk e) (h2 : EqvOk f) (h3 : EqvOk g) : EqvOk (eP3 e f g) := fun a b => by
  simp only [PyData.eqv, PyData.eqvAll, Bool.and_true]
  rw [h, h2, h3, ← Bool.decide_and, ← Bool.decide_and]
  refine decide_eq_decide.mpr ⟨fun ⟨p, q, r⟩ => ?_, fun p => by rw [p]; exact ⟨rfl, rfl, rfl⟩⟩
  cases a
  cases b
  simp only at p q r
  rw [p, q, r]
/-- data of bounded depth without dicts -/
structure ShOk {α : Type} (e : α → PyData) (n : Nat) : Prop where
  lay : ∀ a, (e a).canLay0 = true
  dep : ∀ a, (e a).depth ≤ n
theorem ShOk.shaped {α : Type} {e : α → PyData} {n : Nat} (h : ShOk e n) (hn : n ≤ 64) (a : α) : SeqAt.shaped (e a) = true := by
  unfold SeqAt.shaped
  rw [h.lay a, Bool.true_and]
  exact decide_eq_true (Nat.le_trans (h.dep a) hn)
theorem sh_int : ShOk PyData.int 0 := ⟨fun _ => by simp only [PyData.canLay0], fun _ => by simp only [PyData.depth]; exact Nat.le_refl 0⟩
theorem layAll_map {α : Type} {e : α → PyData} {n : Nat} (h : ShOk e n) : ∀ xs : List α, PyData.canLayAll0 (xs.map e) = true ∧ PyData.depthAll (xs.map e) ≤ n
  | [] => by
    simp only [List.map_nil, PyData.canLayAll0, PyData.depthAll]
    exact ⟨trivial, Nat.zero_le _⟩
  | x :: xs => by
    obtain ⟨a, b⟩ := layAll_map h xs
    simp only [List.map_cons, PyData.canLayAll0, PyData.depthAll, h.lay x, a]
    exact ⟨rfl, Nat.max_le.mpr ⟨h.dep x, b⟩⟩
theorem sh_list {α : Type} {e : α → PyData} {n : Nat} (h : ShOk e n) : ShOk (eL e) (n + 1) :=
  ⟨fun xs => by simp only [PyData.canLay0]; exact (layAll_map h xs).1, fun xs => by simp only [PyData.depth]; exact Nat.succ_le_succ (layAll_map h xs).2⟩
theorem sh_tup {α : Type} {e : α → PyData} {n : Nat} (h : ShOk e n) : ShOk (eT e) (n + 1) :=
  ⟨fun xs => by simp only [PyData.canLay0]; exact (layAll_map h xs).1, fun xs => by simp only [PyData.depth]; exact Nat.succ_le_succ (layAll_map h xs).2⟩
theorem sh_tri {α β γ : Type} {e : α → PyData} {f : β → PyData} {g : γ → PyData} {n m k : Nat} (h : ShOk e n) (h2 : ShOk f m) (h3 : ShOk g k) : ShOk (eP3 e f g) (max n (max m k) + 1) :=
  ⟨fun x => by simp only [PyData.canLay0, PyData.canLayAll0, h.lay, h2.lay, h3.lay]; rfl, fun x => by
    simp only [PyData.depth, PyData.depthAll]
    have q1 := h.dep x.a
    have q2 := h2.dep x.b
    have q3 := h3.dep x.c
    omega⟩
end Z
namespace Z
open PySem PySem.Spec PyProof.Rows L2
section
variable {X : Cx} {es es' : List Slot} {os os1 os2 : Os} {F0 : Hp} {rest : List Stmt} {D : Ends} {N V G W : List Str} {k i j l vi gi : Nat} {x y z : Str} {p pos : Pos} {e e2 a b c : Expr} {φ : VP} {n : Ent} {α : Type}
def AQ (X : Cx) (es : List Slot) (as : List Expr) (os : Os) (Rel : List VP → Os → Prop) : Prop := ∀ F σ H Q, Ow F os H → Sl F es σ → (∀ F' H' vs φs os', Same F F' → Rel φs os' → Ow F' os' H' → ClA φs F' vs → Q vs H') → WA X as σ H Q
theorem aq_nil : AQ X es [] os (fun φs os' => φs = [] ∧ os' = os) := fun F σ H Q ow sl q => wa_of pa_nil (q F H [] [] os (Same.refl F) ⟨rfl, rfl⟩ ow rfl)
theorem aq_x {as : List Expr} {Rel : List VP → Os → Prop} (ha : EX X es os a φ os1) (hr : AQ X es as os1 Rel) (hs : starEach (a :: as) X.env = (false, eval a X.env) :: starEach as X.env := by rfl) : AQ X es (a :: as) os (fun φs os' => ∃ r, φs = φ :: r ∧ Rel r os') := fun F σ H Q ow sl q =>
  wa_of (pa_cons pe_u pa_u hs) (ha F σ H _ ow sl fun F1 H1 v e1 o1 c1 => hr F1 σ H1 _ o1 (sl.mono e1) fun F2 H2 vs φs os' e2 rel o2 c2 => q F2 H2 _ _ os' (e1.trans e2) ⟨φs, rfl, rel⟩ o2 ⟨v, vs, rfl, c1.mono e2, c2⟩)
theorem aq_n {as : List Expr} {Rel : Addr → List VP → Os → Prop} (ha : EN X es os a n os1) (hr : ∀ p, AQ X es as ((p, n) :: os1) (Rel p)) (hs : starEach (a :: as) X.env = (false, eval a X.env) :: starEach as X.env := by rfl) : AQ X es (a :: as) os (fun φs os' => ∃ p r, φs = own p :: r ∧ Rel p r os') := fun F σ H Q ow sl q =>
  wa_of (pa_cons pe_u pa_u hs) (ha F σ H _ ow sl fun F1 H1 p e1 o1 => hr p F1 σ H1 _ o1 (sl.mono e1) fun F2 H2 vs φs os' e2 rel o2 c2 => q F2 H2 _ _ os' (e1.trans e2) ⟨p, φs, rfl, rel⟩ o2 ⟨_, vs, rfl, cl_own, c2⟩)
/-- the names are stored from the right -/
def swpB (sc : Scope) (ts : List Expr) (v : Expr) (xs : List Str) : Prop := ∀ env : Env, env.scope = sc → swappedStores ts v env = pure (some xs)
def nswB (sc : Scope) (ts : List Expr) (v : Expr) : Prop := ∀ env : Env, env.scope = sc → swappedStores ts v env = pure none
def lclB (sc : Scope) (x : Str) : Bool := match sc.names.lookup x with
  | some .local => true
  | _ => false
theorem lcl_of {sc : Scope} {x : Str} (h : lclB sc x = true) : sc.names.lookup x = some .local := by
  unfold lclB at h
  split at h
  · assumption
  · cases h
theorem sx_par2 {px py pt p2 : Pos} {kt k2 : Nat} {Rel : List VP → Os → Prop} (sc : Scope) (hsc : X.env.scope = sc) (B : Bd X N W G k) (hi : N[i]? = some x) (hj : N[j]? = some y) (hij : i ≠ j) (hx : lclB sc x = true) (hy : lclB sc y = true) (hw : swpB sc [.Tuple [.Name x px, .Name y py] kt pt] (.Tuple [a, b] k2 p2) [x, y])
    (ha : AQ X es [a, b] os Rel) (h : ∀ φ ψ os', Rel [φ, ψ] os' → SX X ((es.set i (sl φ)).set j (sl ψ)) os' F0 rest D) (hR : ∀ φs os', Rel φs os' → ∃ φ ψ, φs = [φ, ψ])
    (hs : swapsWithSole [.Tuple [.Name x px, .Name y py] kt pt] (.Tuple [a, b] k2 p2) pos.line X.env = pure false := by rfl) : SX X es os F0 (.Assign [.Tuple [.Name x px, .Name y py] kt pt] (.Tuple [a, b] k2 p2) pos :: rest) D := fun F σ H s ow sl =>
  wps_cons (ws_of (ps_par B.calm (B.hN ▸ B.nd) (B.hN ▸ hi) (B.hN ▸ hj) hij (by rw [hsc]; exact lcl_of hx) (by rw [hsc]; exact lcl_of hy) pa_u (hw _ hsc) hs) (ha F σ H _ ow sl fun F1 H1 vs φs os' e1 rel o1 c1 => by
    obtain ⟨φ, ψ, rfl⟩ := hR φs os' rel
    obtain ⟨v, u, rfl, h1, h2⟩ := cla2 c1
    exact ⟨v, u, rfl, h φ ψ os' rel F1 _ H1 (s.trans e1) o1 (((sl.mono e1).put h1).put h2)⟩))
theorem cla3 {φ ψ χ : VP} {F : Hp} {vs : List L2.V} (h : ClA [φ, ψ, χ] F vs) : ∃ v u w, vs = [v, u, w] ∧ Cl φ F v ∧ Cl ψ F u ∧ Cl χ F w := by
  obtain ⟨v, r, e, h1, h2⟩ := h
  obtain ⟨u, w, e2, h3, h4⟩ := cla2 h2
  subst e2
  exact ⟨v, u, w, e, h1, h3, h4⟩
theorem sx_par3 {px py pz pt p2 : Pos} {kt k2 : Nat} {Rel : List VP → Os → Prop} (sc : Scope) (hsc : X.env.scope = sc) (B : Bd X N W G k) (hi : N[i]? = some x) (hj : N[j]? = some y) (hl : N[l]? = some z) (hij : i ≠ j) (hil : i ≠ l) (hjl : j ≠ l) (hx : lclB sc x = true) (hy : lclB sc y = true) (hz : lclB sc z = true)
    (hw : swpB sc [.Tuple [.Name x px, .Name y py, .Name z pz] kt pt] (.Tuple [a, b, c] k2 p2) [x, y, z])
    (ha : AQ X es [a, b, c] os Rel) (h : ∀ φ ψ χ os', Rel [φ, ψ, χ] os' → SX X (((es.set i (sl φ)).set j (sl ψ)).set l (sl χ)) os' F0 rest D) (hR : ∀ φs os', Rel φs os' → ∃ φ ψ χ, φs = [φ, ψ, χ])
    (hs : swapsWithSole [.Tuple [.Name x px, .Name y py, .Name z pz] kt pt] (.Tuple [a, b, c] k2 p2) pos.line X.env = pure false := by rfl) : SX X es os F0 (.Assign [.Tuple [.Name x px, .Name y py, .Name z pz] kt pt] (.Tuple [a, b, c] k2 p2) pos :: rest) D := fun F σ H s ow sl =>
  wps_cons (ws_of (ps_par3 B.calm (B.hN ▸ B.nd) (B.hN ▸ hi) (B.hN ▸ hj) (B.hN ▸ hl) hij hil hjl (by rw [hsc]; exact lcl_of hx) (by rw [hsc]; exact lcl_of hy) (by rw [hsc]; exact lcl_of hz) pa_u (hw _ hsc) hs) (ha F σ H _ ow sl fun F1 H1 vs φs os' e1 rel o1 c1 => by
    obtain ⟨φ, ψ, χ, rfl⟩ := hR φs os' rel
    obtain ⟨v, u, w, rfl, h1, h2, h3⟩ := cla3 c1
    exact ⟨v, u, w, rfl, h φ ψ χ os' rel F1 _ H1 (s.trans e1) o1 ((((sl.mono e1).put h1).put h2).put h3)⟩))
theorem sx_mk3 {m : Nat} {t1 t2 t3 pt p2 : Pos} {kt k2 : Nat} {Rel : List VP → Os → Prop} (sc : Scope) (hsc : X.env.scope = sc) (B : Bd X N W G k) (T : Bt X V) (hi : N[i]? = some x) (hj : N[j]? = some y) (hl : N[l]? = some z) (hx : V[vi]? = some x) (hy : V[gi]? = some y) (hz : V[m]? = some z) (hw : nswB sc [.Tuple [.Name x t1, .Name y t2, .Name z t3] kt pt] (.Tuple [a, b, c] k2 p2))
    (ha : AQ X es [a, b, c] os Rel) (h : ∀ φ ψ χ os', Rel [φ, ψ, χ] os' → SX X (((es.set i (sl φ)).set j (sl ψ)).set l (sl χ)) os' F0 rest D) (hR : ∀ φs os', Rel φs os' → ∃ φ ψ χ, φs = [φ, ψ, χ])
    (hs : swapsWithSole [.Tuple [.Name x t1, .Name y t2, .Name z t3] kt pt] (.Tuple [a, b, c] k2 p2) pos.line X.env = pure false := by rfl) (h1 : (assignEach [.Tuple [.Name x t1, .Name y t2, .Name z t3] kt pt] X.env).map (·.2) = [assign (.Tuple [.Name x t1, .Name y t2, .Name z t3] kt pt) X.env] := by rfl) :
    SX X es os F0 (.Assign [.Tuple [.Name x t1, .Name y t2, .Name z t3] kt pt] (.Tuple [a, b, c] k2 p2) pos :: rest) D := fun F σ H s ow sl =>
  wps_cons (ws_of (ps_asg (pe_tup pa_u) (pg_tup (n := 3) B.calm (pgs_cons (pg_name (B.hN ▸ B.nd) (B.hN ▸ hi) (T.loc x (List.mem_of_getElem? hx)) (.inl (T.fn x))) (pgs_cons (pg_name (B.hN ▸ B.nd) (B.hN ▸ hj) (T.loc y (List.mem_of_getElem? hy)) (.inl (T.fn y))) (pgs_cons (pg_name (B.hN ▸ B.nd) (B.hN ▸ hl) (T.loc z (List.mem_of_getElem? hz)) (.inl (T.fn z))) pgs_nil))) rfl rfl) hs (hw _ hsc) h1) (ha F σ H _ ow sl fun F1 H1 vs φs os' e1 rel o1 c1 => by
    obtain ⟨φ, ψ, χ, rfl⟩ := hR φs os' rel
    obtain ⟨v, u, w, rfl, h1, h2, h3⟩ := cla3 c1
    refine ⟨by show 3 ≤ sizeLine; decide, fun p hp => ?_⟩
    refine ⟨p, _, rfl, .of upd_same, rfl, _, _, rfl, _, _, rfl, _, _, rfl, rfl, ?_⟩
    exact h φ ψ χ os' rel F1 _ _ (s.trans e1) (o1.grow (same_upd hp)) ((((sl.mono e1).put h1).put h2).put h3)))
theorem ex_tyname {T : String} (B : Bd X N W G k) (hj : G[gi]? = some x) (hm : X.mg x = none) (hv : bootBuiltins x = some (.type T)) : EX X es os (.Name x pos) (fun _ v => v = .ty T) os := fun F σ H Q ow sl q =>
  let ⟨u, v⟩ := B.gl x (List.mem_of_getElem? hj)
  we_of (pe_bltn (v := .ty T) u hm hv rfl (dun_n v) (dun_d v)) (q F H _ (Same.refl F) ow fun _ _ => rfl)
def tyName : PyData → String
  | .none => "NoneType"
  | .bool _ => "bool"
  | .int _ => "int"
  | .str _ => "str"
  | .list _ => "list"
  | .tuple _ => "tuple"
  | .dict _ => "dict"
theorem rc_isi {d : PyData} {T : String} {r : Bool} (h : kitB (tyName d) T = some r) (hT : ∀ ps, d ≠ .dict ((.none, .none) :: ps) := by intro _ z; first | cases z | assumption) : RCX (rIsi X.K) [dat d, fun _ v => v = .ty T] os (dat (.bool r)) os := fun F H vs Q ow c q => by
  obtain ⟨v, u, rfl, h1, h2⟩ := cla2 c
  obtain rfl : u = .ty T := h2.now
  have fin := q F H _ (Same.refl F) ow (cl_dat (.bl r))
  have hd := h1.now
  have key : ∀ t : String, tyName d = t → TyX X.K H v (.type t) → rIsi X.K [v, .ty T] H Q := fun t e k => ⟨v, _, _, _, r, rfl, .ty T, k, kit_ty (e ▸ h), fin⟩
  cases hd with
  | non => exact key _ rfl (.base .non)
  | bl b => exact key _ rfl (.base (.bl b))
  | int i => exact key _ rfl (.base (.int i))
  | str x => exact key _ rfl (.base (.str x))
  | lst k1 k2 => exact key _ rfl (.base (.lst (ow.ex _ _ k1)))
  | tup k1 k2 => exact key _ rfl (.base (.tup (ow.ex _ _ k1)))
  | dctK k1 k2 k3 => exact key _ rfl (.fDict (ow.ex _ _ k1))
  | dctT k1 k2 k3 => exact (hT _ rfl).elim
def catO {α : Type} (xs ys : List α) : Option (List α) := if xs.length + ys.length ≤ sizeLine then some (xs ++ ys) else none
theorem dqall_rev {F : Hp} : ∀ {ds : List PyData} {vs : List L2.V}, DqAll F vs ds → DqAll F vs.reverse ds.reverse
  | [], _, h => by
    cases h
    exact .nil
  | d :: ds, _, h => by
    cases h with
    | cons h1 h2 =>
      rw [List.reverse_cons, List.reverse_cons]
      exact dqall_app (dqall_rev h2) (.cons h1 .nil)
theorem dat_list {F H : Hp} {v : L2.V} {ds : List PyData} (ow : Ow F os H) (c : Cl (dat (.list ds)) F v) : ∃ p vs, v = .ref p ∧ H p = some (.lst vs) ∧ DqAll F vs ds := by
  have h := c.now
  cases h with
  | lst h1 h2 => exact ⟨_, _, rfl, ow.ex _ _ h1, h2⟩
theorem en_cat {α : Type} {enc : α → PyData} {xs ys zs : List α} (h : catO xs ys = some zs) (ha : EX X es os a (dat (.list (xs.map enc))) os1) (hb : EX X es os1 b (dat (.list (ys.map enc))) os2) : EN X es os (.BinOp a .Add b pos) (ol (zs.map enc)) os2 := fun F σ H Q ow sl q => by
  unfold catO at h
  split at h
  · rename_i hl
    cases h
    refine we_of (pe_op op_cat pe_u pe_u) (ha F σ H _ ow sl fun F1 H1 v e1 o1 c1 => hb F1 σ H1 _ o1 (sl.mono e1) fun F2 H2 u e2 o2 c2 => ?_)
    obtain ⟨p, vs, rfl, h1, h2⟩ := dat_list o2 (c1.mono e2)
    obtain ⟨r, us, rfl, h3, h4⟩ := dat_list o2 c2
    refine ⟨p, r, vs, us, rfl, rfl, h1, h3, by rw [dqall_len h2, dqall_len h4, List.length_map, List.length_map]; exact hl, fun m hm => ?_⟩
    refine q F2 _ m (e1.trans e2) (o2.new hm fun G g => ⟨_, rfl, ?_⟩)
    rw [List.map_append]
    exact dqall_mono g _ _ (dqall_app h2 h4)
  · cases h
theorem ex_catT {α : Type} {enc : α → PyData} {xs ys zs : List α} (h : catO xs ys = some zs) (ha : EX X es os a (dat (.tuple (xs.map enc))) os1) (hb : EX X es os1 b (dat (.tuple (ys.map enc))) os2) : EX X es os (.BinOp a .Add b pos) (dat (.tuple (zs.map enc))) os2 := fun F σ H Q ow sl q => by
  unfold catO at h
  split at h
  · rename_i hl
    cases h
    refine we_of (pe_op op_catA pe_u pe_u) (ha F σ H _ ow sl fun F1 H1 v e1 o1 c1 => hb F1 σ H1 _ o1 (sl.mono e1) fun F2 H2 u e2 o2 c2 => ?_)
    obtain ⟨p, vs, rfl, h1, h2⟩ := rdt_dat F2 v (c1.mono e2)
    obtain ⟨r, us, rfl, h3, h4⟩ := rdt_dat F2 u c2
    have e := e1.trans e2
    have hd := dqall_app h2 h4
    rw [← List.map_append] at hd
    refine ⟨p, r, vs, us, rfl, rfl, .of (o2.ex _ _ h1), .of (o2.ex _ _ h3), by rw [dqall_len h2, dqall_len h4, List.length_map, List.length_map]; exact hl, fun h0 => ?_, fun h0 h5 => ?_, fun h0 h5 m hm => ?_⟩
    · refine q F2 H2 _ e o2 (cl_dat (.tup h3 ?_))
      rw [h0, List.nil_append] at hd
      exact hd
    · refine q F2 H2 _ e o2 (cl_dat (.tup h1 ?_))
      rw [h5, List.append_nil] at hd
      exact hd
    · have fp := o2.ex.free hm
      exact q _ _ _ (e.trans (same_upd fp)) (o2.frozen hm) (cl_dat (.tup upd_same (dqall_mono (same_upd fp) _ _ hd)))
  · cases h
/-- xs[lo:hi] -/
def cut {α : Type} (xs : List α) (lo hi : Option Int) : List α := (xs.drop (HT.sIx xs.length 0 lo)).take (HT.sIx xs.length xs.length hi - HT.sIx xs.length 0 lo)
theorem dqall_cut {F : Hp} {ds : List PyData} {vs : List L2.V} (h : DqAll F vs ds) (lo hi : Option Int) : DqAll F (cutV vs lo hi) (cut ds lo hi) := by
  unfold cutV cut
  rw [dqall_len h]
  exact dqall_take _ (dqall_drop _ h)
theorem cut_map {α β : Type} (f : α → β) (xs : List α) (lo hi : Option Int) : cut (xs.map f) lo hi = (cut xs lo hi).map f := by
  unfold cut
  rw [List.length_map, List.map_take, List.map_drop]
def WO (X : Cx) : Option Expr → TO
  | none => tNoPart
  | some e => tPart (WE X e)
theorem po_u : ∀ e : Option Expr, PO X e (WO X e)
  | none => po_none
  | some e => po_some pe_u
/-- an end of a slice -/
def PX (X : Cx) (es : List Slot) (os : Os) (e : Option Expr) (o : Option Int) (os' : Os) : Prop := ∀ F σ H Q, Ow F os H → Sl F es σ → (∀ F' H', Same F F' → Ow F' os' H' → Q o H') → WO X e σ H Q
theorem px_none : PX X es os none none os := fun F σ H Q ow sl q => q F H (Same.refl F) ow
theorem px_some {i : Int} (h : EX X es os e (dat (.int i)) os1) : PX X es os (some e) (some i) os1 := fun F σ H Q ow sl q => h F σ H _ ow sl fun F1 H1 v e1 o1 c1 => ⟨i, clv_int c1, q F1 H1 e1 o1⟩
theorem en_cut {α : Type} {enc : α → PyData} {xs : List α} {lo hi : Option Expr} {l u : Option Int} {os3 : Os} {p2 : Pos} (hr : RdL X φ os3 (xs.map enc)) (ha : EX X es os a φ os1) (hl : PX X es os1 lo l os2) (hu : PX X es os2 hi u os3) : EN X es os (.Subscript a (.Slice lo hi none p2) pos) (ol ((cut xs l u).map enc)) os3 := fun F σ H Q ow sl q =>
  we_of (pe_slice sl_list pe_u (po_u lo) (po_u hi)) (ha F σ H _ ow sl fun F1 H1 v e1 o1 c1 => hl F1 σ H1 _ o1 (sl.mono e1) fun F2 H2 e2 o2 => hu F2 σ H2 _ o2 (sl.mono (e1.trans e2)) fun F3 H3 e3 o3 => by
    obtain ⟨p, vs, rfl, h1, h2⟩ := hr F3 H3 v o3 ((c1.mono e2).mono e3)
    refine ⟨p, vs, rfl, h1, fun m hm => q F3 _ m ((e1.trans e2).trans e3) (o3.new hm fun G g => ⟨_, rfl, ?_⟩)⟩
    rw [← cut_map]
    exact dqall_mono g _ _ (dqall_cut h2 l u))
def lcT {α β : Type} (f : α → β) (xs : List α) : Option (List β) := if xs.length < sizeLine then some (xs.map f) else none
def lcF {α β : Type} (c : α → Bool) (f : α → β) (xs : List α) : Option (List β) := if xs.length < sizeLine then some ((xs.filter c).map f) else none
def mapO {α β : Type} (f : α → Option β) : List α → Option (List β)
  | [] => some []
  | x :: xs => (f x).bind fun y => (mapO f xs).bind fun ys => some (y :: ys)
def lcO {α β : Type} (f : α → Option β) (xs : List α) : Option (List β) := if xs.length < sizeLine then mapO f xs else none
theorem lcS_map {α β : Type} (f : α → β) : ∀ xs : List α, lcS (fun (_ : Unit) x => some (some (f x), ())) xs () = some (xs.map f, ())
  | [] => rfl
  | x :: xs => by
    unfold lcS
    show ((lcS _ xs ()).bind fun u => some ([f x] ++ u.1, u.2)) = _
    rw [lcS_map f xs]
    rfl
theorem lcS_filter {α β : Type} (c : α → Bool) (f : α → β) : ∀ xs : List α, lcS (fun (_ : Unit) x => some (if c x = true then some (f x) else none, ())) xs () = some ((xs.filter c).map f, ())
  | [] => rfl
  | x :: xs => by
    unfold lcS
    show ((lcS _ xs ()).bind fun u => some ((if c x = true then some (f x) else none).toList ++ u.1, u.2)) = _
    rw [lcS_filter c f xs]
    cases h : c x with
    | true =>
      rw [if_pos rfl, List.filter_cons, if_pos h]
      rfl
    | false =>
      rw [if_neg Bool.false_ne_true, List.filter_cons, if_neg (by rw [h]; exact Bool.false_ne_true)]
      rfl
theorem lcS_mapO {α β : Type} (f : α → Option β) : ∀ (xs : List α) (ys : List β), mapO f xs = some ys → lcS (fun (_ : Unit) x => (f x).map fun y => (some y, ())) xs () = some (ys, ())
  | [], ys, h => by
    cases h
    rfl
  | x :: xs, ys, h => by
    unfold mapO at h
    obtain ⟨y, hy, h⟩ := bnd h
    obtain ⟨zs, hz, h⟩ := bnd h
    cases h
    unfold lcS
    rw [hy]
    show ((lcS _ xs ()).bind fun u => some ([y] ++ u.1, u.2)) = _
    rw [lcS_mapO f xs zs hz]
    rfl
theorem lcT_ok {α β : Type} {f : α → β} {xs : List α} {ys : List β} (h : lcT f xs = some ys) : xs.length < sizeLine ∧ lcS (fun (_ : Unit) x => some (some (f x), ())) xs () = some (ys, ()) := by
  unfold lcT at h
  split at h
  · rename_i hl
    cases h
    exact ⟨hl, lcS_map f xs⟩
  · cases h
theorem lcF_ok {α β : Type} {c : α → Bool} {f : α → β} {xs : List α} {ys : List β} (h : lcF c f xs = some ys) : xs.length < sizeLine ∧ lcS (fun (_ : Unit) x => some (if c x = true then some (f x) else none, ())) xs () = some (ys, ()) := by
  unfold lcF at h
  split at h
  · rename_i hl
    cases h
    exact ⟨hl, lcS_filter c f xs⟩
  · cases h
theorem lcO_ok {α β : Type} {f : α → Option β} {xs : List α} {ys : List β} (h : lcO f xs = some ys) : xs.length < sizeLine ∧ lcS (fun (_ : Unit) x => (f x).map fun y => (some y, ())) xs () = some (ys, ()) := by
  unfold lcO at h
  split at h
  · rename_i hl
    exact ⟨hl, lcS_mapO f xs ys h⟩
  · cases h
end
end Z
namespace Z
open PySem PySem.Spec PyProof.Rows L2
abbrev maxI (i j : Int) : Int := if j > i then j else i
abbrev minI (i j : Int) : Int := if j < i then j else i
theorem fdivO_lit {i j : Int} (h : 0 < j) (h2 : j.natAbs.log2 < 9000) : fdivO i j = some (i / j) := if_pos ⟨h, h2⟩
theorem modO_lit {i j : Int} (h : 0 < j) : modO i j = some (i % j) := if_pos h
theorem and_fix {k l : Bool} (h : k = false → l = false) : (k && l) = l := by
  cases k with
  | true => rfl
  | false => rw [h rfl]; rfl
theorem or_fix {k l : Bool} (h : k = true → l = true) : (k || l) = l := by
  cases k with
  | false => rfl
  | true => rw [h rfl]; rfl
section
variable {X X' : Cx} {es es' : List Slot} {os os1 os2 : Os} {F0 : Hp} {rest : List Stmt} {st : Stmt} {D : Ends} {N V G W : List Str} {k i j l vi gi gj : Nat} {x y z : Str} {p pos : Pos} {e e2 a b c : Expr} {φ ψ : VP} {n : Ent} {α β : Type} {scope : Scope}
theorem sx_join (es' : List Slot) (os' : Os) (h : SX X es' os' F0 rest D) (kk : SX X es' os' F0 rest D → SX X es os F0 (st :: rest) D) : SX X es os F0 (st :: rest) D := kk h
theorem sx_retO {q : Addr} (he : EX X es os e (own q) os1) (h : ∀ F H, Same F0 F → Ow F os1 H → D.rt (.ref q) H) : SX X es os F0 (.Return (some e) pos :: rest) D := sx_ret he fun F H v e o c => by
  obtain rfl : v = .ref q := c.now
  exact h F H e o
theorem sx_end (h : ∀ F σ H, Same F0 F → Ow F os H → D.nx σ H) : SX X es os F0 [] D := sx_nil fun σ H a => let ⟨F, s, o, _⟩ := a; h F σ H s o
theorem fam_mg {f : Str} {v : Option Value} (h : Fam X scope X') (e : X.mg f = v) : X'.mg f = v := by
  obtain ⟨_, _, _, _, _, rfl⟩ := h
  exact e
theorem fam_cal {f : Str} {s : Stmt} {ps : List Str} {sp : PySem.W.Frag → Sp} {m : Nat} (h : Fam X scope X') (c : Cal X.prog X.w X.K X.mg X.base m f s ps (sp X.K)) : Cal X'.prog X'.w X'.K X'.mg X'.base m f s ps (sp X'.K) := by
  obtain ⟨_, _, _, _, _, rfl⟩ := h
  exact c
/-- a stored comprehension -/
theorem sw_ok {elt : Expr} {gs : List Comprehension} {l : Nat} {py : Pos} {env : Env} (hk : (match env.scope.kind with | .function => true | _ => false) = true) (hy : env.scope.names.lookup y = some .local) (hl : (py.line == pos.line) = true)
    (ha : (scope.names.any fun q => q.1 == y && (q.2 == .local || q.2 == .cell)) = false) : swapsWith (.ListComp elt gs scope pos) (some (.Name y py)) l env = pure true := by
  refine sw_true ?_ hy hl ha
  split at hk
  · assumption
  · cases hk
def RdX (X : Cx) (φ : VP) (os : Os) (d : PyData) : Prop := d.hasDict = false → ∀ F H v, Ow F os H → Cl φ F v → Dp X.K H v d
theorem rdx_dat {d : PyData} : RdX X (dat d) os d := fun z F H v ow c => dq_dp _ _ _ z (dq_mono ow.ex _ _ c.now)
theorem rdx_own {q : Addr} {ds : List PyData} (m : Nat) (h : os[m]? = some (q, ol ds)) : RdX X (own q) os (.list ds) := fun z F H v ow c => by
  obtain ⟨_, vs, ho, hv⟩ := (ow.perm (perm_at h)).atL
  obtain rfl : v = .ref q := c.now
  exact .lst (.of ho) (dqall_dp _ _ _ (by simpa [PyData.hasDict] using z) (dqall_mono ow.ex _ _ hv))
theorem r2_eqR {d d' : PyData} {t : Bool} (r1 : RdX X φ os d) (r2 : RdX X ψ os d') (h1 : SeqAt.shaped d = true) (h2 : SeqAt.shaped d' = true) (hk : PyData.eqv d d' = t) : R2X X (rEqD X.K) φ ψ os (dat (.bool t)) := fun F H x y Q ow cx cy q =>
  ⟨d, d', r1 (shaped_lay h1) F H x ow cx, r2 (shaped_lay h2) F H y ow cy, h1, h2, by rw [hk]; exact q F H _ (Same.refl F) ow (cl_dat (.bl _))⟩
theorem r2_neR {d d' : PyData} {t : Bool} (r1 : RdX X φ os d) (r2 : RdX X ψ os d') (h1 : SeqAt.shaped d = true) (h2 : SeqAt.shaped d' = true) (hk : (!PyData.eqv d d') = t) : R2X X (rNeD X.K) φ ψ os (dat (.bool t)) := fun F H x y Q ow cx cy q =>
  ⟨d, d', r1 (shaped_lay h1) F H x ow cx, r2 (shaped_lay h2) F H y ow cy, h1, h2, by rw [hk]; exact q F H _ (Same.refl F) ow (cl_dat (.bl _))⟩
section
variable [DecidableEq α] {e : α → PyData} {m : Nat} {x y : α}
theorem ex_eqR (B : Bd X N W G k) (h : EqvOk e) (s : ShOk e m) (hn : m ≤ 64) (r1 : RdX X φ os2 (e x)) (r2 : RdX X ψ os2 (e y)) (ha : EX X es os a φ os1) (hb : EX X es os1 b ψ os2) : EX X es os (.Compare a [.Eq] [b] pos) (dat (.bool (decide (x = y)))) os2 :=
  ex_cmp (op_eqD B.room.units) (r2_eqR r1 r2 (s.shaped hn x) (s.shaped hn y) (h x y)) (nomark _) ha hb
theorem tx_eqR (B : Bd X N W G k) (h : EqvOk e) (s : ShOk e m) (hn : m ≤ 64) (r1 : RdX X φ os2 (e x)) (r2 : RdX X ψ os2 (e y)) (ha : EX X es os a φ os1) (hb : EX X es os1 b ψ os2) : TX X es os (.Compare a [.Eq] [b] pos) (decide (x = y)) os2 :=
  tx_cmp (op_eqD B.room.units) (r2_eqR r1 r2 (s.shaped hn x) (s.shaped hn y) (h x y)) (nomark _) ha hb
theorem tx_neR (B : Bd X N W G k) (h : EqvOk e) (s : ShOk e m) (hn : m ≤ 64) (r1 : RdX X φ os2 (e x)) (r2 : RdX X ψ os2 (e y)) (ha : EX X es os a φ os1) (hb : EX X es os1 b ψ os2) : TX X es os (.Compare a [.NotEq] [b] pos) (!decide (x = y)) os2 :=
  tx_cmp (op_neD B.room.units) (r2_neR r1 r2 (s.shaped hn x) (s.shaped hn y) (by rw [h x y])) (nomark _) ha hb
end
theorem inV_ints (i : Int) : ∀ xs : List Int, inV (.int i) (xs.map L2.V.int) = xs.contains i
  | [] => rfl
  | x :: xs => by
    have ih := inV_ints i xs
    unfold inV at ih ⊢
    rw [List.map_cons, List.any_cons, ih, List.contains_cons]
    have e : eqV (.int x) (.int i) = (x == i) := by simp [eqV]
    rw [e, Bool.beq_comm]
theorem flat_ints : ∀ xs : List Int, (xs.map L2.V.int).all flatV = true
  | [] => rfl
  | x :: xs => by
    rw [List.map_cons, List.all_cons, flat_ints xs]
    rfl
theorem r2_ninL {i : Int} {xs : List Int} (hr : RdL X ψ os (xs.map PyData.int)) : R2X X (rIn X.K true) (dat (.int i)) ψ os (dat (.bool (!xs.contains i))) := fun F H x y Q ow cx cy q => by
  obtain ⟨p, vs, rfl, h1, h2⟩ := hr F H y ow cy
  have ev := dqall_of_ints xs h2
  subst ev
  rw [clv_int cx]
  exact ⟨p, _, rfl, .inl h1, rfl, flat_ints xs, by rw [inV_ints]; exact q F H _ (Same.refl F) ow (cl_dat (.bl _))⟩
theorem dqall_rep {F : Hp} {ds : List PyData} {vs : List L2.V} (h : DqAll F vs ds) : ∀ m : Nat, DqAll F (List.replicate m vs).flatten (List.replicate m ds).flatten
  | 0 => .nil
  | m + 1 => by
    rw [List.replicate_succ, List.replicate_succ, List.flatten_cons, List.flatten_cons]
    exact dqall_app h (dqall_rep h m)
theorem map_rep {α β : Type} (f : α → β) (xs : List α) : ∀ m : Nat, (List.replicate m (xs.map f)).flatten = ((List.replicate m xs).flatten).map f
  | 0 => rfl
  | m + 1 => by rw [List.replicate_succ, List.replicate_succ, List.flatten_cons, List.flatten_cons, map_rep f xs m, List.map_append]
def rgO (a b : Int) : Option (List Int) := if -(2 ^ 62) ≤ a ∧ a < 2 ^ 62 ∧ -(2 ^ 62) ≤ b ∧ b < 2 ^ 62 ∧ (b - a).toNat ≤ 2 ^ 24 then some (range' a b) else none
theorem rgV_map (a b : Int) : rgV a b = (range' a b).map L2.V.int := by
  unfold rgV range'
  rw [List.map_map]
  rfl
theorem en_rgL1 {b : Int} {xs : List Int} (B : Bd X N W G k) (hj : G[gi]? = some "list") (hj2 : G[gj]? = some "range") (hm : X.mg "list" = none) (hm2 : X.mg "range" = none) (hr : rgO 0 b = some xs) (ha : EX X es os e (dat (.int b)) os1) {p2 pos2 : Pos}
    (na : starEach [(.Call (.Name "range" p2) [e] [] pos2)] X.env = (false, eval (.Call (.Name "range" p2) [e] [] pos2) X.env) :: starEach [] X.env := by rfl) (nb : starEach [e] X.env = (false, eval e X.env) :: starEach [] X.env := by rfl) :
    EN X es os (.Call (.Name "list" p) [.Call (.Name "range" p2) [e] [] pos2] [] pos) (ol (xs.map PyData.int)) os1 := fun F σ H Q ow sl q => by
  unfold rgO at hr
  split at hr
  · rename_i hl
    cases hr
    refine we_of (pe_listRg B.calm (B.gl _ (List.mem_of_getElem? hj)).1 hm (prg_1 (B.gl _ (List.mem_of_getElem? hj2)).1 hm2 pe_u nb) na) (ha F σ H _ ow sl fun F1 H1 v e1 o1 c1 => ⟨b, clv_int c1, hl, fun r hr => ?_⟩)
    rw [rgV_map]
    exact q F1 _ r e1 (o1.new hr fun G g => ⟨_, rfl, dqall_ints _⟩)
  · cases hr
section
variable {S : Type} {elt iter : Expr} {ifs : List Expr} {xs : List α} {vp : α → VP} {enc : β → PyData} {s0 : S} {os0 : Os} {ys : List β} {sf : S} {tpos : Pos} {cc : Os → Prop}
theorem lc_mk1 {c : Os → Prop} (f : S → α → Option (Option β × S)) (OS : S → Os → Os) (s0 : S) (ys : List β) (sf : S) (B : Bd X N W G k) (hj : N[j]? = some x) (hun : (es[j]? = some un)) (hblk : blkC X.N X.env.scope scope [(x, j)] = true) (hown : ownB scope X.env.scope x = true) (hif : ifs.length ≤ 1)
    (hl : xs.length < sizeLine ∧ lcS f xs s0 = some (ys, sf)) (hi : IX X (.Name x tpos) es os iter xs vp c (OS s0 os0)) (hc : ∀ s tl, c (OS s tl)) (hperm : ∀ s q tl, (OS s (q :: tl)).Perm (q :: OS s tl))
    (hb : ∀ s x t tl, x ∈ xs → f s x = some t → ∃ b os1, ∀ X', Fam X scope X' → PTX X' (es.set j (sl (vp x))) (OS s tl) ifs b os1 ∧ (b = true → ∃ y, t.1 = some y ∧ EX X' (es.set j (sl (vp x))) os1 elt (dat (enc y)) (OS t.2 tl)) ∧ (b = false → t.1 = none ∧ os1 = OS t.2 tl)) :
    LcOk X es os (.Name x tpos) iter elt ifs scope [(x, j)] xs vp c (gName j) (fun x es => es.set j (sl (vp x))) enc f OS s0 os0 ys sf where
  calm := B.calm
  nd := B.hN ▸ B.nd
  ok := blkOk_by hblk
  pg := fun X' hX => pg_own hX B hj hown
  hv := fun m hm => by
    have e : m = j := by simpa using hm
    rw [e]
    exact hun
  hid := lc_id1
  hg := fun x F σ H v Q os2 sl hw ow c q => lc_gname x F σ H v Q os2 sl hw ow c q
  hif := hif
  hl := hl.2
  hz := hl.1
  hi := hi
  hc := hc
  hperm := hperm
  hb := hb
end
end
end Z
namespace Z
open PySem PySem.Spec PyProof.Rows L2
theorem elimL {α β γ : Type} {f : α → Option γ} {g : β → Option γ} {x : α} {c : Option γ} (h : Sum.elim f g (.inl x) = c) : f x = c := h
theorem elimR {α β γ : Type} {f : α → Option γ} {g : β → Option γ} {x : β} {c : Option γ} (h : Sum.elim f g (.inr x) = c) : g x = c := h
theorem len_ok {ds : List PyData} {n : Nat} (h : ds.length = n) (h2 : n ≤ sizeLine := by decide +kernel) : ds.length ≤ sizeLine := h ▸ h2
section
variable {X : Cx} {os : Os}
def noneB : PyData → Bool
  | .none => true
  | _ => false
theorem dq_none {F : Hp} : ∀ {v : L2.V} {d : PyData}, Dq F v d → decide (v = .non) = noneB d
  | _, _, .non => rfl
  | _, _, .bl _ => by simp [noneB]
  | _, _, .int _ => by simp [noneB]
  | _, _, .str _ => by simp [noneB]
  | _, _, .lst _ _ => by simp [noneB]
  | _, _, .tup _ _ => by simp [noneB]
  | _, _, .dctK _ _ _ => by simp [noneB]
  | _, _, .dctT _ _ _ => by simp [noneB]
theorem r2_notN {d : PyData} {t : Bool} (h : (!noneB d) = t) : R2X X (fun x y H Q => y = .non ∧ Q (.bl (!decide (x = .non))) H) (dat d) (dat .none) os (dat (.bool t)) := fun F H x y Q ow cx cy q =>
  ⟨by have := cy.now; cases this; rfl, by rw [dq_none cx.now, h]; exact q F H _ (Same.refl F) ow (cl_dat (.bl _))⟩
end
end Z
namespace Z
open PySem PySem.Spec PyProof.Rows L2 HT
section
variable {prog : Program} {w : World} {A : Around} {E : Value → Shared → Prop} {s : Shared}
theorem places_rev (n : Nat) : Builtin.Slice.slicePlaces ((n : Int) - 1) (-1) (-1) = n := by
  unfold Builtin.Slice.slicePlaces
  have z1 : ¬ ((-1 : Int) > 0) := by omega
  have z2 : (-(-1) : Int) = 1 := by omega
  simp only [z1, if_false, z2, Int.ediv_one]
  split <;> omega
theorem applied_rev {q : Addr} {vs : Value} {n : Nat} {Q : Int × Int × Nat → Shared → Prop} (hs : s.heap.IsSliceOf q .none .none vs) (ps : IsPart vs (some (-1)))
    (h : Q ((n : Int) - 1, -1, n) s) : wpAny (model prog w) A (Builtin.Slice.sliceApplied (.ref q) (pure (n : Int))) Q E s := by
  obtain ⟨o, h1, h2, h3⟩ := id hs
  unfold Builtin.Slice.sliceApplied Builtin.Slice.sliceFields
  refine wpAny_bind (wpAny_bind (wpAny_field h1 h3 (x := Value.none) rfl (wpAny_bind (wpAny_field h1 h3 (x := Value.none) rfl (wpAny_bind (wpAny_field h1 h3 (x := vs) rfl (wpAny_pure ?_)))))))
  refine wpAny_bind (slicePart_ ps ?_)
  show wpAny _ _ (if ((-1 : Int) == 0) = true then _ else _) _ _ s
  rw [if_neg (show ¬ ((-1 : Int) == 0) = true by decide)]
  refine wpAny_bind (slicePart_none (wpAny_bind (slicePart_none (wpAny_bind (wpAny_pure ?_)))))
  show wpAny _ _ (pure ((n : Int) - 1, (-1 : Int), Builtin.Slice.slicePlaces ((n : Int) - 1) (-1) (-1))) _ _ s
  rw [places_rev]
  exact wpAny_pure h
theorem fm_all (l : List Value) : ∀ m : Nat, m ≤ l.length → ((List.range m).filterMap fun k : Nat => l[m - 1 - k]?) = (l.take m).reverse
  | 0, _ => rfl
  | m + 1, hm => by
    have ih := fm_all l m (by omega)
    rw [List.range_succ_eq_map, List.filterMap_cons, List.filterMap_map]
    have e0 : l[m + 1 - 1 - 0]? = some l[m] := by
      rw [show m + 1 - 1 - 0 = m by omega]
      exact List.getElem?_eq_getElem (by omega)
    rw [e0]
    have e1 : ((fun k : Nat => l[m + 1 - 1 - k]?) ∘ Nat.succ) = fun k : Nat => l[m - 1 - k]? := by
      funext k
      show l[m + 1 - 1 - (k + 1)]? = _
      rw [show m + 1 - 1 - (k + 1) = m - 1 - k by omega]
    rw [e1, ih]
    rw [List.take_succ_eq_append_getElem (by omega), List.reverse_append]
    rfl
theorem fm_congr {α β : Type} {f g : α → Option β} : ∀ {l : List α}, (∀ x ∈ l, f x = g x) → l.filterMap f = l.filterMap g
  | [], _ => rfl
  | x :: l, h => by rw [List.filterMap_cons, List.filterMap_cons, h x List.mem_cons_self, fm_congr fun y hy => h y (List.mem_cons_of_mem _ hy)]
theorem pick_rev (xs : Array Value) : ((List.range xs.size).filterMap fun (k : Nat) => xs[(((xs.size : Int) - 1) + (k : Int) * (-1)).toNat]?).toArray = xs.toList.reverse.toArray := by
  have key : ((List.range xs.size).filterMap fun (k : Nat) => xs[(((xs.size : Int) - 1) + (k : Int) * (-1)).toNat]?) = ((List.range xs.size).filterMap fun k : Nat => xs.toList[xs.size - 1 - k]?) := by
    refine fm_congr fun k hk => ?_
    have := List.mem_range.mp hk
    rw [show (((xs.size : Int) - 1) + (k : Int) * (-1)).toNat = xs.size - 1 - k by omega, Array.getElem?_toList]
  rw [key, fm_all xs.toList xs.size (by simp), List.take_of_length_le (by simp)]
theorem item_rev {t q : Addr} {its : Array Value} {vs : Value} {Q : Value → Shared → Prop} (ht : IsTup s.heap t its) (hs : s.heap.IsSliceOf q .none .none vs) (ps : IsPart vs (some (-1)))
    (h : Q (.ref s.heap.objs.size) { s with heap := s.heap.push { cls := .type "tuple", data := .seq its.toList.reverse.toArray } }) (hz : its.size ≤ sizeLine) : wpAny (model prog w) A (getItem (.ref t) (.ref q)) Q E s := by
  have fits : sizeOk (.seq its.toList.reverse.toArray) := by
    show its.toList.reverse.toArray.size ≤ sizeLine
    rw [List.size_toArray, List.length_reverse, Array.length_toList]
    exact hz
  obtain ⟨o, h1, h2, h3⟩ := id hs
  have tq : s.TypeIs (.ref q) "slice" := ⟨o, h1, h2⟩
  unfold getItem
  try with_reducible refine wpAny_holding ?_
  first | refine wpAny_bind (wpAny_pure ?_) | skip
  refine wpAny_bind (wpAny_sequenceKey (IsTup.typeIs ht) (by decide) ?_)
  refine wpAny_bind (wpAny_callSpecial?_slot (name := Str.ofString "__getitem__") (IsTup.typeIs ht) PyProof.Rows.slot_tuple_getitem (wpAny_call_entry PyProof.Rows.slot_tuple_getitem (IsTup.typeIs ht) entry_tuple_getitem ?_ (args_tuple_getitem _ _)))
  show wpAny _ _ (Builtin.Tuple.tupleItemsOf (.ref t) >>= _) _ _ s
  refine wpAny_bind (tupleItemsOf_ ht (wpAny_bind (wpAny_typeOf tq ?_)))
  rw [if_pos (by decide)]
  refine wpAny_bind (applied_rev hs ps ?_)
  have hno : ¬ ((((its.size : Int) - 1) == 0 && (-1 : Int) == 1 && its.size == its.size) = true) := by
    intro z
    rw [Bool.and_eq_true, Bool.and_eq_true] at z
    exact absurd (eq_of_beq z.1.2) (by decide)
  show wpAny _ _ (if (((its.size : Int) - 1) == 0 && (-1 : Int) == 1 && its.size == its.size) = true then _ else _) _ _ s
  rw [if_neg hno, pick_rev]
  exact wpAny_bind (m := Builtin.Tuple.tupleExact _) (wpAny_newObj_type (wpAny_pure ⟨_, rfl, wpAny_pure h⟩) fits)
end
def tRevT (K : PySem.W.Frag) (te : TE) : TE := fun σ H Q => te σ H fun x H1 => ∃ a xs, x = .ref a ∧ SqT K H1 a xs ∧ ∀ p, H1 p = none → Q (.ref p) (upd H1 p (.tup xs.reverse))
section
variable {X : Cx}
theorem pe_revT {e : Expr} {te : TE} {k : Nat} {p1 p2 p3 pos : Pos} (he : PE X e te) : PE X (.Subscript e (.Slice none none (some (.UnaryOp .USub (.Constant (.int 1) k p1) p2)) p3) pos) (tRevT X.K te) := by
  refine ⟨fun pins s σ H Q I h => Subscript_ (thn (he.run pins s σ H _ I h) fun v s1 ⟨x, H1, I1, r1, q1⟩ => ?_)⟩
  obtain ⟨a, xs, rfl, hx, q⟩ := q1
  cases r1
  have hst : PO X (some (.UnaryOp .USub (.Constant (.int 1) k p1) p2)) (tPart (tUn (rU fun i => .int (-i)) (tC (.int 1)))) := po_some (pe_un un_neg pe_int)
  refine wpAny_Slice (thn (po_none.run pins s1 σ H1 (fun o Hx => o = none ∧ Hx = H1) I1 ⟨rfl, rfl⟩) fun vl s2 ⟨l, H2, I2, pl, u1, u2⟩ => ?_)
  subst u1 u2
  refine thn (po_none.run pins s2 σ H2 (fun o Hx => o = none ∧ Hx = H2) I2 ⟨rfl, rfl⟩) fun vu s3 ⟨u, H3, I3, pu, u1, u2⟩ => ?_
  subst u1 u2
  refine thn (hst.run pins s3 σ H3 (fun o Hx => o = some (-1) ∧ Hx = H3) I3 ⟨1, rfl, -1, rfl, rfl, rfl⟩) fun vs s4 ⟨o, H4, I4, ps, u1, u2⟩ => ?_
  subst u1 u2
  cases pl
  cases pu
  have J : Inv X pins σ H4 { s4 with heap := s4.heap.push { cls := .type "slice", data := .fields #[.none, .none, vs] } } := I4.kept (t' := s4.toks) fun b ob z => Heap.get?_push_of_some _ z
  obtain ⟨its, r, ht, hz⟩ := J.tuple hx
  have hlen := r.length
  show wpAny (model X.prog X.w) X.A (subscriptTail e (.Slice none none (some (.UnaryOp .USub (.Constant (.int 1) k p1) p2)) p3) (.ref a) (.ref s4.heap.objs.size)) (EP X pins σ Q) X.xe { s4 with heap := s4.heap.push { cls := .type "slice", data := .fields #[.none, .none, vs] } }
  refine tail_any (ops := [.ref a, .ref s4.heap.objs.size]) (IsTup.typeIs ht) PyProof.Rows.slot_tuple_getitem.lookup ?_ (by with_unfolding_all rfl)
  refine item_rev ht (Heap.IsSliceOf.new _ Value.none Value.none vs) ps ?_ (by rw [List.size_toArray]; omega)
  refine ⟨.ref _, _, J.laid (t' := s4.toks) (o := .tup xs.reverse) (fun b ob z => Heap.get?_push_of_some _ z) (Nat.le_refl _) ?_, rfl, q _ (J.hok.fresh (Nat.le_refl _))⟩
  exact ⟨by rw [List.length_reverse]; exact hz, _, r.reverse, IsTup.new _ _⟩
end
section
variable {X : Cx} {es : List Slot} {os os1 os2 : Os} {pos : Pos} {a b : Expr} {φ : VP}
theorem ex_revT {α : Type} {enc : α → PyData} {xs : List α} {kk : Nat} {p1 p2 p3 : Pos} (hr : RdT φ (xs.map enc)) (ha : EX X es os a φ os1) : EX X es os (.Subscript a (.Slice none none (some (.UnaryOp .USub (.Constant (.int 1) kk p1) p2)) p3) pos) (dat (.tuple (xs.reverse.map enc))) os1 := fun F σ H Q ow sl q =>
  we_of (pe_revT pe_u) (ha F σ H _ ow sl fun F1 H1 v e1 o1 c1 => by
    obtain ⟨p, vs, rfl, h1, h2⟩ := hr F1 v c1
    refine ⟨p, vs, rfl, .of (o1.ex _ _ h1), fun m hm => ?_⟩
    have fp := o1.ex.free hm
    have hd := dqall_rev h2
    rw [← List.map_reverse] at hd
    exact q _ _ _ (e1.trans (same_upd fp)) (o1.frozen hm) (cl_dat (.tup upd_same (dqall_mono (same_upd fp) _ _ hd))))
end
def mapG {α β : Type} (f : α → Option (Option β)) : List α → Option (List β)
  | [] => some []
  | x :: xs => (f x).bind fun y => (mapG f xs).bind fun ys => some (y.toList ++ ys)
def lcG {α β : Type} (f : α → Option (Option β)) (xs : List α) : Option (List β) := if xs.length < sizeLine then mapG f xs else none
theorem lcS_mapG {α β : Type} (f : α → Option (Option β)) : ∀ (xs : List α) (ys : List β), mapG f xs = some ys → lcS (fun (_ : Unit) x => (f x).map fun y => (y, ())) xs () = some (ys, ())
  | [], ys, h => by
    cases h
    rfl
  | x :: xs, ys, h => by
    unfold mapG at h
    obtain ⟨y, h1, h2⟩ := bnd h
    obtain ⟨zs, h3, h4⟩ := bnd h2
    obtain rfl := som h4
    unfold lcS
    rw [h1]
    show ((lcS _ xs ()).bind fun u => some (y.toList ++ u.1, u.2)) = _
    rw [lcS_mapG f xs zs h3]
    rfl
theorem lcG_ok {α β : Type} {f : α → Option (Option β)} {xs : List α} {ys : List β} (h : lcG f xs = some ys) : xs.length < sizeLine ∧ lcS (fun (_ : Unit) x => (f x).map fun y => (y, ())) xs () = some (ys, ()) := by
  unfold lcG at h
  split at h
  · rename_i hl
    exact ⟨hl, lcS_mapG f xs ys h⟩
  · cases h
end Z
set_option maxHeartbeats 4000000
namespace Z
open PySem PySem.Spec PyProof.Rows L2
theorem mul_same (l : Addr) (items : Array Value) (n : Nat) (dd : Option Addr) (sl : Array (Option Value)) (x : Int) (u : Tok) (c0 : (decide (x < -(2 ^ 63)) || decide (x ≥ 2 ^ 63)) = false) (c1 : (items.isEmpty || x == 1) = true) :
    Meets (Builtin.«tuple.__mul__» ⟨[.ref l, .int x u], []⟩) (fun _ R s => s.heap.get? l = some { cls := .type "tuple", dict := dd, data := .seq items n, slots := sl } ∧ R (.ok (.ret (.ref l))) s) :=
  .of_wp fun prog w A R s h => by
    obtain ⟨hp, g, d, tk, os⟩ := s
    obtain ⟨hl, h⟩ := h
    have f1 := AutoSeq1.idx_int
    wp_walk using wpAny_loadPart' hl
    repeat (first
      | (refine wpAny_ite_false (decide_eq_false (by rw [c0]; exact Bool.false_ne_true)) ?_; wp_walk using wpAny_loadPart' hl)
      | (refine wpAny_ite_true (decide_eq_true (by rw [c1])) ?_; wp_walk using wpAny_loadPart' hl))
    exact ⟨_, rfl, h⟩
theorem mul_none (l : Addr) (items : Array Value) (n : Nat) (dd : Option Addr) (sl : Array (Option Value)) (x : Int) (u : Tok) (c0 : (decide (x < -(2 ^ 63)) || decide (x ≥ 2 ^ 63)) = false) (c1 : (items.isEmpty || x == 1) = false) (c2 : (decide (x ≤ 0) || items.isEmpty) = true) :
    Meets (Builtin.«tuple.__mul__» ⟨[.ref l, .int x u], []⟩) (fun _ R s => s.heap.get? l = some { cls := .type "tuple", dict := dd, data := .seq items n, slots := sl } ∧
      R (.ok (.ret (Value.ref s.heap.objs.size))) { s with heap := s.heap.push { cls := Value.type "tuple", data := Data.seq #[] }, toks := s.toks }) :=
  .of_wp fun prog w A R s h => by
    obtain ⟨hp, g, d, tk, os⟩ := s
    obtain ⟨hl, h⟩ := h
    have f1 := AutoSeq1.idx_int
    wp_walk using wpAny_loadPart' hl
    repeat (first
      | (refine wpAny_ite_false (decide_eq_false (by rw [c0]; exact Bool.false_ne_true)) ?_; wp_walk using wpAny_loadPart' hl)
      | (refine wpAny_ite_false (decide_eq_false (by rw [c1]; exact Bool.false_ne_true)) ?_; wp_walk using wpAny_loadPart' hl)
      | (refine wpAny_ite_true (decide_eq_true (by rw [c2])) ?_; wp_walk using wpAny_loadPart' hl))
    exact ⟨_, rfl, h⟩
/-- a tuple, so many times behind one another -/
def rRepA (K : PySem.W.Frag) : R2 := fun x y H Q => ∃ l k xs, x = .ref l ∧ y = .int k ∧ SqT K H l xs ∧ -(2 ^ 63) ≤ k ∧ k < 2 ^ 63 ∧ ((xs = [] ∨ k = 1) → Q (.ref l) H) ∧ (xs ≠ [] → k ≤ 0 → ∀ p, H p = none → Q (.ref p) (upd H p (.tup []))) ∧
  (xs ≠ [] → 2 ≤ k → k ≤ 1000 ∧ xs.length ≤ 1000 ∧ ∀ p, H p = none → Q (.ref p) (upd H p (.tup (List.replicate k.toNat xs).flatten)))
section
variable {X : Cx}
theorem op_repA : OpR X (binaryOp .Mult) (rRepA X.K) := by
  intro pins s σ H x y v u Q I rx ry h
  obtain ⟨l, k, xs, rfl, rfl, hT, k0, k1, qa, qb, qc⟩ := h
  by_cases hbig : xs ≠ [] ∧ 2 ≤ k
  · obtain ⟨g1, g2, g3⟩ := qc hbig.1 hbig.2
    exact op_repT pins s σ H _ _ v u Q I rx ry ⟨l, k, xs, rfl, rfl, hT, hbig.1, hbig.2, g1, g2, g3⟩
  cases rx
  obtain ⟨t, rfl⟩ := ry
  obtain ⟨its, r, ⟨⟨cls, dd, data, sl⟩, ho, hc, n, hd⟩, hs⟩ := I.tuple hT
  simp only at hc hd
  subst hc hd
  have c0 : (decide (k < -(2 ^ 63)) || decide (k ≥ 2 ^ 63)) = false := by
    rw [Bool.or_eq_false_iff]
    exact ⟨decide_eq_false (by omega), decide_eq_false (by omega)⟩
  have emp : its.toArray.isEmpty = decide (xs = []) := by
    cases r with
    | nil => rfl
    | cons _ _ => rfl
  by_cases h1 : xs = [] ∨ k = 1
  · have c1 : (its.toArray.isEmpty || k == 1) = true := by
      rw [emp, Bool.or_eq_true, decide_eq_true_eq, beq_iff_eq]
      exact h1
    refine wpAny_binaryOp_repeat_ref (T := "tuple") (U := "int") (by decide) ⟨_, ho, rfl⟩ (fun s2 => typeIs_int s2 k t) noFill_tuple_mul F.fills_int_mul F.slot_int_rmul repeat_tuple F.slot_int_index.lookup
      (call_meets F.slot_int_rmul (typeIs_int s k t) F.entry_int_rmul (F.args_int_rmul_2 _ _) (int_rmul_tuple k t l its.toArray n dd sl) ⟨ho, rfl, ⟨_, ho, rfl⟩, call_meets F.slot_tuple_mul ⟨_, ho, rfl⟩ F.entry_tuple_mul (F.args_tuple_mul_2 _ _) (mul_same l its.toArray n dd sl k t c0 c1) ⟨ho, ?_⟩⟩)
    exact ⟨.ref l, H, I, rfl, qa h1⟩
  · have hne : xs ≠ [] := fun z => h1 (.inl z)
    have hk : k ≤ 0 := by
      have z1 : ¬ 2 ≤ k := fun z => hbig ⟨hne, z⟩
      have z2 : ¬ k = 1 := fun z => h1 (.inr z)
      omega
    have c1 : (its.toArray.isEmpty || k == 1) = false := by
      rw [emp, Bool.or_eq_false_iff]
      exact ⟨decide_eq_false hne, beq_eq_false_iff_ne.mpr (by omega)⟩
    have c2 : (decide (k ≤ 0) || its.toArray.isEmpty) = true := by
      rw [decide_eq_true hk, Bool.true_or]
    refine wpAny_binaryOp_repeat_ref (T := "tuple") (U := "int") (by decide) ⟨_, ho, rfl⟩ (fun s2 => typeIs_int s2 k t) noFill_tuple_mul F.fills_int_mul F.slot_int_rmul repeat_tuple F.slot_int_index.lookup
      (call_meets F.slot_int_rmul (typeIs_int s k t) F.entry_int_rmul (F.args_int_rmul_2 _ _) (int_rmul_tuple k t l its.toArray n dd sl) ⟨ho, rfl, ⟨_, ho, rfl⟩, call_meets F.slot_tuple_mul ⟨_, ho, rfl⟩ F.entry_tuple_mul (F.args_tuple_mul_2 _ _) (mul_none l its.toArray n dd sl k t c0 c1 c2) ⟨ho, ?_⟩⟩)
    refine ⟨.ref s.heap.objs.size, _, I.laid (t' := s.toks) (o := .tup []) (fun b ob z => Heap.get?_push_of_some _ z) (Nat.le_refl _) ?_, rfl, qb hne hk _ (I.hok.fresh (Nat.le_refl _))⟩
    exact ⟨Nat.zero_le _, [], .nil, IsTup.new _ _⟩
end
section
variable {X : Cx} {es : List Slot} {os os1 os2 : Os} {pos : Pos} {a b : Expr}
/-- the result of t * m -/
def repT {α : Type} (xs : List α) (m : Int) : Option (List α) := if -(2 ^ 63) ≤ m ∧ m ≤ 1000 ∧ xs.length ≤ 1000 then some (List.replicate m.toNat xs).flatten else none
theorem rep_nil {α : Type} : ∀ m : Nat, (List.replicate m ([] : List α)).flatten = []
  | 0 => rfl
  | m + 1 => by rw [List.replicate_succ, List.flatten_cons, rep_nil m]; rfl
theorem ex_repT {α : Type} {enc : α → PyData} {xs ys : List α} {m : Int} (h : repT xs m = some ys) (ha : EX X es os a (dat (.tuple (xs.map enc))) os1) (hb : EX X es os1 b (dat (.int m)) os2) : EX X es os (.BinOp a .Mult b pos) (dat (.tuple (ys.map enc))) os2 := fun F σ H Q ow sl q => by
  unfold repT at h
  split at h
  · rename_i hl
    cases h
    refine we_of (pe_op op_repA pe_u pe_u) (ha F σ H _ ow sl fun F1 H1 v e1 o1 c1 => hb F1 σ H1 _ o1 (sl.mono e1) fun F2 H2 u e2 o2 c2 => ?_)
    obtain ⟨p, vs, rfl, h1, h2⟩ := rdt_dat F2 v (c1.mono e2)
    have e := e1.trans e2
    have hd := dqall_rep h2 m.toNat
    rw [map_rep] at hd
    have hlen := dqall_len h2
    rw [List.length_map] at hlen
    refine ⟨p, m, vs, rfl, clv_int c2, .of (o2.ex _ _ h1), hl.1, by omega, fun h0 => ?_, fun hne hk r hr => ?_, fun hne hk => ⟨hl.2.1, by omega, fun r hr => ?_⟩⟩
    · refine q F2 H2 _ e o2 (cl_dat (.tup h1 ?_))
      rcases h0 with h0 | h0
      · subst h0
        have hx : xs = [] := List.eq_nil_of_length_eq_zero hlen.symm
        subst hx
        rw [rep_nil]
        exact h2
      · subst h0
        have e9 : (List.replicate (1 : Int).toNat xs).flatten = xs := by
          show (List.replicate 1 xs).flatten = xs
          rw [List.replicate_one, List.flatten_cons, List.flatten_nil, List.append_nil]
        rw [e9]
        exact h2
    · have fp := o2.ex.free hr
      have e9 : m.toNat = 0 := by omega
      rw [e9] at q
      exact q _ _ _ (e.trans (same_upd fp)) (o2.frozen hr) (cl_dat (.tup upd_same .nil))
    · have fp := o2.ex.free hr
      exact q _ _ _ (e.trans (same_upd fp)) (o2.frozen hr) (cl_dat (.tup upd_same (dqall_mono (same_upd fp) _ _ hd)))
  · cases h
end
end Z
namespace Z
open PySem PySem.Spec PyProof.Rows L2
section
variable {X : Cx} {os : Os}
theorem rc_len2 {d1 d2 : PyData} : RCX (fun xs H Q => ∃ p ys, xs = [L2.V.ref p] ∧ (SqL X.K H p ys ∨ SqT X.K H p ys) ∧ Q (.int ys.length) H) [dat (.tuple [d1, d2])] os (dat (.int 2)) os := rc_lenT (ds := [d1, d2]) rdt_dat
end
end Z
namespace Z
open PySem PySem.Spec PyProof.Rows L2
theorem new_enum1 {v : Value} {o : Obj} {H : Heap → Prop} (B : Begins v o H) :
    Meets (Builtin.«enumerate.__new__» ⟨[.type "enumerate", v], []⟩) (fun _ R s => H s.heap ∧
      R (.ok (.ret (.ref (s.heap.push o).objs.size))) { s with heap := (s.heap.push o).push { cls := .type "enumerate", data := .fields #[.none, .bool false, .ref s.heap.objs.size, rawInt 0, .none, .none] } }) :=
  .of_wp fun prog w A R s h => by
    obtain ⟨hp, g, d, tk, os⟩ := s
    obtain ⟨h1, h⟩ := h
    have hsub := sub_enumerate
    have q1 : ∀ {A' : Around} {E : Value → Shared → Prop} {Q : Value → Shared → Prop}, Q (.ref hp.objs.size) ⟨hp.push o, g, d, tk, os⟩ → wpAny (model prog w) A' (pyIter v) Q E ⟨hp, g, d, tk, os⟩ := fun q => B.iter prog w _ _ ⟨hp, g, d, tk, os⟩ _ h1 q
    wp_walk using q1
    refine wpAny_stack_any fun st => wpAny_pure ?_
    split
    · rename_i c _ _ _ _ _
      cases (c == Value.type "enumerate") <;> (wp_walk using q1; exact ⟨_, rfl, h⟩)
    · wp_walk using q1
      exact ⟨_, rfl, h⟩
theorem enum_begins1 {prog : Program} {w : World} {A : Around} {E : Value → Shared → Prop} {s : Shared} {v : Value} {o : Obj} {H : Heap → Prop} {Q : Value → Shared → Prop} (B : Begins v o H) (h1 : H s.heap)
    (h : ∀ g, IsEnum g (s.heap.objs.size + 1) s.heap.objs.size 0 .none → g.get? s.heap.objs.size = some o → (∀ b u, s.heap.get? b = some u → g.get? b = some u) → Q (.ref (s.heap.objs.size + 1)) { s with heap := g }) :
    wpAny (model prog w) A (call (.type "enumerate") [v]) Q E s := by
  refine callType_new F.called_enumerate (by decide) (F.typeCall_enumerate_1 _) (F.newCall_enumerate_1 _) (fun obj => F.args_object_init_2 obj _) F.entry_enumerate_new (new_enum1 B) ⟨h1, ?_⟩
  have hz : (s.heap.push o).objs.size = s.heap.objs.size + 1 := Heap.size_push ..
  show _ ∧ _
  rw [hz]
  have he : IsEnum ((s.heap.push o).push { cls := .type "enumerate", data := .fields #[.none, .bool false, .ref s.heap.objs.size, rawInt 0, .none, .none] }) (s.heap.objs.size + 1) s.heap.objs.size 0 .none := by
    have q := Heap.get?_push_size (s.heap.push o) (o := { cls := .type "enumerate", data := .fields #[.none, .bool false, .ref s.heap.objs.size, rawInt 0, .none, .none] }) rfl
    rw [hz] at q
    exact q
  exact ⟨⟨_, he, rfl⟩, h _ he (Heap.get?_push_of_some _ (Heap.get?_push_size _ B.free)) fun b u x => Heap.get?_push_of_some _ (Heap.get?_push_of_some _ x)⟩
/-- the items of the tuple at a, each in a new pair -/
def IteT (K : PySem.W.Frag) (a : Addr) : It :=
  ⟨fun i H => ∃ (xs : List L2.V) (x : L2.V), SqT K H a xs ∧ xs[i]? = some x, fun i H v H' => ∃ T x, v = .ref T ∧ H T = none ∧ H' = upd H T (.tup [.int (i : Nat), x]) ∧ ∀ xs, SqT K H a xs → xs[i]? = some x, fun i H => ∃ xs : List L2.V, SqT K H a xs ∧ xs.length ≤ i⟩
theorem turn_enumT {P : Program} {w : World} {K : PySem.W.Frag} {elts : List Expr} {kk : Nat} {tpos : Pos} (a e it : Addr) :
    Turn P w K (.Tuple elts kk tpos) (IteT K a) [e, it] e (fun i h => (∃ old, IsEnum h e it ((i : Nat) : Int) old) ∧ h.IsTupleIter it a i ∧ e ≠ it ∧ a ≠ e ∧ a ≠ it) where
  mem := by simp
  obj := fun i h st b hb => by
    obtain ⟨⟨old, he⟩, ⟨o, ho, hc, hd⟩, _⟩ := st
    have z : b = e ∨ b = it := by simpa using hb
    rcases z with z | z
    · rw [z]
      exact ⟨_, he, fun v q => nomatch q⟩
    · rw [z]
      exact ⟨o, ho, fun v q => by rw [hd] at q; cases q⟩
  keep := fun i h g st k => by
    obtain ⟨⟨old, he⟩, hi, r⟩ := st
    exact ⟨⟨old, k e (by simp) _ he⟩, hi.at fun o q => k it (by simp) o q, r⟩
  item := by
    intro X hP hw hK hc i pins s σ H E I hf st hg
    subst hP hw hK
    obtain ⟨⟨old, he⟩, hit, hne, hae, hai⟩ := st
    obtain ⟨xs, x, hq, hx⟩ := hg
    obtain ⟨its, rv, p, hz⟩ := I.tuple hq
    obtain ⟨u, hu, ru⟩ := rv.get hx
    have hel : e < s.heap.objs.size := Heap.lt_size he
    have hil : it < s.heap.objs.size := by
      obtain ⟨_, q, _⟩ := hit
      exact Heap.lt_size q
    have D := Draws.tuple (prog := X.prog) (w := X.w) (A := X.A.in1) (I.ok.hd hc) it a hai its.toArray
    have hlt : i < its.toArray.size := by
      have := (List.getElem?_eq_some_iff.mp hu).1
      simpa using this
    refine wpAny_pyNext_enum_itemD D he ⟨hit, p⟩ hlt hne (by simp [hne, Ne.symm hae]) fun x' h' tk hP' ho hst hT hsz hk => ?_
    have ex : x' = u := by
      have q : its.toArray[i]? = some u := by simpa using hu
      exact Option.some.inj (hP'.symm.trans q)
    subst ex
    refine ⟨_, rfl, wpAny_letOwnedTupleGo_enum (s := { s with heap := h', toks := tk + 1 }) ho fun h'' he' sb => ?_⟩
    have hT2 : h''.get? s.heap.objs.size = some { cls := .type "tuple", data := .seq #[.int i tk, x'] } := (sb.2 _ (Nat.ne_of_gt hel)).trans hT
    have new : ObjOk X.prog X.w (upd H s.heap.objs.size (.tup [.int (i : Nat), x])) h'' s.heap.objs.size (.tup [.int (i : Nat), x]) :=
      ⟨by show 2 ≤ sizeLine; decide, [.int i tk, x'], .cons ⟨_, rfl⟩ (.cons ru .nil), ⟨_, hT2, rfl, _, rfl⟩⟩
    have I1 : Inv X pins σ (upd H s.heap.objs.size (.tup [.int (i : Nat), x])) { s with heap := h'', toks := tk + 1 } :=
      I.turnedNew (ch := [e, it]) (fun b ob hb q => (sb.2 b (fun z => hb (by simp [z]))).trans (hk b ob (fun z => hb (by simp [z])) (fun z => hb (by simp [z])) q)) hf (Nat.le_refl _) new
    refine ⟨.ref s.heap.objs.size, _, I1, rfl, ⟨_, x, rfl, I.hok.fresh (Nat.le_refl _), rfl, fun ys hy => by rw [I.tuple_inj hy hq]; exact hx⟩, ⟨⟨x', ?_⟩, hst.1.at fun o q => (sb.2 it (Ne.symm hne)).trans q, hne, hae, hai⟩, fun b hb => ?_⟩
    · have e1 : ((i + 1 : Nat) : Int) = (i : Int) + 1 := by omega
      rw [e1]
      exact he'
    · have hb' : b < s.heap.objs.size := by
        have z : b = e ∨ b = it := by simpa using hb
        rcases z with z | z
        · rw [z]
          exact hel
        · rw [z]
          exact hil
      rw [upd_ne (Nat.ne_of_lt hb')]
      exact (hf b hb).1
  done := by
    intro X hP hw hK hc i pins s σ H E I hf st hg
    subst hP hw hK
    obtain ⟨⟨old, he⟩, hit, hne, hae, hai⟩ := st
    obtain ⟨xs, hq, hx⟩ := hg
    obtain ⟨its, rv, p, hz⟩ := I.tuple hq
    obtain ⟨f0, f1, f2, f3, f4, f5⟩ := hf it (by simp)
    have hl := rv.length
    have hT : s.TypeIs (.ref e) "enumerate" := ⟨_, he, rfl⟩
    unfold pyNext
    refine wpAny_bind (wpAny_attempt (wpAny_callSpecial?_slot (name := Str.ofString "__next__") hT F.slot_enumerate_next (wpAny_call_entry F.slot_enumerate_next hT F.entry_enumerate_next ?_ (F.args_enumerate_next_1 _))))
    show wpAny _ _ (field (.ref e) 2 >>= _) _ _ _
    refine wpAny_bind (wpAny_field he rfl (x := .ref it) rfl ?_)
    refine wpAny_bind (wpAny_nextOf_tuple_end (A := X.A.in1) (I.ok.hd hc) hit (show s.heap.IsTuple a its.toArray from p) (by simp; omega) fun h' x he' hx' => ?_)
    obtain ⟨o, ho, hcx⟩ := hx'
    refine wpAny_bind (wpAny_isInstance (T := "StopIteration") (b := true) ⟨o, ho, hcx⟩ isSubtype_stop ?_)
    exact wpAny_pure ⟨rfl, I.turned (t' := s.toks) (fun b o hb q => he' b o hb q) f0 f1 f3 f4 f5⟩
  self := fun A i s Q E st h => by
    obtain ⟨⟨_, he⟩, _⟩ := st
    exact wpAny_pyIter_enum he h
def iEnumT (K : PySem.W.Frag) (ta : TA) : TI := fun σ H R => ta σ H fun vs H1 => ∃ a xs, vs = [.ref a] ∧ SqT K H1 a xs ∧ R (IteT K a) H1
theorem pi_enumT {X : Cx} {e : Expr} {ta : TA} {p pos tpos : Pos} {elts : List Expr} {kk : Nat} (hg : Gl X "enumerate") (hm : X.mg "enumerate" = none) (ha : PA X [e] ta) (hs : starEach [e] X.env = [(false, eval e X.env)] := by rfl) :
    PI X (.Tuple elts kk tpos) (.Call (.Name "enumerate" p) [e] [] pos) (iEnumT X.K ta) := by
  refine ⟨fun pins s σ H R I h => Call_ (ld_blt I hg hm boot_enumerate (PyProof.Rows.callWith_type1 (thn (ha.run pos pins s σ H _ I h) fun us s1 ⟨vs, H1, I1, r1, q1⟩ => ?_) hs rfl))⟩
  obtain ⟨a, xs, rfl, hq, q⟩ := q1
  cases r1 with
  | cons r rr =>
    cases rr
    cases r
    obtain ⟨its, rv, p2, hz⟩ := I1.tuple hq
    have ht : s1.heap.IsTuple a its.toArray := p2
    have hal : a < s1.heap.objs.size := by
      obtain ⟨_, z, _⟩ := ht
      exact Heap.lt_size z
    refine enum_begins1 (begins_tuple a its.toArray) ht fun h' he hit hk => wpAny_pyIter_enum he ?_
    have I2 : Inv X pins σ H1 { s1 with heap := h' } := I1.kept (t' := s1.toks) hk
    refine ⟨s1.heap.objs.size + 1, [s1.heap.objs.size + 1, s1.heap.objs.size], _, _, H1, rfl, I2, turn_enumT a (s1.heap.objs.size + 1) s1.heap.objs.size, ⟨⟨.none, he⟩, ⟨_, hit, rfl, rfl⟩, Nat.succ_ne_self _, Nat.ne_of_lt (Nat.lt_succ_of_lt hal), Nat.ne_of_lt hal⟩, fun b hb => ?_, q⟩
    have z : b = s1.heap.objs.size + 1 ∨ b = s1.heap.objs.size := by simpa using hb
    have hle : s1.heap.objs.size ≤ b := by
      rcases z with z | z
      · rw [z]
        exact Nat.le_succ _
      · rw [z]
        exact Nat.le_refl _
    exact I1.fpOk hle (I1.hok.fresh hle)
section
variable {X : Cx} {es : List Slot} {os os1 os2 os3 : Os} {N V G W : List Str} {k i vi gi j : Nat} {x : Str} {p pos : Pos} {e e2 e3 a : Expr} {φ : VP} {n : Ent} {α : Type}
theorem ix_enumT {elts : List Expr} {kk : Nat} {tpos : Pos} {xs : List α} {enc : α → PyData} (B : Bd X N W G k) (hj : G[gi]? = some "enumerate") (hm : X.mg "enumerate" = none) (he : EX X es os e φ os1) (hr : RdT φ (xs.map enc)) (hs : starEach [e] X.env = [(false, eval e X.env)] := by rfl) :
    IX X (.Tuple elts kk tpos) es os (.Call (.Name "enumerate" p) [e] [] pos) (enum xs) (fun x => dat (.tuple [.int x.1, enc x.2])) anyOs os1 := fun F σ H R ow sl q =>
  wi_of (pi_enumT (B.gl _ (List.mem_of_getElem? hj)).1 hm pa_u hs) (wa_of (pa_cons pe_u pa_nil hs) (he F σ H _ ow sl fun F1 H1 v e1 o1 c1 => by
    obtain ⟨a, vs, rfl, h1, h2⟩ := hr F1 v c1
    refine ⟨a, vs, rfl, .of (o1.ex _ _ h1), q F1 H1 _ e1 o1 fun F2 H2 os2 i s ow2 k2 => ?_⟩
    have g1 := s _ _ h1
    have g2 := dqall_mono s _ _ h2
    have hl := dqall_len g2
    rw [List.length_map] at hl
    have hT : SqT X.K H2 a vs := .of (ow2.ex _ _ g1)
    refine ⟨fun h => ⟨vs, hT, by rw [enum_len] at h; omega⟩, fun x hx => ?_⟩
    obtain ⟨hz1, hz2⟩ := zipIdx_get hx
    obtain ⟨u, hu, hd⟩ := dqall_map g2 hz2
    refine ⟨⟨vs, u, hT, hu⟩, fun w H3 y => ?_⟩
    obtain ⟨T, w2, rfl, hTn, rfl, hy⟩ := y
    have ew : vs[i]? = some w2 := hy vs hT
    rw [hu] at ew
    cases ew
    have fT := ow2.ex.free hTn
    refine ⟨_, same_upd fT, ow2.frozen hTn, cl_dat (.tup upd_same ?_)⟩
    rw [hz1]
    exact .cons (.int _) (.cons (dq_mono (same_upd fT) _ _ hd) .nil)))
theorem ex_extend {apos cpos : Pos} {q : Addr} {enc : α → PyData} {xs xs0 ys zs : List α} (ha : catO xs ys = some zs) (ho : EX X es os a (own q) os) (h0 : os[j]? = some (q, ol (xs0.map enc))) (he : EN X es os e (ol (ys.map enc)) os1) (hj : os1[j]? = some (q, ol (xs.map enc)))
    (hbase : attributeBase a "extend" X.env (eval a X.env) = eval a X.env := by rfl) (hline : (apos.endLine == cpos.line) = true := by rfl) (hs : starEach [e] X.env = (false, eval e X.env) :: starEach [] X.env := by rfl)
    (hfew : ((backTo cpos (starEach [e] X.env)).all (fun x => !x.1) && (backToKw cpos (keywordEach [] X.env)).all (fun x => x.1.isSome) && decide ([e].length + ([] : List Keyword).length + (if ([] : List Keyword).isEmpty then 0 else 1) < 30)) = true := by rfl)
    (hplain : (backTo cpos (starEach [] X.env)).any (·.1) = false := by rfl) : EX X es os (.Call (.Attribute a "extend" apos) [e] [] cpos) (dat .none) (os1.set j (q, ol (zs.map enc))) := fun F σ H Q ow sl qq => by
  unfold catO at ha
  split at ha
  · rename_i hz
    cases ha
    refine we_of (pe_bm PySem.F.plainAttrs_list PySem.F.slot_list_extend PySem.F.type_list_extend mt_extend pe_u pa_u hbase hfew hline hs hplain) (ho F σ H _ ow sl fun F1 H1 v e1 o1 c1 => ?_)
    obtain rfl : v = .ref q := c1.now
    obtain ⟨_, _, _, ty⟩ := ty_own (K := X.K) o1 h0
    refine ⟨ty, wa_of (pa_cons pe_u pa_nil hs) (he F1 σ H1 _ o1 (sl.mono e1) fun F2 H2 r e2 o2 => ?_)⟩
    obtain ⟨vs, hp, hv, _⟩ := ty_own (K := X.K) o2.drop hj
    obtain ⟨_, us, hu, hus⟩ := o2.atL
    have l1 := dqall_len hv
    have l2 := dqall_len hus
    rw [List.length_map] at l1 l2
    have o3 := ow_set o2.drop hj (dqall_app hv hus)
    rw [← List.map_append] at o3
    exact ⟨q, r, vs, us, rfl, rfl, hp, hu, by omega, qq F2 _ .non (e1.trans e2) o3 (cl_dat .non)⟩
  · cases ha
/-- the first place at which an integer stands -/
def ixOf : List Int → Int → Option Nat
  | [], _ => none
  | x :: xs, y => if x = y then some 0 else (ixOf xs y).map (· + 1)
theorem ixOf_spec : ∀ {xs : List Int} {y : Int} {m : Nat}, ixOf xs y = some m → xs[m]? = some y ∧ ∀ l z, l < m → xs[l]? = some z → z ≠ y
  | [], _, _, h => by cases h
  | x :: xs, y, m, h => by
    unfold ixOf at h
    by_cases hx : x = y
    · rw [if_pos hx] at h
      cases h
      exact ⟨by rw [hx]; rfl, fun l z hl => absurd hl (Nat.not_lt_zero _)⟩
    · rw [if_neg hx] at h
      cases e : ixOf xs y with
      | none =>
        rw [e] at h
        cases h
      | some m' =>
        rw [e] at h
        cases h
        obtain ⟨h1, h2⟩ := ixOf_spec e
        refine ⟨by simpa using h1, fun l z hl hz => ?_⟩
        cases l with
        | zero =>
          simp at hz
          exact hz ▸ hx
        | succ l => exact h2 l z (Nat.lt_of_succ_lt_succ hl) (by simpa using hz)
theorem ex_index {apos cpos : Pos} {xs : List Int} {y : Int} {m : Nat} (hm : ixOf xs y = some m) (hr : ∀ o, o = os1 ∨ o = os2 → RdL X φ o (xs.map PyData.int)) (ho : EX X es os a φ os1) (he : EX X es os1 e (dat (.int y)) os2)
    (hbase : attributeBase a "index" X.env (eval a X.env) = eval a X.env := by rfl) (hline : (apos.endLine == cpos.line) = true := by rfl) (hs : starEach [e] X.env = (false, eval e X.env) :: starEach [] X.env := by rfl)
    (hfew : ((backTo cpos (starEach [e] X.env)).all (fun x => !x.1) && (backToKw cpos (keywordEach [] X.env)).all (fun x => x.1.isSome) && decide ([e].length + ([] : List Keyword).length + (if ([] : List Keyword).isEmpty then 0 else 1) < 30)) = true := by rfl)
    (hplain : (backTo cpos (starEach [] X.env)).any (·.1) = false := by rfl) : EX X es os (.Call (.Attribute a "index" apos) [e] [] cpos) (dat (.int (m : Int))) os2 := fun F σ H Q ow sl qq => by
  refine we_of (pe_bm PySem.F.plainAttrs_list PySem.F.slot_list_index PySem.F.type_list_index mt_index pe_u pa_u hbase hfew hline hs hplain) (ho F σ H _ ow sl fun F1 H1 v e1 o1 c1 => ?_)
  obtain ⟨b, us, rfl, h1, h2⟩ := hr os1 (.inl rfl) F1 H1 v o1 c1
  refine ⟨.inl ⟨rfl, us, h1⟩, wa_of (pa_cons pe_u pa_nil hs) (he F1 σ H1 _ o1 (sl.mono e1) fun F2 H2 u e2 o2 c2 => ?_)⟩
  obtain ⟨b', us', eb, g1, g2⟩ := hr os2 (.inr rfl) F2 H2 _ o2 (c1.mono e2)
  cases eb
  have ev := dqall_of_ints xs g2
  subst ev
  rw [clv_int c2]
  obtain ⟨s1, s2⟩ := ixOf_spec hm
  refine ⟨b, _, .int y, m, .int y, rfl, rfl, g1, rfl, flat_ints xs, by rw [List.getElem?_map, s1]; rfl, by simp [eqV], fun l z hl hz => ?_, qq F2 H2 _ (e1.trans e2) o2 (cl_dat (.int _))⟩
  rw [List.getElem?_map] at hz
  cases ez : xs[l]? with
  | none =>
    rw [ez] at hz
    cases hz
  | some z' =>
    rw [ez] at hz
    cases hz
    have := s2 l z' hl ez
    simp [eqV, this]
end
end Z
namespace Z
open PySem PySem.Spec PyProof.Rows L2
end Z
namespace Z
open PySem PySem.Spec PyProof.Rows L2
inductive Lk (Q : Hp → Prop) : Hp → Prop
  | now {H : Hp} : Q H → Lk Q H
  | lock {H : Hp} (d : Addr) (u : HO) : H d = some u → Mut (some u) → (∀ od, Lk Q (upd H d (.frz od u))) → Lk Q H
theorem Lk.bind {Q R : Hp → Prop} {H : Hp} (h : Lk Q H) (k : ∀ H, Q H → Lk R H) : Lk R H := by
  induction h with
  | now q => exact k _ q
  | lock d u a b _ ih => exact .lock d u a b ih
theorem Lk.inv {X : Cx} {pins : List (Addr × Obj)} {σ : L2.St} {s : Shared} {Q : Hp → Prop} {H : Hp} (h : Lk Q H) : Inv X pins σ H s → ∃ H', Inv X pins σ H' s ∧ Q H' := by
  induction h with
  | now q => exact fun I => ⟨_, I, q⟩
  | lock d u a b _ ih =>
    intro I
    obtain ⟨od, I1⟩ := I.lock a b
    exact ih od I1
theorem we_lk {X : Cx} {e : Expr} {σ : L2.St} {H : Hp} {Q : VK} (h : WE X e σ H fun v H' => Lk (Q v) H') : WE X e σ H Q := fun pins s I =>
  wpAny_mono (h pins s I) (fun u s1 ⟨v, H1, I1, r, k⟩ => let ⟨H2, I2, q⟩ := k.inv I1; ⟨v, H2, I2, r, q⟩) fun _ _ z => z
theorem wps_lk {X : Cx} {sts : List Stmt} {D : Ends} {σ : L2.St} {H : Hp} (h : Lk (WPs X sts D σ) H) : WPs X sts D σ H := fun pins s I =>
  let ⟨_, I2, q⟩ := h.inv I; q pins s I2
/-- what is owned as e may be given away, as the data d -/
def Frb (e : Ent) (d : PyData) : Prop := ∀ p F os H (Q : Hp → Prop), Ow F ((p, e) :: os) H → (∀ F' H', Same F F' → Ow F' os H' → Dq F' (.ref p) d → Q H') → Lk Q H
section
variable {κ β : Type} [DecidableEq κ]
def dGet (d : List (κ × β)) (k : κ) : Option β := (d.find? fun kv => decide (kv.1 = k)).map (·.2)
def dPut (d : List (κ × β)) (k : κ) (v : β) : List (κ × β) :=
  if (d.any fun kv => decide (kv.1 = k)) = true then d.map (fun kv => if kv.1 = k then (kv.1, v) else kv) else d ++ [(k, v)]
def dDel (d : List (κ × β)) (k : κ) : List (κ × β) := d.filter fun kv => decide (kv.1 ≠ k)
/-- a store in bounds -/
def dPutO (d : List (κ × β)) (k : κ) (v : β) : Option (List (κ × β)) := if d.length < sizeLine then some (dPut d k v) else none
/-- d.pop(k) -/
def dPopO (d : List (κ × β)) (k : κ) : Option (β × List (κ × β)) := (dGet d k).map fun v => (v, dDel d k)
end
theorem dGet_map {κ β γ : Type} [DecidableEq κ] (f : β → γ) (k : κ) : ∀ d : List (κ × β), dGet (d.map fun p => (p.1, f p.2)) k = (dGet d k).map f
  | [] => rfl
  | (a, b) :: d => by
    have ih := dGet_map f k d
    unfold dGet at ih ⊢
    rw [List.map_cons, List.find?_cons, List.find?_cons]
    by_cases h : a = k
    · simp [h]
    · simp only [h, decide_false]
      exact ih
theorem dPut_map {κ β γ : Type} [DecidableEq κ] (f : β → γ) (k : κ) (v : β) (d : List (κ × β)) : dPut (d.map fun p => (p.1, f p.2)) k (f v) = (dPut d k v).map fun p => (p.1, f p.2) := by
  unfold dPut
  rw [List.any_map]
  have e : ((fun kv : κ × γ => decide (kv.1 = k)) ∘ fun p : κ × β => (p.1, f p.2)) = fun kv => decide (kv.1 = k) := rfl
  rw [e]
  split
  · rw [List.map_map, List.map_map]
    congr 1
    funext p
    show (if p.1 = k then (p.1, f v) else (p.1, f p.2)) = _
    by_cases h : p.1 = k
    · simp [h]
    · simp [h]
  · simp
theorem dDel_map {κ β γ : Type} [DecidableEq κ] (f : β → γ) (k : κ) (d : List (κ × β)) : dDel (d.map fun p => (p.1, f p.2)) k = (dDel d k).map fun p => (p.1, f p.2) := by
  unfold dDel
  rw [List.filter_map]
  rfl
/-- the keys renamed one to one -/
theorem dGet_key {κ κ' β : Type} [DecidableEq κ] [DecidableEq κ'] {f : κ → κ'} (hf : ∀ a b, f a = f b → a = b) (k : κ) : ∀ d : List (κ × β), dGet (d.map fun p => (f p.1, p.2)) (f k) = dGet d k
  | [] => rfl
  | (a, b) :: d => by
    have ih := dGet_key hf k d
    unfold dGet at ih ⊢
    rw [List.map_cons, List.find?_cons, List.find?_cons]
    by_cases h : a = k
    · simp [h]
    · have h2 : ¬ f a = f k := fun z => h (hf _ _ z)
      simp only [h, h2, decide_false]
      exact ih
theorem dPut_key {κ κ' β : Type} [DecidableEq κ] [DecidableEq κ'] {f : κ → κ'} (hf : ∀ a b, f a = f b → a = b) (k : κ) (v : β) (d : List (κ × β)) : dPut (d.map fun p => (f p.1, p.2)) (f k) v = (dPut d k v).map fun p => (f p.1, p.2) := by
  unfold dPut
  rw [List.any_map]
  have e : ((fun kv : κ' × β => decide (kv.1 = f k)) ∘ fun p : κ × β => (f p.1, p.2)) = fun kv => decide (kv.1 = k) := by
    funext p
    show decide (f p.1 = f k) = decide (p.1 = k)
    exact decide_eq_decide.mpr ⟨hf _ _, fun z => by rw [z]⟩
  rw [e]
  split
  · rw [List.map_map, List.map_map]
    congr 1
    funext p
    show (if f p.1 = f k then (f p.1, v) else (f p.1, p.2)) = _
    by_cases h : p.1 = k
    · simp [h]
    · have h2 : ¬ f p.1 = f k := fun z => h (hf _ _ z)
      simp [h, h2]
  · simp
theorem dDel_key {κ κ' β : Type} [DecidableEq κ] [DecidableEq κ'] {f : κ → κ'} (hf : ∀ a b, f a = f b → a = b) (k : κ) (d : List (κ × β)) : dDel (d.map fun p => (f p.1, p.2)) (f k) = (dDel d k).map fun p => (f p.1, p.2) := by
  unfold dDel
  rw [List.filter_map]
  congr 1
  refine List.filter_congr fun p _ => ?_
  show decide (f p.1 ≠ f k) = decide (p.1 ≠ k)
  exact decide_eq_decide.mpr ⟨fun h z => h (by rw [z]), fun h z => h (hf _ _ z)⟩
theorem valV_dGet {κ : Type} [DecidableEq κ] (d : List (κ × L2.V)) (k : κ) : valV d k = dGet d k := rfl
theorem putK_dPut {κ : Type} [DecidableEq κ] (d : List (κ × L2.V)) (k : κ) (v : L2.V) : putK d k v = dPut d k v := rfl
inductive Kd (κ : Type) where
  | fl (f : κ → Key)
  | tu (f : κ → List Key)
section
variable {κ : Type}
def Kd.ek : Kd κ → κ → PyData
  | .fl f, k => kPD (f k)
  | .tu f, k => .tuple ((f k).map kPD)
def Kd.Inj : Kd κ → Prop
  | .fl f => ∀ a b, f a = f b → a = b
  | .tu f => ∀ a b, f a = f b → a = b
def Kd.ho : Kd κ → List (κ × L2.V) → HO
  | .fl f, kvs => .dK (kvs.map fun p => (f p.1, p.2))
  | .tu f, kvs => .dT (kvs.map fun p => (f p.1, p.2))
def Kd.pd (kd : Kd κ) (ps : List (κ × PyData)) : PyData := match kd with
  | .fl f => .dict (ps.map fun p => (kPD (f p.1), p.2))
  | .tu f => .dict ((.none, .none) :: ps.map fun p => (PyData.tuple ((f p.1).map kPD), p.2))
theorem Kd.ntup (kd : Kd κ) (kvs : List (κ × L2.V)) : ∀ xs, kd.ho kvs ≠ .tup xs := by cases kd <;> intro _ z <;> cases z
theorem Kd.mut (kd : Kd κ) (kvs : List (κ × L2.V)) : Mut (some (kd.ho kvs)) := by cases kd <;> trivial
end
abbrev kI : Kd Int := .fl Sum.inl
theorem inj_kI : kI.Inj := fun a b h => Sum.inl.inj h
theorem kPD_inj : ∀ {a b : Key}, kPD a = kPD b → a = b
  | .inl _, .inl _, h => by injection h with h; rw [h]
  | .inr _, .inr _, h => by injection h with h; rw [h]
  | .inl _, .inr _, h => nomatch h
  | .inr _, .inl _, h => nomatch h
theorem kPDs_inj : ∀ {a b : List Key}, a.map kPD = b.map kPD → a = b
  | [], [], _ => rfl
  | [], _ :: _, h => nomatch h
  | _ :: _, [], h => nomatch h
  | x :: a, y :: b, h => by
    rw [List.map_cons, List.map_cons] at h
    injection h with h1 h2
    rw [kPD_inj h1, kPDs_inj h2]
section
variable {κ : Type}
inductive DV (F : Hp) : List (κ × L2.V) → List (κ × PyData) → Prop
  | nil : DV F [] []
  | cons {k : κ} {v : L2.V} {d : PyData} {kvs : List (κ × L2.V)} {ds : List (κ × PyData)} : Dq F v d → DV F kvs ds → DV F ((k, v) :: kvs) ((k, d) :: ds)
theorem dv_mono {F F' : Hp} (e : Same F F') : ∀ {kvs : List (κ × L2.V)} {ds : List (κ × PyData)}, DV F kvs ds → DV F' kvs ds
  | _, _, .nil => .nil
  | _, _, .cons h1 h2 => .cons (dq_mono e _ _ h1) (dv_mono e h2)
theorem dv_len {F : Hp} : ∀ {kvs : List (κ × L2.V)} {ds : List (κ × PyData)}, DV F kvs ds → kvs.length = ds.length
  | _, _, .nil => rfl
  | _, _, .cons h1 h2 => by rw [List.length_cons, List.length_cons, dv_len h2]
theorem dv_app {F : Hp} : ∀ {kvs us : List (κ × L2.V)} {ds es : List (κ × PyData)}, DV F kvs ds → DV F us es → DV F (kvs ++ us) (ds ++ es)
  | _, _, _, _, .nil, h => h
  | _, _, _, _, .cons h1 h2, h => .cons h1 (dv_app h2 h)
theorem dv_at {F : Hp} : ∀ {kvs : List (κ × L2.V)} {ds : List (κ × PyData)} {i : Nat} {k : κ} {d : PyData}, DV F kvs ds → ds[i]? = some (k, d) → ∃ v, kvs[i]? = some (k, v) ∧ Dq F v d
  | _, _, i, k, d, .nil, h => by simp at h
  | _, _, 0, k, d, .cons h1 h2, h => by
    simp at h
    obtain ⟨rfl, rfl⟩ := h
    exact ⟨_, rfl, h1⟩
  | _, _, i + 1, k, d, .cons h1 h2, h => dv_at (i := i) h2 (by simpa using h)
theorem dv_keys {F : Hp} : ∀ {kvs : List (κ × L2.V)} {ds : List (κ × PyData)}, DV F kvs ds → kvs.map (·.1) = ds.map (·.1)
  | _, _, .nil => rfl
  | _, _, .cons h1 h2 => by rw [List.map_cons, List.map_cons, dv_keys h2]
theorem dv_vals {F : Hp} : ∀ {kvs : List (κ × L2.V)} {ds : List (κ × PyData)}, DV F kvs ds → DqAll F (kvs.map (·.2)) (ds.map (·.2))
  | _, _, .nil => .nil
  | _, _, .cons h1 h2 => .cons h1 (dv_vals h2)
variable [DecidableEq κ]
theorem dv_get {F : Hp} (k : κ) : ∀ {kvs : List (κ × L2.V)} {ds : List (κ × PyData)}, DV F kvs ds → (∀ d, dGet ds k = some d → ∃ v, dGet kvs k = some v ∧ Dq F v d) ∧ (dGet ds k = none → dGet kvs k = none)
  | _, _, .nil => ⟨fun d h => (nomatch h), fun _ => rfl⟩
  | _, _, .cons (k := j) h1 h2 => by
    have ih := dv_get k h2
    unfold dGet at ih ⊢
    rw [List.find?_cons, List.find?_cons]
    by_cases e : j = k
    · simp only [e, decide_true]
      exact ⟨fun d h => by cases h; exact ⟨_, rfl, h1⟩, fun h => nomatch h⟩
    · simp only [e, decide_false]
      exact ih
theorem dv_any {F : Hp} (k : κ) : ∀ {kvs : List (κ × L2.V)} {ds : List (κ × PyData)}, DV F kvs ds → (kvs.any fun kv => decide (kv.1 = k)) = ds.any fun kv => decide (kv.1 = k)
  | _, _, .nil => rfl
  | _, _, .cons (k := j) h1 h2 => by
    rw [List.any_cons, List.any_cons, dv_any k h2]
theorem dv_rep {F : Hp} (k : κ) {v : L2.V} {d : PyData} (hd : Dq F v d) : ∀ {kvs : List (κ × L2.V)} {ds : List (κ × PyData)}, DV F kvs ds → DV F (kvs.map fun kv => if kv.1 = k then (kv.1, v) else kv) (ds.map fun kv => if kv.1 = k then (kv.1, d) else kv)
  | _, _, .nil => .nil
  | _, _, .cons (k := j) h1 h2 => by
    rw [List.map_cons, List.map_cons]
    by_cases e : j = k
    · simp only [e, if_true]
      exact .cons hd (dv_rep k hd h2)
    · simp only [e, if_false]
      exact .cons h1 (dv_rep k hd h2)
theorem dv_put {F : Hp} (k : κ) {v : L2.V} {d : PyData} (hd : Dq F v d) {kvs : List (κ × L2.V)} {ds : List (κ × PyData)} (h : DV F kvs ds) : DV F (dPut kvs k v) (dPut ds k d) := by
  unfold dPut
  rw [dv_any k h]
  split
  · exact dv_rep k hd h
  · exact dv_app h (.cons hd .nil)
theorem dv_del {F : Hp} (k : κ) : ∀ {kvs : List (κ × L2.V)} {ds : List (κ × PyData)}, DV F kvs ds → DV F (dDel kvs k) (dDel ds k)
  | _, _, .nil => .nil
  | _, _, .cons (k := j) h1 h2 => by
    have ih := dv_del k h2
    unfold dDel at ih ⊢
    rw [List.filter_cons, List.filter_cons]
    by_cases e : j = k
    · simp only [e, ne_eq, not_true_eq_false, decide_false, Bool.false_eq_true, if_false]
      exact ih
    · simp only [ne_eq, e, not_false_eq_true, decide_true, if_true]
      exact .cons h1 ih
end
section
variable {κ : Type}
def od (kd : Kd κ) (d : List (κ × PyData)) : Ent := fun p F h => ∃ kvs, h = one p (kd.ho kvs) ∧ DV F kvs d
theorem uni_od {kd : Kd κ} {d : List (κ × PyData)} : Uni (od kd d) (fun F o => ∃ kvs, o = kd.ho kvs ∧ DV F kvs d) := fun p F h ⟨kvs, e, x⟩ => ⟨_, e, kvs, rfl, x⟩
theorem od_one {kd : Kd κ} {d : List (κ × PyData)} {p : Addr} {F : Hp} {kvs : List (κ × L2.V)} (h : DV F kvs d) : ∀ F', Same F F' → od kd d p F' (one p (kd.ho kvs)) := fun _ g => ⟨kvs, rfl, dv_mono g h⟩
theorem dq_pd {F : Hp} {kd : Kd κ} {a : Addr} {ob : Obj} {kvs : List (κ × L2.V)} {d : List (κ × PyData)} (h : F a = some (.frz ob (kd.ho kvs))) (k : DV F kvs d) : Dq F (.ref a) (kd.pd d) := by
  have kk := dv_keys k
  have kv := dv_vals k
  cases kd with
  | fl f =>
    refine .dctK h ?_ ?_
    · rw [List.map_map, List.map_map]
      have : (kvs.map (·.1)).map (fun x => kPD (f x)) = (d.map (·.1)).map (fun x => kPD (f x)) := by rw [kk]
      rw [List.map_map, List.map_map] at this
      exact this
    · rw [List.map_map, List.map_map]
      exact kv
  | tu f =>
    refine .dctT h ?_ ?_
    · rw [List.map_map, List.map_map]
      have : (kvs.map (·.1)).map (fun x => PyData.tuple ((f x).map kPD)) = (d.map (·.1)).map (fun x => PyData.tuple ((f x).map kPD)) := by rw [kk]
      rw [List.map_map, List.map_map] at this
      exact this
    · rw [List.map_map, List.map_map]
      exact kv
theorem dv_of {F : Hp} {κ' : Type} {f : κ → κ'} {g : κ' → PyData} (hg : ∀ a b, g a = g b → a = b) : ∀ {kvs : List (κ' × L2.V)} {d : List (κ × PyData)}, kvs.map (fun p => g p.1) = d.map (fun p => g (f p.1)) → DqAll F (kvs.map (·.2)) (d.map (·.2)) → ∃ kvs' : List (κ × L2.V), kvs = kvs'.map (fun p => (f p.1, p.2)) ∧ DV F kvs' d
  | [], [], _, _ => ⟨[], rfl, .nil⟩
  | [], _ :: _, h, _ => nomatch h
  | _ :: _, [], h, _ => nomatch h
  | (a, v) :: kvs, (k, x) :: d, h, hv => by
    rw [List.map_cons, List.map_cons] at h hv
    injection h with h1 h2
    cases hv with
    | cons v1 v2 =>
      obtain ⟨r, rfl, hr⟩ := dv_of hg h2 v2
      exact ⟨(k, v) :: r, by rw [List.map_cons, ← hg _ _ h1], .cons v1 hr⟩
theorem pd_dq {F : Hp} {kd : Kd κ} {v : L2.V} {d : List (κ × PyData)} (h : Dq F v (kd.pd d)) : ∃ a ob kvs, v = .ref a ∧ F a = some (.frz ob (kd.ho kvs)) ∧ DV F kvs d := by
  cases kd with
  | fl f =>
    generalize e : (Kd.fl f).pd d = x at h
    cases h with
    | dctK h1 h2 h3 =>
      injection e with e
      subst e
      rw [List.map_map] at h2 h3
      obtain ⟨r, rfl, hr⟩ := dv_of (f := f) (g := kPD) (fun _ _ => kPD_inj) h2 h3
      exact ⟨_, _, r, rfl, h1, hr⟩
    | dctT h1 h2 h3 =>
      injection e with e
      cases d with
      | nil => cases e
      | cons p d =>
        rw [List.map_cons] at e
        injection e with e _
        injection e with e _
        cases hk : f p.1 <;> rw [hk] at e <;> cases e
    | _ => cases e
  | tu f =>
    generalize e : (Kd.tu f).pd d = x at h
    cases h with
    | dctT h1 h2 h3 =>
      injection e with e
      injection e with _ e
      subst e
      rw [List.map_map] at h2 h3
      obtain ⟨r, rfl, hr⟩ := dv_of (f := f) (g := fun l : List Key => PyData.tuple (l.map kPD)) (fun a b z => kPDs_inj (by injection z)) h2 h3
      exact ⟨_, _, r, rfl, h1, hr⟩
    | @dctK a ob kvs ps h1 h2 h3 =>
      injection e with e
      subst e
      cases kvs with
      | nil => cases h2
      | cons p kvs =>
        rw [List.map_cons, List.map_cons] at h2
        injection h2 with e _
        cases hk : p.1 <;> rw [hk] at e <;> cases e
    | _ => cases e
theorem frb_od {kd : Kd κ} {d : List (κ × PyData)} : Frb (od kd d) (kd.pd d) := fun p F os H Q ow q => by
  obtain ⟨fp, o, ho, _, kvs, rfl, hv⟩ := ow.atU uni_od
  refine .lock p _ ho (kd.mut kvs) fun ob => .now ?_
  have o1 : Ow F ((p, fun q G h => h = one q (.frz ob (kd.ho kvs)) ∧ DV G kvs d) :: os) (upd H p (.frz ob (kd.ho kvs))) := ow.putU uni_od fun G g => ⟨rfl, dv_mono g hv⟩
  obtain ⟨o', ho', ⟨rfl, hv'⟩, s, o2⟩ := o1.freezeU (r := fun G o => o = .frz ob (kd.ho kvs) ∧ DV G kvs d) fun q G h ⟨e, x⟩ => ⟨_, e, rfl, x⟩
  exact q _ _ s o2 (dq_pd upd_same (dv_mono s hv'))
end
end Z
namespace Z
open PySem PySem.Spec PyProof.Rows L2
abbrev eM {κ β : Type} (e : β → PyData) (w : List (κ × β)) : List (κ × PyData) := w.map fun p => (p.1, e p.2)
abbrev eD {κ β : Type} (kd : Kd κ) (e : β → PyData) : List (κ × β) → PyData := fun w => kd.pd (eM e w)
section
variable {κ β : Type} {kd : Kd κ} {enc : β → PyData}
def KeyV (kd : Kd κ) (k : κ) (F : Hp) (y : L2.V) : Prop := match kd with
  | .fl f => y = kV (f k)
  | .tu f => ∃ b, y = .ref b ∧ F b = some (.tup ((f k).map kV))
theorem dq_key {F : Hp} : ∀ {k : Key} {v : L2.V}, Dq F v (kPD k) → v = kV k
  | .inl _, _, h => by cases h; rfl
  | .inr _, _, h => by cases h; rfl
theorem dqall_keys {F : Hp} : ∀ {ks : List Key} {vs : List L2.V}, DqAll F vs (ks.map kPD) → vs = ks.map kV
  | [], _, h => by cases h; rfl
  | k :: ks, _, h => by
    cases h with
    | cons h1 h2 => rw [dq_key h1, dqall_keys h2, List.map_cons]
theorem key_val {k : κ} {F : Hp} {y : L2.V} (h : Cl (dat (kd.ek k)) F y) : KeyV kd k F y := by
  have q := h.now
  cases kd with
  | fl f => exact dq_key q
  | tu f =>
    have q : Dq F y (.tuple ((f k).map kPD)) := q
    cases q with
    | tup a b => exact ⟨_, rfl, by rw [← dqall_keys b]; exact a⟩
variable [DecidableEq κ]
theorem dget_of (hi : kd.Inj) {F H : Hp} (s : Same F H) {a : Addr} {kvs : List (κ × L2.V)} {k : κ} {y : L2.V} (e : Rd H a (kd.ho kvs)) (hk : KeyV kd k F y) : DGet H a y (dGet kvs k) := by
  cases kd with
  | fl f => exact .inl ⟨_, f k, e, hk, (dGet_key hi k kvs).symm⟩
  | tu f =>
    obtain ⟨b, rfl, hb⟩ := hk
    exact .inr ⟨_, f k, b, e, rfl, s _ _ hb, (dGet_key hi k kvs).symm⟩
theorem dput_of (hi : kd.Inj) {F H : Hp} (s : Same F H) {a : Addr} {kvs : List (κ × L2.V)} {k : κ} {y v : L2.V} (e : H a = some (kd.ho kvs)) (hk : KeyV kd k F y) (hl : kvs.length < sizeLine) : DPut H a y v (upd H a (kd.ho (dPut kvs k v))) := by
  cases kd with
  | fl f => exact .inl ⟨_, f k, e, hk, by rw [List.length_map]; exact hl, by rw [putK_dPut, dPut_key hi]; rfl⟩
  | tu f =>
    obtain ⟨b, rfl, hb⟩ := hk
    exact .inr ⟨_, f k, b, e, rfl, s _ _ hb, by rw [List.length_map]; exact hl, by rw [putK_dPut, dPut_key hi]; rfl⟩
theorem isD_of {H : Hp} {a : Addr} {kvs : List (κ × L2.V)} (e : Rd H a (kd.ho kvs)) : IsD H a := by
  cases kd with
  | fl f => exact .inl ⟨_, e⟩
  | tu f => exact .inr ⟨_, e⟩
end
theorem Bd.u1 {X : Cx} {N V G : List Str} {n : Nat} (B : Bd X N V G n) : X.A.units + 1 < cLine := by
  have := B.room.units
  omega
section
variable {κ β : Type}
def RdD (kd : Kd κ) (φ : VP) (os : Os) (d : List (κ × PyData)) : Prop := ∀ F H v, Ow F os H → Cl φ F v → ∃ a kvs, v = .ref a ∧ Rd H a (kd.ho kvs) ∧ DV F kvs d
theorem rdd_dat {kd : Kd κ} {os : Os} {d : List (κ × PyData)} : RdD kd (dat (kd.pd d)) os d := fun F H v ow c => by
  obtain ⟨a, ob, kvs, rfl, h1, h2⟩ := pd_dq c.now
  exact ⟨a, kvs, rfl, .inr ⟨ob, ow.ex _ _ h1⟩, h2⟩
theorem rdd_own {kd : Kd κ} {os : Os} {d : List (κ × PyData)} {p : Addr} (k : Nat) (h : os[k]? = some (p, od kd d)) : RdD kd (own p) os d := fun F H v ow c => by
  obtain ⟨_, o, ho, _, kvs, rfl, hv⟩ := (ow.perm (perm_at h)).atU uni_od
  exact ⟨p, kvs, c.now, .inl ho, hv⟩
/-- at q stands an entry of one thing, of the content d; another content may take its place -/
def WrT {γ : Type} (os : Os) (q : Addr) (f : γ → Ent) (d : γ) (os' : γ → Os) : Prop := ∀ F H (r : Hp → HO → Prop), Uni (f d) r → Ow F os H → F q = none ∧ ∃ o, H q = some o ∧ f d q F (one q o) ∧ r F o ∧
  ∀ o' d', (∀ xs, o' ≠ .tup xs) → (∀ F', Same F F' → f d' q F' (one q o')) → Ow F (os' d') (upd H q o')
theorem wr_flat {γ : Type} {os : Os} {q : Addr} {f : γ → Ent} {d : γ} (j : Nat) (h : os[j]? = some (q, f d)) : WrT os q f d (fun d' => os.set j (q, f d')) := fun F H r u ow => by
  have o1 := ow.perm (perm_at h)
  obtain ⟨a, o, b, c, d⟩ := o1.atU u
  exact ⟨a, o, b, c, d, fun o' e' nt he => (o1.putU u he nt).perm (perm_set h)⟩
abbrev odT (kd : Kd κ) (e : β → PyData) : List (κ × β) → Ent := fun w => od kd (eM e w)
theorem rdd_wr {kd : Kd κ} {enc : β → PyData} {os : Os} {d : List (κ × β)} {q : Addr} {os' : List (κ × β) → Os} (h : WrT os q (odT kd enc) d os') : RdD kd (own q) os (eM enc d) := fun F H v ow c => by
  obtain ⟨_, o, ho, _, ⟨kvs, rfl, hv⟩, _⟩ := h F H _ uni_od ow
  exact ⟨q, kvs, c.now, .inl ho, hv⟩
end
section
variable {X : Cx} {es es' : List Slot} {os os1 os2 os3 : Os} {F0 : Hp} {rest : List Stmt} {D : Ends} {N V G W : List Str} {n i vi gi : Nat} {p pos apos cpos : Pos} {e a b c : Expr} {φ : VP} {κ β : Type} [DecidableEq κ] {kd : Kd κ} {enc : β → PyData} {w : List (κ × β)} {k : κ} {x : β}
theorem EN.exF {m : Ent} {d : PyData} (h : EN X es os e m os1) (f : Frb m d) : EX X es os e (dat d) os1 := fun F σ H Q ow sl q =>
  we_lk (h F σ H _ ow sl fun F' H' p e o => f p F' os1 H' _ o fun F2 H2 s o2 dq => q F2 H2 _ (e.trans s) o2 (cl_dat dq))
theorem sx_frzF {j : Nat} {q : Addr} {m : Ent} {d : PyData} (f : Frb m d) (hj : os[j]? = some (q, m)) (hi : es[i]? = some (sl (own q))) (h : SX X (es.set i (sl (dat d))) (os.eraseIdx j) F0 rest D) : SX X es os F0 rest D := fun F σ H s ow sl =>
  wps_lk (f q F _ H _ (ow.perm (perm_at hj)) fun F2 H2 s2 o2 dq => by
    obtain ⟨v, ev, cv⟩ := sl.val hi
    obtain rfl : v = .ref q := cv.now
    have sl2 := (sl.mono s2).put (i := i) (v := .ref q) (φ := dat d) (cl_dat dq)
    have e2 : σ.set i (some (.ref q)) = σ := by
      refine List.ext_getElem? fun m => ?_
      by_cases hm : i = m
      · subst hm
        rw [List.getElem?_set_self (List.getElem?_eq_some_iff.mp ev).1, ev]
      · rw [List.getElem?_set_ne hm]
    rw [e2] at sl2
    exact h F2 σ H2 (s.trans s2) o2 sl2)
theorem ex_dget (hi : kd.Inj) (hk : dGet w k = some x) (B : Bd X N W G n) (hr : RdD kd φ os2 (eM enc w)) (ha : EX X es os a φ os1) (hb : EX X es os1 b (dat (kd.ek k)) os2) (hs : NoSl b := by intro _ _; rfl) : EX X es os (.Subscript a b pos) (dat (enc x)) os2 := fun F σ H Q ow sl q =>
  we_of (pe_dget B.u1 pe_u pe_u hs) (ha F σ H _ ow sl fun F1 H1 v e1 o1 c1 => hb F1 σ H1 _ o1 (sl.mono e1) fun F2 H2 y e2 o2 c2 => by
    obtain ⟨p, kvs, rfl, rd, dv⟩ := hr F2 H2 v o2 (c1.mono e2)
    obtain ⟨u, hu, hd⟩ := (dv_get k dv).1 (enc x) (by rw [dGet_map, hk]; rfl)
    exact ⟨p, u, rfl, hu ▸ dget_of hi o2.ex rd (key_val c2), q F2 H2 u (e1.trans e2) o2 (cl_dat hd)⟩)
theorem dget_some (hi : kd.Inj) {F H : Hp} {p : Addr} {kvs : List (κ × L2.V)} (dv : DV F kvs (eM enc w)) : (dGet kvs k).isSome = (dGet w k).isSome := by
  cases h : dGet w k with
  | none =>
    rw [(dv_get k dv).2 (by rw [dGet_map, h]; rfl)]
    rfl
  | some x =>
    obtain ⟨u, hu, _⟩ := (dv_get k dv).1 (enc x) (by rw [dGet_map, h]; rfl)
    rw [hu]
    rfl
theorem dq_opt {F : Hp} {kvs : List (κ × L2.V)} (dv : DV F kvs (eM enc w)) : Dq F ((dGet kvs k).getD .non) (eO enc (dGet w k)) := by
  cases h : dGet w k with
  | none =>
    rw [(dv_get k dv).2 (by rw [dGet_map, h]; rfl)]
    exact .non
  | some x =>
    obtain ⟨u, hu, hd⟩ := (dv_get k dv).1 (enc x) (by rw [dGet_map, h]; rfl)
    rw [hu]
    exact hd
/-- d.get(k) -/
theorem ex_dget1 (hi : kd.Inj) (B : Bd X N W G n) (hr : RdD kd φ os1 (eM enc w)) (hr2 : RdD kd φ os2 (eM enc w)) (ha : EX X es os a φ os1) (hb : EX X es os1 b (dat (kd.ek k)) os2) (hbase : attributeBase a "get" X.env (eval a X.env) = eval a X.env := by rfl) (hline : (apos.endLine == cpos.line) = true := by rfl)
    (htr : backTo cpos (starEach [b] X.env) = [(false, eval b X.env)] := by rfl) : EX X es os (.Call (.Attribute a "get" apos) [b] [] cpos) (dat (eO enc (dGet w k))) os2 := fun F σ H Q ow sl q =>
  we_of (pe_dget1 B.u1 pe_u pe_u ⟨hbase, by rw [htr]; rfl, hline, htr⟩) (ha F σ H _ ow sl fun F1 H1 v e1 o1 c1 => by
    obtain ⟨p, kvs, rfl, rd, dv⟩ := hr F1 H1 v o1 c1
    refine ⟨p, rfl, isD_of rd, hb F1 σ H1 _ o1 (sl.mono e1) fun F2 H2 y e2 o2 c2 => ?_⟩
    obtain ⟨p', kvs', ep, rd', dv'⟩ := hr2 F2 H2 _ o2 (c1.mono e2)
    cases ep
    exact ⟨_, dget_of hi o2.ex rd' (key_val c2), q F2 H2 _ (e1.trans e2) o2 (cl_dat (dq_opt dv'))⟩)
/-- {} -/
theorem en_dnew : EN X es os (.Dict [] [] pos) (od kd []) os := fun F σ H Q ow sl q => by
  cases kd with
  | fl f => exact we_of pe_dnewK fun p hp => q F _ p (Same.refl F) (ow.new hp (od_one (kd := .fl f) .nil))
  | tu f => exact we_of pe_dnewT fun p hp => q F _ p (Same.refl F) (ow.new hp (od_one (kd := .tu f) .nil))
/-- len(d), keys ints or texts -/
def rLenD : List L2.V → Hp → VK → Prop := fun xs H Q => ∃ (p : Addr) (kvs : List (Key × L2.V)), xs = [.ref p] ∧ Rd H p (.dK kvs) ∧ Q (.int kvs.length) H
theorem call_len_d : CallR X (.builtin "len") rLenD := by
  intro pins s σ H vs us Q I r h
  obtain ⟨p, kvs, rfl, rd, q⟩ := h
  obtain ⟨u, rfl, ru⟩ := vals1 r
  obtain rfl : u = Value.ref p := ru
  exact d_len I rd fun t s' I' => ⟨.int _, H, I', ⟨_, rfl⟩, q⟩
theorem rc_lenD {f : κ → Key} (hr : RdD (.fl f) φ os (eM enc w)) : RCX rLenD [φ] os (dat (.int (w.length : Int))) os := fun F H vs Q ow c q => by
  obtain ⟨v, rfl, h⟩ := cla1 c
  obtain ⟨p, kvs, rfl, rd, dv⟩ := hr F H v ow h
  refine ⟨p, _, rfl, rd, ?_⟩
  have : (kvs.map fun z => (f z.1, z.2)).length = w.length := by rw [List.length_map, dv_len dv, List.length_map]
  rw [this]
  exact q F H _ (Same.refl F) ow (cl_dat (.int _))
theorem dput_enc {F : Hp} {kvs : List (κ × L2.V)} {v : L2.V} (dv : DV F kvs (eM enc w)) (hd : Dq F v (enc x)) : DV F (dPut kvs k v) (eM enc (dPut w k x)) := by
  have := dv_put k hd dv
  rw [dPut_map] at this
  exact this
/-- a[b] = e -/
theorem sx_dput {w' : List (κ × β)} {tpos : Pos} {q : Addr} {os' : List (κ × β) → Os} (hi : kd.Inj) (hp : dPutO w k x = some w') (B : Bd X N W G n) (he : EX X es os e (dat (enc x)) os1) (ho : EX X es os1 a (own q) os2) (hb : EX X es os2 b (dat (kd.ek k)) os3) (hw : WrT os3 q (odT kd enc) w os')
    (h : SX X es (os' w') F0 rest D) (hs : swapsWith e (some (.Subscript a b tpos)) pos.line X.env = pure false := by rfl) : SX X es os F0 (.Assign [.Subscript a b tpos] e pos :: rest) D := fun F σ H s ow sl => by
  unfold dPutO at hp
  split at hp
  · rename_i hl
    cases hp
    refine wps_cons (ws_of (ps_dput B.u1 pe_u pe_u pe_u hs) (he F σ H _ ow sl fun F1 H1 v e1 o1 c1 => ho F1 σ H1 _ o1 (sl.mono e1) fun F2 H2 u e2 o2 c2 => hb F2 σ H2 _ o2 (sl.mono (e1.trans e2)) fun F3 H3 y e3 o3 c3 => ?_))
    obtain rfl : u = .ref q := c2.now
    obtain ⟨_, o, hq, _, ⟨kvs, rfl, dv⟩, z⟩ := hw F3 H3 _ uni_od o3
    have e := (e1.trans e2).trans e3
    refine ⟨q, _, rfl, dput_of hi o3.ex hq (key_val c3) (by rw [dv_len dv, List.length_map]; exact hl), ?_⟩
    exact h F3 σ _ (s.trans e) (z _ _ (Kd.ntup _ _) (od_one (dput_enc dv ((c1.mono e2).mono e3).now))) (sl.mono e)
  · cases hp
/-- a.pop(b), keys ints or texts -/
theorem ex_dpop {f : κ → Key} {r : β × List (κ × β)} {q : Addr} {os' : List (κ × β) → Os} (hi : (Kd.fl f).Inj) (hp : dPopO w k = some r) (ho : EX X es os a (own q) os1) (h0 : RdD (.fl f) (own q) os1 d0) (hb : EX X es os1 b (dat ((Kd.fl f).ek k)) os2) (hw : WrT os2 q (odT (.fl f) enc) w os')
    (hbase : attributeBase a "pop" X.env (eval a X.env) = eval a X.env := by rfl) (hline : (apos.endLine == cpos.line) = true := by rfl) (htr : backTo cpos (starEach [b] X.env) = [(false, eval b X.env)] := by rfl) :
    EX X es os (.Call (.Attribute a "pop" apos) [b] [] cpos) (dat (enc r.1)) (os' r.2) := fun F σ H Q ow sl qq => by
  unfold dPopO at hp
  cases hg : dGet w k with
  | none =>
    rw [hg] at hp
    cases hp
  | some x =>
    rw [hg] at hp
    cases hp
    refine we_of (pe_dpop1 pe_u pe_u ⟨hbase, by rw [htr]; rfl, hline, htr⟩) (ho F σ H _ ow sl fun F1 H1 v e1 o1 c1 => ?_)
    obtain ⟨p, kvs0, rfl, rd, _⟩ := h0 F1 H1 v o1 c1
    obtain rfl : p = q := by
      have := c1.now
      cases this
      rfl
    refine ⟨p, rfl, isD_of (kd := .fl f) rd, hb F1 σ H1 _ o1 (sl.mono e1) fun F2 H2 y e2 o2 c2 => ?_⟩
    obtain ⟨_, o, hq, _, ⟨kvs, rfl, dv⟩, z⟩ := hw F2 H2 _ uni_od o2
    obtain ⟨u, hu, hd⟩ := (dv_get k dv).1 (enc x) (by rw [dGet_map, hg]; rfl)
    refine ⟨_, f k, u, hq, key_val (kd := .fl f) c2, ?_, ?_⟩
    · rw [valV_dGet, dGet_key hi]
      exact hu
    · have e5 : dropK (kvs.map fun p => (f p.1, p.2)) (f k) = (dDel kvs k).map fun p => (f p.1, p.2) := dDel_key hi k kvs
      rw [e5]
      have d5 := dv_del k dv
      rw [dDel_map] at d5
      exact qq F2 _ u (e1.trans e2) (z _ _ (Kd.ntup (.fl f) _) (od_one (kd := .fl f) d5)) (cl_dat hd)
end
end Z
namespace Z
open PySem PySem.Spec PyProof.Rows L2
def uniH : List Hp → Hp
  | [] => fun _ => none
  | h :: hs => ov h (uniH hs)
theorem uniH_some : ∀ {l : List Hp} {a : Addr} {o : HO}, uniH l a = some o → ∃ h ∈ l, h a = some o
  | [], _, _, e => nomatch e
  | h :: l, a, o, e => by
    unfold uniH at e
    cases q : h a with
    | some u =>
      rw [ov_some q] at e
      exact ⟨h, List.mem_cons_self, q.trans e⟩
    | none =>
      rw [ov_none q] at e
      obtain ⟨k, hk, e2⟩ := uniH_some e
      exact ⟨k, List.mem_cons_of_mem _ hk, e2⟩
theorem uniH_same : ∀ {l : List Hp} {h : Hp}, l.Pairwise Ap → h ∈ l → Same h (uniH l)
  | [], _, _, m => nomatch m
  | k :: l, h, p, m => by
    obtain ⟨p1, p2⟩ := List.pairwise_cons.mp p
    intro a o e
    unfold uniH
    rcases List.mem_cons.mp m with rfl | m
    · exact ov_some e
    · have : k a = none := (p1 h m).symm a (by rw [e]; simp)
      rw [ov_none this]
      exact uniH_same p2 m a o e
theorem uniH_none {l : List Hp} {a : Addr} (h : ∀ k ∈ l, k a = none) : uniH l a = none := by
  cases e : uniH l a with
  | none => rfl
  | some o =>
    obtain ⟨k, hk, q⟩ := uniH_some e
    rw [h k hk] at q
    cases q
def onl (qs : List Addr) (es : List Ent) : Ent := fun p F h => ∃ hs, h = uniH (one p (.lst (qs.map .ref)) :: hs) ∧ Pcs F (qs.zip es) hs ∧ (one p (.lst (qs.map .ref)) :: hs).Pairwise Ap ∧ (∀ k ∈ hs, NT k) ∧ qs.length = es.length
def onx (es : List Ent) : Ent := fun p F h => ∃ qs, onl qs es p F h
def orf (qs : List Addr) : Ent := fun p _ h => h = one p (.lst (qs.map .ref))
theorem uni_orf {qs : List Addr} : Uni (orf qs) (fun _ o => o = .lst (qs.map .ref)) := fun p F h e => ⟨_, e, rfl⟩
theorem onl_mono {qs : List Addr} {es : List Ent} {p : Addr} {F F' h : Hp} (e : Same F F') (x : onl qs es p F h) : onl qs es p F' h := by
  obtain ⟨hs, a, b, c, d, l⟩ := x
  exact ⟨hs, a, b.mono e, c, d, l⟩
theorem pcs_app {F : Hp} : ∀ {os os' : Os} {hs hs' : List Hp}, Pcs F os hs → Pcs F os' hs' → Pcs F (os ++ os') (hs ++ hs')
  | _, _, _, _, .nil, h => h
  | _, _, _, _, .cons h1 h2, h => .cons h1 (pcs_app h2 h)
theorem pcs_split {F : Hp} : ∀ {os os' : Os} {l : List Hp}, Pcs F (os ++ os') l → ∃ hs hs', l = hs ++ hs' ∧ Pcs F os hs ∧ Pcs F os' hs'
  | [], os', l, h => ⟨[], l, rfl, .nil, h⟩
  | q :: os, os', _, .cons h1 h2 => by
    obtain ⟨hs, hs', rfl, a, b⟩ := pcs_split h2
    exact ⟨_ :: hs, hs', rfl, .cons h1 a, b⟩
section
variable {F H : Hp} {os : Os} {p : Addr} {qs : List Addr} {es : List Ent}
theorem Ow.opn (h : Ow F ((p, onl qs es) :: os) H) : Ow F ((p, orf qs) :: (qs.zip es ++ os)) H ∧ qs.length = es.length := by
  obtain ⟨l, a, b, c⟩ := h.ps
  cases a with
  | @cons _ _ k r h1 h2 =>
    obtain ⟨hs, rfl, p1, pw, nt, hl⟩ := h1 F (Same.refl F)
    obtain ⟨c1, c2⟩ := List.pairwise_cons.mp c
    obtain ⟨s, x, _⟩ := b _ List.mem_cons_self
    have sub : ∀ g ∈ one p (.lst (qs.map .ref)) :: hs, Same g H ∧ Ap F g := fun g hg =>
      ⟨(uniH_same pw hg).trans s, fun z hz => (uniH_same pw hg).free (x z hz)⟩
    have far : ∀ g ∈ one p (.lst (qs.map .ref)) :: hs, ∀ t ∈ r, Ap g t := fun g hg t ht z hz => by
      refine c1 t ht z ?_
      cases e : g z with
      | none => exact (hz e).elim
      | some o => rw [uniH_same pw hg z o e]; simp
    refine ⟨⟨h.ex, one p (.lst (qs.map .ref)) :: (hs ++ r), .cons (fun _ _ => rfl) (pcs_app p1 h2), fun g hg => ?_, ?_⟩, hl⟩
    · rcases List.mem_cons.mp hg with rfl | hg
      · exact ⟨(sub _ List.mem_cons_self).1, (sub _ List.mem_cons_self).2, nt_one (fun _ z => by cases z)⟩
      · rcases List.mem_append.mp hg with hg | hg
        · exact ⟨(sub g (List.mem_cons_of_mem _ hg)).1, (sub g (List.mem_cons_of_mem _ hg)).2, nt g hg⟩
        · exact b g (List.mem_cons_of_mem _ hg)
    · rw [← List.cons_append]
      exact List.pairwise_append.mpr ⟨pw, c2, fun g hg t ht => far g hg t ht⟩
theorem Ow.cls (h : Ow F ((p, orf qs) :: (qs.zip es ++ os)) H) (hl : qs.length = es.length) : Ow F ((p, onl qs es) :: os) H := by
  obtain ⟨l, a, b, c⟩ := h.ps
  cases a with
  | @cons _ _ k r h1 h2 =>
    obtain rfl : k = one p (.lst (qs.map .ref)) := h1 F (Same.refl F)
    obtain ⟨hs, r', rfl, p1, p2⟩ := pcs_split h2
    rw [← List.cons_append] at c
    obtain ⟨c1, c2, c3⟩ := List.pairwise_append.mp c
    have bb : ∀ g ∈ one p (.lst (qs.map .ref)) :: hs, Same g H ∧ Ap F g ∧ NT g := fun g hg => b g (by
      rcases List.mem_cons.mp hg with rfl | hg
      · exact List.mem_cons_self
      · exact List.mem_cons_of_mem _ (List.mem_append_left _ hg))
    refine ⟨h.ex, uniH (one p (.lst (qs.map .ref)) :: hs) :: r', .cons (fun F' s => ⟨hs, rfl, p1.mono s, c1, fun k hk => (bb k (List.mem_cons_of_mem _ hk)).2.2, hl⟩) p2, fun g hg => ?_, List.pairwise_cons.mpr ⟨fun t ht => ?_, c2⟩⟩
    · rcases List.mem_cons.mp hg with rfl | hg
      · refine ⟨fun z o e => ?_, fun z hz => uniH_none fun k hk => (bb k hk).2.1 z hz, fun z xs e => ?_⟩
        · obtain ⟨k, hk, q⟩ := uniH_some e
          exact (bb k hk).1 z o q
        · obtain ⟨k, hk, q⟩ := uniH_some e
          exact (bb k hk).2.2 z xs q
      · exact b g (List.mem_cons_of_mem _ (List.mem_append_right _ hg))
    · intro z hz
      cases e : uniH (one p (.lst (qs.map .ref)) :: hs) z with
      | none => exact (hz e).elim
      | some o =>
        obtain ⟨k, hk, q⟩ := uniH_some e
        exact c3 k hk t ht z (by rw [q]; simp)
theorem Ow.opx (h : Ow F ((p, onx es) :: os) H) : ∃ qs, Ow F ((p, onl qs es) :: os) H := by
  obtain ⟨l, a, b, c⟩ := h.ps
  cases a with
  | cons h1 h2 =>
    obtain ⟨qs, x⟩ := h1 F (Same.refl F)
    exact ⟨qs, h.ex, _, .cons (fun F' s => onl_mono s x) h2, b, c⟩
theorem Ow.clx (h : Ow F ((p, onl qs es) :: os) H) : Ow F ((p, onx es) :: os) H := h.weak fun _ _ x => ⟨qs, x⟩
end
def ixD (n : Nat) (z : Int) : Nat := (ixN n z).getD 0
/-- the address at the place z -/
def qa (qs : List Addr) (z : Int) : Addr := qs.getD (ixD qs.length z) 0
def setI {α : Type} (xs : List α) (z : Int) (x : α) : List α := xs.set (ixD xs.length z) x
theorem setI_len {α : Type} (xs : List α) (z : Int) (x : α) : (setI xs z x).length = xs.length := by
  unfold setI
  rw [List.length_set]
theorem idx_at {α : Type} {xs : List α} {z : Int} {x : α} (h : idx xs z = some x) : ixN xs.length z = some (ixD xs.length z) ∧ xs[ixD xs.length z]? = some x := by
  unfold idx atI at h
  unfold ixD
  cases e : ixN xs.length z with
  | none => rw [e] at h; cases h
  | some j =>
    rw [e] at h
    exact ⟨rfl, h⟩
theorem zip_at {α β : Type} : ∀ {qs : List α} {es : List β} {i : Nat} {q : α} {e : β}, qs[i]? = some q → es[i]? = some e → (qs.zip es)[i]? = some (q, e)
  | [], _, _, _, _, h, _ => by simp at h
  | _ :: _, [], _, _, _, _, h => by simp at h
  | a :: qs, b :: es, 0, q, e, h, k => by simp at h k; subst h; subst k; rfl
  | a :: qs, b :: es, i + 1, q, e, h, k => zip_at (i := i) (qs := qs) (es := es) (by simpa using h) (by simpa using k)
theorem zip_set {α β : Type} : ∀ {qs : List α} {es : List β} {i : Nat} {q : α} {e' : β}, qs[i]? = some q → (qs.zip es).set i (q, e') = qs.zip (es.set i e')
  | [], _, _, _, _, h => by simp at h
  | _ :: _, [], _, _, _, _ => by simp
  | a :: qs, b :: es, 0, q, e', h => by simp at h; subst h; rfl
  | a :: qs, b :: es, i + 1, q, e', h => by
    rw [List.zip_cons_cons, List.set_cons_succ, List.set_cons_succ, List.zip_cons_cons, zip_set (by simpa using h)]
theorem getD_at {α : Type} {l : List α} {i : Nat} {d : α} (h : i < l.length) : l[i]? = some (l.getD i d) := by
  rw [List.getD_eq_getElem?_getD, List.getElem?_eq_getElem h]
  rfl
section
variable {γ : Type} {os : Os} {p : Addr} {qs : List Addr} {f : γ → Ent} {ws : List γ} {z : Int} {d : γ}
/-- the entry at the place z of an owned list of owned things -/
theorem wr_nest (j : Nat) (h : os[j]? = some (p, onl qs (ws.map f))) (hk : idx ws z = some d) : WrT os (qa qs z) f d (fun d' => os.set j (p, onl qs ((setI ws z d').map f))) := fun F H r u ow => by
  obtain ⟨o1, hl⟩ := (ow.perm (perm_at h)).opn
  rw [List.length_map] at hl
  obtain ⟨k1, k2⟩ := idx_at hk
  have hi : ixD ws.length z < ws.length := (List.getElem?_eq_some_iff.mp k2).1
  have hq : qs[ixD ws.length z]? = some (qa qs z) := by
    unfold qa
    rw [hl]
    exact getD_at (by rw [hl]; exact hi)
  have he : (ws.map f)[ixD ws.length z]? = some (f d) := by rw [List.getElem?_map, k2]; rfl
  have hz : ((p, orf qs) :: (qs.zip (ws.map f) ++ os.eraseIdx j))[ixD ws.length z + 1]? = some (qa qs z, f d) := by
    rw [List.getElem?_cons_succ, List.getElem?_append_left (by rw [List.length_zip, List.length_map]; omega)]
    exact zip_at hq he
  have o2 := o1.perm (perm_at hz)
  obtain ⟨a, o, b, c, e⟩ := o2.atU u
  refine ⟨a, o, b, c, e, fun o' d' nt hd => ?_⟩
  have o3 := (o2.putU u hd nt).perm (perm_set hz)
  rw [List.set_cons_succ, List.set_append_left _ _ (by rw [List.length_zip, List.length_map]; omega), zip_set hq] at o3
  have o4 := o3.cls (by rw [List.length_set, List.length_map]; exact hl)
  have e5 : (ws.map f).set (ixD ws.length z) (f d') = (setI ws z d').map f := by
    unfold setI
    rw [List.map_set]
  rw [e5] at o4
  exact o4.perm (perm_set h)
/-- read as a list of addresses -/
theorem nest_at {F H : Hp} {os : Os} (j : Nat) (h : os[j]? = some (p, onl qs (ws.map f))) (ow : Ow F os H) : H p = some (.lst (qs.map .ref)) ∧ qs.length = ws.length := by
  obtain ⟨o1, hl⟩ := (ow.perm (perm_at h)).opn
  rw [List.length_map] at hl
  obtain ⟨_, o, ho, _, rfl⟩ := o1.atU uni_orf
  exact ⟨ho, hl⟩
end
section
variable {X : Cx} {es es' : List Slot} {os os1 os2 os3 : Os} {F0 : Hp} {rest : List Stmt} {D : Ends} {N V G W : List Str} {n i vi gi : Nat} {p pos apos cpos : Pos} {e a b c : Expr} {φ : VP} {γ : Type} {f : γ → Ent} {ws : List γ} {d : γ} {z : Int} {q : Addr} {qs : List Addr}
/-- x[i], x a list of owned things -/
theorem ex_nst (j : Nat) (hk : idx ws z = some d) (h : os2[j]? = some (q, onl qs (ws.map f))) (ha : EX X es os a (own q) os1) (hb : EX X es os1 b (dat (.int z)) os2) (hp : PlainIx b := by exact fun _ _ => rfl) : EX X es os (.Subscript a b pos) (own (qa qs z)) os2 := fun F σ H Q ow sl qq =>
  we_of (pe_ix L2.ix_list pe_u pe_u hp) (ha F σ H _ ow sl fun F1 H1 x e1 o1 c1 => hb F1 σ H1 _ o1 (sl.mono e1) fun F2 H2 y e2 o2 c2 => by
    obtain rfl : x = .ref q := c1.now
    obtain ⟨h1, hl⟩ := nest_at j h o2
    obtain ⟨k1, k2⟩ := idx_at hk
    have hi : ixD ws.length z < ws.length := (List.getElem?_eq_some_iff.mp k2).1
    have hq : atI (qs.map L2.V.ref) z = some (.ref (qa qs z)) := by
      unfold atI
      rw [List.length_map, hl, k1]
      show (qs.map L2.V.ref)[ixD ws.length z]? = _
      rw [List.getElem?_map]
      unfold qa
      rw [hl, getD_at (d := (0 : Addr)) (by rw [hl]; exact hi)]
      rfl
    exact ⟨q, _, z, _, rfl, clv_int c2, .of h1, hq, qq F2 H2 _ (e1.trans e2) o2 cl_own⟩)
theorem sx_open (j : Nat) (h : os[j]? = some (q, onx es0)) (k : ∀ qs, SX X es (os.set j (q, onl qs es0)) F0 rest D) : SX X es os F0 rest D := fun F σ H s ow sl => by
  obtain ⟨qs, o1⟩ := (ow.perm (perm_at h)).opx
  exact k qs F σ H s (o1.perm (perm_set h)) sl
theorem sx_clos (j : Nat) (h : os[j]? = some (q, onl qs es0)) (k : SX X es (os.set j (q, onx es0)) F0 rest D) : SX X es os F0 rest D := fun F σ H s ow sl =>
  k F σ H s ((ow.perm (perm_at h)).clx.perm (perm_set h)) sl
theorem At.clos {σ : L2.St} {H : Hp} (j : Nat) (h : os[j]? = some (q, onl qs es0)) (k : At F0 es os σ H) : At F0 es (os.set j (q, onx es0)) σ H := let ⟨F, s, o, l⟩ := k; ⟨F, s, (o.perm (perm_at h)).clx.perm (perm_set h), l⟩
theorem Ow.clos {F H : Hp} (j : Nat) (h : os[j]? = some (q, onl qs es0)) (k : Ow F os H) : Ow F (os.set j (q, onx es0)) H := (k.perm (perm_at h)).clx.perm (perm_set h)
theorem EX.clos (j : Nat) (h : os[j]? = some (q, onl qs es0)) (k : EX X es (os.set j (q, onx es0)) e φ os1) : EX X es os e φ os1 := fun F σ H Q ow sl qq => k F σ H Q (ow.clos j h) sl qq
theorem EN.clos {m : Ent} (j : Nat) (h : os[j]? = some (q, onl qs es0)) (k : EN X es (os.set j (q, onx es0)) e m os1) : EN X es os e m os1 := fun F σ H Q ow sl qq => k F σ H Q (ow.clos j h) sl qq
/-- len of a list of owned things -/
theorem rc_lenO (j : Nat) (h : os[j]? = some (q, onl qs (ws.map f))) : RCX (fun xs H Q => ∃ p ys, xs = [L2.V.ref p] ∧ (SqL X.K H p ys ∨ SqT X.K H p ys) ∧ Q (.int ys.length) H) [own q] os (dat (.int (ws.length : Int))) os := fun F H vs Q ow c qq => by
  obtain ⟨v, rfl, hv⟩ := cla1 c
  obtain rfl : v = .ref q := hv.now
  obtain ⟨h1, hl⟩ := nest_at j h ow
  refine ⟨q, _, rfl, .inl (.of h1), ?_⟩
  rw [List.length_map, hl]
  exact qq F H _ (Same.refl F) ow (cl_dat (.int _))
theorem frz_all {g : γ → PyData} (hf : ∀ w, Frb (f w) (g w)) : ∀ (qs : List Addr) (ws : List γ) (F : Hp) (os : Os) (H : Hp) (Q : Hp → Prop), qs.length = ws.length → Ow F (qs.zip (ws.map f) ++ os) H → (∀ F' H', Same F F' → Ow F' os H' → DqAll F' (qs.map .ref) (ws.map g) → Q H') → Lk Q H
  | [], [], F, os, H, Q, _, ow, k => .now (k F H (Same.refl F) ow .nil)
  | [], _ :: _, _, _, _, _, h, _, _ => by simp at h
  | _ :: _, [], _, _, _, _, h, _, _ => by simp at h
  | q :: qs, w :: ws, F, os, H, Q, hl, ow, k => by
    rw [List.map_cons, List.zip_cons_cons, List.cons_append] at ow
    refine Lk.bind (Q := fun H' => ∃ F', Same F F' ∧ Ow F' (qs.zip (ws.map f) ++ os) H' ∧ Dq F' (.ref q) (g w)) (hf w q F _ H _ ow fun F' H' s o d => ⟨F', s, o, d⟩) ?_
    rintro H1 ⟨F1, s1, o1, d1⟩
    refine frz_all hf qs ws F1 os H1 Q (by simpa using hl) o1 fun F2 H2 s2 o2 d2 => ?_
    exact k F2 H2 (s1.trans s2) o2 (.cons (dq_mono s2 _ _ d1) d2)
theorem frb_onl {g : γ → PyData} (hf : ∀ w, Frb (f w) (g w)) : Frb (onl qs (ws.map f)) (.list (ws.map g)) := fun p F os H Q ow k => by
  obtain ⟨o1, hl⟩ := ow.opn
  rw [List.length_map] at hl
  have o2 : Ow F (qs.zip (ws.map f) ++ (p, orf qs) :: os) H := o1.perm (List.perm_middle.symm)
  refine frz_all hf qs ws F _ H Q hl o2 fun F1 H1 s1 o3 d1 => ?_
  obtain ⟨o, ho, rfl, s2, o4⟩ := o3.freezeU uni_orf
  exact k _ H1 (s1.trans s2) o4 (.lst upd_same (dqall_mono s2 _ _ d1))
end
end Z
namespace Z
open PySem PySem.Spec PyProof.Rows L2
section
variable {X : Cx} {es : List Slot} {os os1 os2 : Os} {F0 : Hp} {rest : List Stmt} {D : Ends} {N V G W : List Str} {n i vi gi : Nat} {x : Str} {p pos apos cpos : Pos} {e a b : Expr} {φ : VP} {κ β : Type} {enc : β → PyData} {w : List (κ × β)}
theorem good_items {f : κ → Key} {F : Hp} {d : Addr} {ob : Obj} {kvs : List (κ × L2.V)} (hf : F d = some (.frz ob (.dK (kvs.map fun p => (f p.1, p.2))))) (dv : DV F kvs (eM enc w)) :
    Good (Iti d ob (kvs.map fun p => (f p.1, p.2))) F w (fun x => dat (.tuple [kPD (f x.1), enc x.2])) anyOs := fun F2 H2 os2 i s ow _ => by
  have hd := ow.ex _ _ (s _ _ hf)
  have hl : (kvs.map fun p => (f p.1, p.2)).length = w.length := by rw [List.length_map, dv_len dv, List.length_map]
  refine ⟨fun h => ⟨hd, by omega⟩, fun x hx => ?_⟩
  have hlt : i < w.length := (List.getElem?_eq_some_iff.mp hx).1
  obtain ⟨v, hv, dq⟩ := dv_at (i := i) (k := x.1) (d := enc x.2) dv (by rw [List.getElem?_map, hx]; rfl)
  refine ⟨⟨hd, by omega⟩, fun u H3 y => ?_⟩
  obtain ⟨T, k, v2, h1, rfl, hT, rfl⟩ := y
  rw [List.getElem?_map, hv] at h1
  cases h1
  have fT := ow.ex.free hT
  refine ⟨_, same_upd fT, ow.frozen hT, cl_dat (.tup upd_same (.cons ?_ (.cons (dq_mono (s.trans (same_upd fT)) _ _ dq) .nil)))⟩
  cases hk : f x.1 with
  | inl j => exact .int j
  | inr t => exact .str t
theorem ix_itemsD {f : κ → Key} {elts : List Expr} {kk : Nat} {tpos : Pos} (he : EX X es os e (dat ((Kd.fl f).pd (eM enc w))) os1) (hbase : attributeBase e "items" X.env (eval e X.env) = eval e X.env := by rfl) (hline : (apos.endLine == cpos.line) = true := by rfl) :
    IX X (.Tuple elts kk tpos) es os (.Call (.Attribute e "items" apos) [] [] cpos) w (fun x => dat (.tuple [kPD (f x.1), enc x.2])) anyOs os1 := fun F σ H R ow sl q =>
  wi_of (pi_items pe_u hbase hline) (he F σ H _ ow sl fun F1 H1 v e1 o1 c1 => by
    obtain ⟨d, ob, kvs, rfl, h1, dv⟩ := pd_dq c1.now
    exact ⟨d, ob, _, rfl, o1.ex _ _ h1, q F1 H1 _ e1 o1 (good_items h1 dv)⟩)
theorem dq_keyV {F : Hp} : ∀ k : Key, Dq F (kV k) (kPD k)
  | .inl j => .int j
  | .inr t => .str t
/-- list(d) -/
def rListK : List L2.V → Hp → VK → Prop := fun xs H Q => ∃ (d : Addr) (kvs : List (Key × L2.V)), xs = [.ref d] ∧ Rd H d (.dK kvs) ∧ ∀ m, H m = none → Q (.ref m) (upd H m (.lst (kvs.map fun p => kV p.1)))
theorem cr_listK (hc : X.calm = true) : CallR X (.type "list") rListK := by
  intro pins s σ H vs us Q I r h
  obtain ⟨d, kvs, rfl, rd, q⟩ := h
  obtain ⟨u, rfl, ru⟩ := vals1 r
  obtain rfl : u = Value.ref d := ru
  obtain ⟨z, hs, vs, rel, dd⟩ := dk_rd I.hok rd
  obtain ⟨o, es, ep, dr⟩ := id dd
  have da : s.heap.DictAt (mixKind X.prog X.w) d vs ep := ⟨o, es, dr⟩
  have K := PySem.W.kdl_dict (prog := X.prog) (w := X.w) (knd := mixKind X.prog X.w) (d := d) (kvs := vs) (ep := ep) hs
  refine PySem.W.kdl_call K (I.ok.hd hc) da (by rw [← rel.length]; exact z) fun h' tk acc c hk hl hi => ?_
  have hf : H s.heap.objs.size = none := I.hok.fresh (Nat.le_refl _)
  refine ⟨.ref s.heap.objs.size, upd H s.heap.objs.size (.lst (kvs.map fun p => kV p.1)), I.laid (t' := tk) hk (Nat.le_refl _) ?_, rfl, q _ hf⟩
  refine ⟨by rw [List.length_map]; exact z, acc.toList, c, ?_, ?_⟩
  · have key : ∀ (kvs : List (Key × L2.V)) (vs : List (Key × Value)) (us : List Value), KV kvs vs → us.length = vs.length → (∀ (i : Nat) (v : Value), us[i]? = some v → ∃ k x, vs[i]? = some (k, x) ∧ (mixKind X.prog X.w).is k v = true) → Vals (kvs.map fun p => kV p.1) us := by
      intro kvs
      induction kvs with
      | nil =>
        intro vs us r hl hp
        cases r
        cases us with
        | nil => exact .nil
        | cons => simp at hl
      | cons kv kvs ih =>
        intro vs us r hl hp
        cases r with
        | @cons _ b _ vs h1 h2 =>
          cases us with
          | nil => simp at hl
          | cons u us =>
            obtain ⟨k, x, e1, e2⟩ := hp 0 u rfl
            simp at e1
            subst e1
            refine .cons ?_ (ih vs us h2 (by simpa using hl) fun i v hv => ?_)
            · have e3 : keyIs k u = true := e2
              have e4 : kv.1 = k := h1.1
              show L2.RelV (kV kv.1) u
              rw [e4]
              exact relV_key e3
            · obtain ⟨k, x, e3, e4⟩ := hp (i + 1) v (by simpa using hv)
              exact ⟨k, x, by simpa using e3, e4⟩
    refine key kvs vs acc.toList rel (by rw [Array.length_toList]; exact hi.1) fun i v hv => ?_
    exact hi.2 i v (by rw [← Array.getElem?_toList]; exact hv)
  · rw [Array.toArray_toList]
    exact hl
theorem rc_listK {f : κ → Key} (hr : RdD (.fl f) φ os (eM enc w)) : RCN rListK [φ] os (ol ((w.map (·.1)).map (Kd.fl f).ek)) os := fun F H vs Q ow c q => by
  obtain ⟨v, rfl, h⟩ := cla1 c
  obtain ⟨a, kvs, rfl, rd, dv⟩ := hr F H _ ow h
  refine ⟨a, _, rfl, rd, fun m hm => q F _ m (Same.refl F) (ow.new hm fun G g => ⟨_, rfl, ?_⟩)⟩
  have hk := dv_keys dv
  rw [List.map_map] at hk
  have hk : kvs.map (·.1) = w.map (·.1) := hk
  rw [← hk, List.map_map, List.map_map]
  have key : ∀ l : List (κ × L2.V), DqAll G (l.map fun p => kV (f p.1)) (l.map fun p => kPD (f p.1)) := fun l => by
    induction l with
    | nil => exact .nil
    | cons x l ih => exact .cons (dq_keyV _) ih
  exact key kvs
end
end Z
namespace Z
open PySem PySem.Spec PyProof.Rows L2
theorem zip_snoc {α β : Type} : ∀ {qs : List α} {es : List β} {q : α} {e : β}, qs.length = es.length → (qs ++ [q]).zip (es ++ [e]) = qs.zip es ++ [(q, e)]
  | [], [], _, _, _ => rfl
  | [], _ :: _, _, _, h => by simp at h
  | _ :: _, [], _, _, h => by simp at h
  | a :: qs, b :: es, q, e, h => by
    rw [List.cons_append, List.cons_append, List.zip_cons_cons, List.zip_cons_cons, zip_snoc (by simpa using h)]
    rfl
theorem Ow.snoc {F H : Hp} {os : Os} {p q : Addr} {qs : List Addr} {es : List Ent} {e : Ent} (h : Ow F ((q, e) :: (p, onl qs es) :: os) H) : H p = some (.lst (qs.map .ref)) ∧ qs.length = es.length ∧
    Ow F ((p, onl (qs ++ [q]) (es ++ [e])) :: os) (upd H p (.lst (qs.map .ref ++ [.ref q]))) := by
  obtain ⟨o1, hl⟩ := (h.perm (List.Perm.swap _ _ _)).opn
  obtain ⟨_, o, ho, _, rfl⟩ := o1.atU uni_orf
  refine ⟨ho, hl, ?_⟩
  have o2 := o1.putU (e' := orf (qs ++ [q])) (o := .lst ((qs ++ [q]).map .ref)) uni_orf fun _ _ => rfl
  rw [List.map_append] at o2
  refine Ow.cls ?_ (by rw [List.length_append, List.length_append, hl]; rfl)
  rw [zip_snoc hl, List.append_assoc]
  exact o2
/-- what a comprehension asks of its target and of what it walks -/
structure CpOk (X : Cx) (es : List Slot) (os : Os) {α : Type} (tg iter : Expr) (scope : Scope) (own : List (Str × Nat)) (xs : List α) (vp : α → VP) (c : Os → Prop) (g : TG) (up : α → List Slot → List Slot) (os0 : Os) : Prop where
  calm : X.calm = true
  nd : X.N.Nodup
  ok : BlkOk X.N X.env.scope scope own
  pg : ∀ X', Fam X scope X' → PG X' tg g
  hv : ∀ j ∈ own.map (·.2), es[j]? = some un
  hid : ∀ σ : L2.St, wipe (wipe σ (own.map (·.2))) (own.map (·.2)) = wipe σ (own.map (·.2))
  hg : ∀ x F σ H v Q os2, Sl F es σ → wipe σ (own.map (·.2)) = σ → Ow F os2 H → Cl (vp x) F v → (∀ σ', Sl F (up x es) σ' → wipe σ' (own.map (·.2)) = σ → Q σ' H) → g v σ H Q
  hz : xs.length < sizeLine
  hi : IX X tg es os iter xs vp c os0
  hc : ∀ q, c (q :: os0)
section
variable {X : Cx} {es : List Slot} {os os0 os1 os2 : Os} {F0 : Hp} {rest : List Stmt} {D : Ends} {N V G W : List Str} {k i j vi gi : Nat} {x y : Str} {p pos tpos : Pos} {e : Expr} {α β κ γ : Type} {scope : Scope} {iter tg elt kx vx : Expr} {ifs : List Expr} {own : List (Str × Nat)} {xs : List α} {vp : α → VP} {c : Os → Prop} {g : TG} {up : α → List Slot → List Slot}
theorem cp_mk1 (B : Bd X N W G k) (hj : N[j]? = some x) (hun : es[j]? = some un) (hblk : blkC X.N X.env.scope scope [(x, j)] = true) (hown : ownB scope X.env.scope x = true) (hz : xs.length < sizeLine) (hi : IX X (.Name x tpos) es os iter xs vp c os0) (hc : ∀ q, c (q :: os0)) :
    CpOk X es os (.Name x tpos) iter scope [(x, j)] xs vp c (gName j) (fun x es => es.set j (sl (vp x))) os0 where
  calm := B.calm
  nd := B.hN ▸ B.nd
  ok := blkOk_by hblk
  pg := fun X' hX => pg_own hX B hj hown
  hv := fun m hm => by
    have e : m = j := by simpa using hm
    rw [e]
    exact hun
  hid := lc_id1
  hg := fun x F σ H v Q os2 sl hw ow c q => lc_gname x F σ H v Q os2 sl hw ow c q
  hz := hz
  hi := hi
  hc := hc
def LnS (f : γ → Ent) (m : α → Option γ) (xs : List α) (ys : List γ) (os0 : Os) (Dl : Addr) (F1 : Hp) (i : Nat) (H : Hp) : Prop :=
  ∃ d r F, mapO m (xs.drop i) = some r ∧ ys = d ++ r ∧ d.length ≤ i ∧ Same F1 F ∧ Ow F ((Dl, onx (d.map f)) :: os0) H
theorem ln_read {f : γ → Ent} {m : α → Option γ} {ys : List γ} (h : CpOk X es os tg iter scope own xs vp c g up os0) (hl : mapO m xs = some ys)
    (hb : ∀ x y q, x ∈ xs → m x = some y → ∀ X', Fam X scope X' → EN X' (up x es) (q :: os0) elt (f y) (q :: os0))
    {F σ H Q} (ow : Ow F os H) (sl : Sl F es σ) (q : ∀ F' H' p, Same F F' → Ow F' ((p, onx (ys.map f)) :: os0) H' → Q (.ref p) H') : tLc (WI X tg iter) g (tIfs X scope []) (tElt X scope elt) (own.map (·.2)) σ H Q := by
  refine h.hi F σ H _ ow sl fun F1 H1 J e1 o1 good Dl hD => ?_
  refine ⟨fun i n H => n = xs.length - i ∧ i ≤ xs.length ∧ LnS f m xs ys os0 Dl F1 i H, ⟨_, rfl, Nat.zero_le _, [], ys, F1, hl, rfl, Nat.le_refl _, Same.refl F1, ?_⟩, ?_⟩
  · refine o1.new hD fun G s => ⟨[], [], ?_, .nil, ?_, (fun _ z => nomatch z), rfl⟩
    · show one Dl (.lst []) = ov (one Dl (.lst [])) (fun _ => none)
      funext a
      cases z : one Dl (.lst []) a with
      | none => rw [ov_none z]
      | some u => rw [ov_some z]
    · exact List.pairwise_cons.mpr ⟨(fun _ z => nomatch z), .nil⟩
  · rintro i n H' ⟨rfl, hi, d, r, F', hr, hy, hdl, e', o'⟩
    obtain ⟨stop, go⟩ := good F' H' _ i e' o' (h.hc _)
    cases hx : xs[i]? with
    | none =>
      have hi2 : xs.length ≤ i := List.getElem?_eq_none_iff.mp hx
      rw [List.drop_eq_nil_of_le hi2] at hr
      cases hr
      refine .inl ⟨stop hi2, q F' H' Dl (e1.trans e') ?_⟩
      rw [hy, List.append_nil]
      exact o'
    | some x =>
      obtain ⟨hgo, hyl⟩ := go x hx
      have hlt : i < xs.length := (List.getElem?_eq_some_iff.mp hx).1
      rw [drop_cons' hx] at hr
      unfold mapO at hr
      obtain ⟨y, hm, hr⟩ := bnd hr
      obtain ⟨r', hr1, hr2⟩ := bnd hr
      obtain rfl := som hr2
      refine .inr ⟨hgo, LnS f m xs ys os0 Dl F1 (i + 1), fun H2 hH2 => ⟨_, by omega, rfl, by omega, hH2⟩, fun v H3 yv => ?_⟩
      obtain ⟨F3, e3, o3, c3⟩ := hyl v H3 yv
      have slw : Sl F3 es (wipe σ (own.map (·.2))) := sl_wipe (sl.mono ((e1.trans e').trans e3)) _ fun j hj => ⟨un, h.hv j hj, rfl⟩
      refine h.hg x F3 _ H3 v _ _ slw (h.hid σ) o3 c3 fun σ' sl' hw => ⟨hw, ?_⟩
      intro X' hX'
      refine hb x y _ (List.mem_of_getElem? hx) hm X' hX' F3 σ' H3 _ o3 sl' fun F5 H5 qn e5 o5 => ?_
      obtain ⟨qs, o6⟩ := (o5.perm (List.Perm.swap _ _ _)).opx
      obtain ⟨hp, hlen, o7⟩ := (o6.perm (List.Perm.swap _ _ _)).snoc
      rw [List.length_map] at hlen
      refine ⟨_, hp, by rw [List.length_map, hlen]; have := h.hz; omega, d ++ [y], r', F5, hr1, by rw [hy, List.append_assoc]; rfl, by rw [List.length_append, List.length_singleton]; omega, (e'.trans e3).trans e5, ?_⟩
      rw [List.map_append]
      exact o7.clx
theorem sx_asgLcN {y : Str} {py spos : Pos} {f : γ → Ent} {m : α → Option γ} {ys : List γ} (B : Bd X N W G k) (T : Bt X V) (hi : N[i]? = some y) (hyl : X.env.scope.names.lookup y = some .local) (h : CpOk X es os tg iter scope own xs vp c g up os0) (hl : mapO m xs = some ys)
    (hb : ∀ x y q, x ∈ xs → m x = some y → ∀ X', Fam X scope X' → EN X' (up x es) (q :: os0) elt (f y) (q :: os0))
    (hsw : swapsWith (.ListComp elt [⟨tg, iter, [], 0⟩] scope pos) (some (.Name y py)) spos.line X.env = pure true)
    (hn : ∀ p, SX X (es.set i (sl (Z.own p))) ((p, onx (ys.map f)) :: os0) F0 rest D) (hs : ∀ x, foldedSetIterable iter X.env x = pure x := by intro _; rfl) : SX X es os F0 (.Assign [.Name y py] (.ListComp elt [⟨tg, iter, [], 0⟩] scope pos) spos :: rest) D := fun F σ H s ow sl =>
  wps_cons (ws_of (ps_setLc h.calm h.nd (B.hN ▸ hi) hyl hsw pi_u h.ok (fun s H C cl fp => h.pg _ ⟨s, H, C, cl, fp, rfl⟩) (fun s H C cl fp => pts_u ⟨s, H, C, cl, fp, rfl⟩ []) (fun s H C cl fp => pe_elt ⟨s, H, C, cl, fp, rfl⟩) hs)
    (ln_read (Q := fun v H1 => gName i v σ H1 (WPs X rest D)) h hl hb ow sl fun F1 H1 p e1 o1 => hn p F1 _ H1 (s.trans e1) o1 ((sl.mono e1).put cl_own)))
def dcS [DecidableEq κ] (m : α → Option (Option (κ × β))) : List α → List (κ × β) → Option (List (κ × β))
  | [], w => some w
  | x :: xs, w => (m x).bind fun t => dcS m xs (match t with
    | some z => dPut w z.1 z.2
    | none => w)
theorem dput_len [DecidableEq κ] (w : List (κ × β)) (k : κ) (v : β) : (dPut w k v).length ≤ w.length + 1 := by
  unfold dPut
  split
  · rw [List.length_map]; omega
  · rw [List.length_append]; simp
end
end Z
namespace Z
open PySem PySem.Spec PyProof.Rows L2
/-- to assign a value of ψ to tg: slots and what is owned change -/
def GY (X : Cx) (tg : Expr) (ψ : VP) (es : List Slot) (os : Os) (es' : List Slot) (os' : Os) : Prop := ∀ F σ H v (Q : L2.St → Hp → Prop), Ow F os H → Sl F es σ → Cl ψ F v → (∀ F' σ' H', Same F F' → Ow F' os' H' → Sl F' es' σ' → Q σ' H') → WG X tg v σ H Q
section
variable {X : Cx} {es es1 es2 : List Slot} {os os1 os2 os3 os4 : Os} {F0 : Hp} {rest : List Stmt} {D : Ends} {N V G W : List Str} {n i j vi gi : Nat} {x : Str} {p pos tpos apos cpos : Pos} {e a b tg tg1 tg2 : Expr} {φ ψ : VP} {κ β γ : Type} {enc : β → PyData}
theorem GY.clos {q : Addr} {es0 : List Ent} {es' : List Slot} (k : GY X tg ψ es os es' os1) (h : os1[j]? = some (q, onl qs es0)) : GY X tg ψ es os es' (os1.set j (q, onx es0)) := fun F σ H v Q ow s c qq => k F σ H v Q ow s c fun F' σ' H' e o l => qq F' σ' H' e (o.clos j h) l
/-- xs.append(a new owned thing), xs a list of owned things -/
theorem ex_appN {qs0 : List Addr} {ws0 : List γ} {f : γ → Ent} {ws ws' : List γ} {d0 : γ} {q : Addr} {qs : List Addr} (hz : appO ws d0 = some ws') (ho : EX X es os a (own q) os) (h0 : os[i]? = some (q, onl qs0 (ws0.map f))) (he : EN X es os e (f d0) os1) (hj : os1[j]? = some (q, onl qs (ws.map f)))
    (hbase : attributeBase a "append" X.env (eval a X.env) = eval a X.env := by rfl) (hline : (apos.endLine == cpos.line) = true := by rfl) (hs : starEach [e] X.env = (false, eval e X.env) :: starEach [] X.env := by rfl)
    (hfew : ((backTo cpos (starEach [e] X.env)).all (fun x => !x.1) && (backToKw cpos (keywordEach [] X.env)).all (fun x => x.1.isSome) && decide ([e].length + ([] : List Keyword).length + (if ([] : List Keyword).isEmpty then 0 else 1) < 30)) = true := by rfl)
    (hplain : (backTo cpos (starEach [] X.env)).any (·.1) = false := by rfl) : EX X es os (.Call (.Attribute a "append" apos) [e] [] cpos) (dat .none) (os1.set j (q, onx (ws'.map f))) := fun F σ H Q ow sl qq => by
  unfold appO at hz
  split at hz
  · rename_i hl
    cases hz
    refine we_of (pe_bm PySem.F.plainAttrs_list PySem.F.slot_list_append PySem.F.type_list_append mt_append pe_u pa_u hbase hfew hline hs hplain) (ho F σ H _ ow sl fun F1 H1 v e1 o1 c1 => ?_)
    obtain rfl : v = .ref q := c1.now
    obtain ⟨hq0, _⟩ := nest_at i h0 o1
    refine ⟨.inl ⟨rfl, _, .of hq0⟩, wa_of (pa_cons pe_u pa_nil hs) (he F1 σ H1 _ o1 (sl.mono e1) fun F2 H2 r e2 o2 => ?_)⟩
    have o3 := o2.perm ((perm_at hj).cons _)
    obtain ⟨hq, hlen, o4⟩ := o3.snoc
    rw [List.length_map] at hlen
    refine ⟨q, _, .ref r, rfl, rfl, hq, by rw [List.length_map, hlen]; exact hl, qq F2 _ .non (e1.trans e2) ?_ (cl_dat .non)⟩
    rw [List.map_append]
    exact (o4.clx).perm (perm_set hj)
  · cases hz
end
end Z
namespace Z
open PySem PySem.Spec PyProof.Rows L2
def lenO {α : Type} (xs : List α) : Option Unit := if xs.length < sizeLine then some () else none
theorem lenO_ok {α : Type} {xs : List α} {u : Unit} (h : lenO xs = some u) : xs.length < sizeLine := by
  unfold lenO at h
  split at h
  · assumption
  · cases h
section
variable {X : Cx} {es es1 es2 : List Slot} {os os1 os2 os3 : Os} {F0 : Hp} {rest : List Stmt} {D : Ends} {N V G W : List Str} {n i j vi gi : Nat} {x y : Str} {p pos tpos apos cpos : Pos} {e a b c k v : Expr} {φ ψ : VP} {α κ β γ : Type} {enc : β → PyData}
theorem SX.clos {q : Addr} {qs : List Addr} {es0 : List Ent} (j : Nat) (h : os[j]? = some (q, onl qs es0)) (k : SX X es (os.set j (q, onx es0)) F0 rest D) : SX X es os F0 rest D := sx_clos j h k
theorem en_nil {f : γ → Ent} : EN X es os (.List [] pos) (onx (([] : List γ).map f)) os := fun F σ H Q ow sl q =>
  we_of (pe_lst pa_u) (wa_of pa_nil ⟨by decide, fun p hp => q F _ p (Same.refl F) (ow.new hp fun G s => ⟨[], [], by
    show one p (.lst []) = ov (one p (.lst [])) (fun _ => none)
    funext a
    cases z : one p (.lst []) a with
    | none => rw [ov_none z]
    | some u => rw [ov_some z], .nil, List.pairwise_cons.mpr ⟨(fun _ z => nomatch z), .nil⟩, (fun _ z => nomatch z), rfl⟩)⟩)
theorem en_disp1 {f : κ → Key} {k' : κ} {x' : β} (hi : (Kd.fl f).Inj) (hk : ∀ q, EX X es (q :: os) k (dat ((Kd.fl f).ek k')) (q :: os1)) (hv : ∀ q, EX X es (q :: os1) v (dat (enc x')) (q :: os2)) : EN X es os (.Dict [some k] [v] pos) (od (.fl f) (eM enc [(k', x')])) os2 := fun F σ H Q ow sl q =>
  we_of (pe_disp (pps_cons pe_u pe_u pps_nil) rfl rfl (by simp) (by simp)) fun p hp => by
    have o0 : Ow F ((p, od (.fl f) ([] : List (κ × PyData))) :: os) (upd H p (.dK [])) := ow.new hp (od_one (kd := .fl f) .nil)
    refine hk _ F σ _ _ o0 sl fun F1 H1 y e1 o1 c1 => hv _ F1 σ H1 _ o1 (sl.mono e1) fun F2 H2 u e2 o2 c2 => ?_
    obtain ⟨_, o, ho, _, kvs, rfl, dv⟩ := o2.atU uni_od
    cases dv
    refine ⟨ho, [(f k', u)], ?_, by simp, ?_⟩
    · rw [key_val (kd := .fl f) (c1.mono e2)]
      rfl
    · exact q F2 _ p (e1.trans e2) (o2.putU uni_od (od_one (kd := .fl f) (kvs := [(k', u)]) (.cons c2.now .nil)))
def popI {α : Type} (xs : List α) (i : Int) : Option (α × List α) := if -(2 ^ 63) ≤ i ∧ i < 2 ^ 63 then (match seqIndex? i xs.length with
  | some k => (xs[k]?).map fun y => (y, xs.eraseIdx k)
  | none => none) else none
theorem dqall_erase {F : Hp} : ∀ {ds : List PyData} {vs : List L2.V} (i : Nat), DqAll F vs ds → DqAll F (vs.eraseIdx i) (ds.eraseIdx i)
  | _, _, _, .nil => .nil
  | _, _, 0, .cons h1 h2 => h2
  | _, _, i + 1, .cons h1 h2 => .cons h1 (dqall_erase i h2)
theorem map_eraseIdx {α β : Type} (f : α → β) : ∀ (xs : List α) (i : Nat), (xs.eraseIdx i).map f = (xs.map f).eraseIdx i
  | [], _ => rfl
  | x :: xs, 0 => rfl
  | x :: xs, i + 1 => by
    rw [List.eraseIdx_cons_succ, List.map_cons, List.map_cons, List.eraseIdx_cons_succ, map_eraseIdx f xs i]
theorem rc_listKI {w : List (Int × β)} (hr : RdD kI φ os (eM enc w)) : RCN rListK [φ] os (ol ((w.map (·.1)).map PyData.int)) os := rc_listK (f := Sum.inl) hr
end
section
variable {X : Cx} {es : List Slot} {os os0 : Os} {N V G W : List Str} {k i j : Nat} {x y : Str} {pos tpos p1 p2 : Pos} {e : Expr} {α β S : Type} {scope : Scope} {elt iter : Expr} {ifs : List Expr} {xs : List α} {enc : β → PyData}
theorem lc_mk2 {c : Os → Prop} {d1 d2 : α → PyData} {kk : Nat} (f : S → α → Option (Option β × S)) (OS : S → Os → Os) (s0 : S) (ys : List β) (sf : S) (B : Bd X N W G k) (hi : N[i]? = some x) (hj : N[j]? = some y) (hij : i ≠ j) (hu1 : es[i]? = some un) (hu2 : es[j]? = some un) (hblk : blkC X.N X.env.scope scope [(x, i), (y, j)] = true)
    (ho1 : ownB scope X.env.scope x = true) (ho2 : ownB scope X.env.scope y = true) (hif : ifs.length ≤ 1)
    (hl : xs.length < sizeLine ∧ lcS f xs s0 = some (ys, sf)) (hx : IX X (.Tuple [.Name x p1, .Name y p2] kk tpos) es os iter xs (fun z => dat (.tuple [d1 z, d2 z])) c (OS s0 os0)) (hc : ∀ s tl, c (OS s tl)) (hperm : ∀ s q tl, (OS s (q :: tl)).Perm (q :: OS s tl))
    (hb : ∀ s z t tl, z ∈ xs → f s z = some t → ∃ b os1, ∀ X', Fam X scope X' → PTX X' ((es.set i (sl (dat (d1 z)))).set j (sl (dat (d2 z)))) (OS s tl) ifs b os1 ∧ (b = true → ∃ y, t.1 = some y ∧ EX X' ((es.set i (sl (dat (d1 z)))).set j (sl (dat (d2 z)))) os1 elt (dat (enc y)) (OS t.2 tl)) ∧ (b = false → t.1 = none ∧ os1 = OS t.2 tl)) :
    LcOk X es os (.Tuple [.Name x p1, .Name y p2] kk tpos) iter elt ifs scope [(x, i), (y, j)] xs (fun z => dat (.tuple [d1 z, d2 z])) c (gTup X.K 2 (gCons (gName i) (gCons (gName j) gNil))) (fun z es => (es.set i (sl (dat (d1 z)))).set j (sl (dat (d2 z)))) enc f OS s0 os0 ys sf where
  calm := B.calm
  nd := B.hN ▸ B.nd
  ok := blkOk_by hblk
  pg := fun X' hX => by
    have hK : X'.K = X.K := by
      obtain ⟨_, _, _, _, _, rfl⟩ := hX
      rfl
    have := pg_own2 (tpos := tpos) (kk := kk) (p1 := p1) (p2 := p2) hX B hi hj ho1 ho2
    rw [hK] at this
    exact this
  hv := fun m hm => by
    have e : m = i ∨ m = j := by simpa using hm
    rcases e with rfl | rfl
    · exact hu1
    · exact hu2
  hid := lc_id2 hij
  hg := fun x F σ H v Q os2 sl hw ow c q => lc_gpair hij x F σ H v Q os2 sl hw ow c q
  hif := hif
  hl := hl.2
  hz := hl.1
  hi := hx
  hc := hc
  hperm := hperm
  hb := hb
end
end Z
namespace Z
open PySem PySem.Spec PyProof.Rows L2
def lenSetO (ns : List Int) : Option Int := if ns.Nodup ∧ ns.length ≤ 4000 then some (ns.length : Int) else none
section
variable {X : Cx} {es es1 es2 : List Slot} {os os1 os2 os3 : Os} {F0 : Hp} {rest : List Stmt} {D : Ends} {N V G W : List Str} {n i j vi gi gj : Nat} {x y : Str} {p p2 q pos tpos apos cpos : Pos} {e a b c k v : Expr} {φ ψ : VP} {α κ β γ : Type} {enc : β → PyData}
theorem ex_lenSet {ns : List Int} {m : Int} (B : Bd X N W G n) (hj : G[gi]? = some "len") (hm : X.mg "len" = none) (hj2 : G[gj]? = some "set") (hm2 : X.mg "set" = none) (h : lenSetO ns = some m) (hr : RdL X φ os1 (ns.map PyData.int)) (ha : EX X es os a φ os1)
    (na : starEach [a] X.env = (false, eval a X.env) :: starEach [] X.env := by rfl) : EX X es os (.Call (.Name "len" p) [.Call (.Name "set" p2) [a] [] q] [] pos) (dat (.int m)) os1 := fun F σ H Q ow sl qq => by
  unfold lenSetO at h
  split at h
  · rename_i hl
    cases h
    refine we_of (RZ.pe_lenSetI (B.gl _ (List.mem_of_getElem? hj)).1 hm (B.gl _ (List.mem_of_getElem? hj2)).1 hm2 pe_u B.calm na) (ha F σ H _ ow sl fun F1 H1 v e1 o1 c1 => ?_)
    obtain ⟨l, vs, rfl, h1, h2⟩ := hr F1 H1 v o1 c1
    have ev := dqall_of_ints ns h2
    subst ev
    exact ⟨l, ns, rfl, h1, hl.1, hl.2, qq F1 H1 _ e1 o1 (cl_dat (.int _))⟩
  · cases h
theorem sw_noD {elt elt2 : Expr} {gs : List Comprehension} {scope : Scope} {py : Pos} {l : Nat} {env : Env} (hy : (env.scope.names.lookup y == some .local) = false) : swapsWith (.DictComp elt elt2 gs scope pos) (some (.Name y py)) l env = pure false := by
  unfold swapsWith
  have ky : (env.kindOf y == some NameKind.local) = false := hy
  simp only [ky, Bool.and_false, Bool.false_and]
theorem tx_din [DecidableEq κ] {kd : Kd κ} {w : List (κ × β)} {k : κ} (hi : kd.Inj) (B : Bd X N W G n) (hr : RdD kd φ os2 (eM enc w)) (ha : EX X es os a (dat (kd.ek k)) os1) (hb : EX X es os1 b φ os2) (hm : behindInMarks .In b = false := by rfl) : TX X es os (.Compare a [.In] [b] pos) (dGet w k).isSome os2 := fun F σ H Q ow sl q =>
  wt_of (pt_cmp (pc_din B.u1 pe_u pe_u) hm) (ha F σ H _ ow sl fun F1 H1 y e1 o1 c1 => hb F1 σ H1 _ o1 (sl.mono e1) fun F2 H2 v e2 o2 c2 => by
    obtain ⟨p, kvs, rfl, rd, dv⟩ := hr F2 H2 v o2 c2
    exact ⟨p, _, rfl, dget_of hi o2.ex rd (key_val (c1.mono e2)), _, rfl, by rw [dget_some (H := H2) (p := p) hi dv]; exact q F2 H2 (e1.trans e2) o2⟩)
theorem tx_dnotin [DecidableEq κ] {kd : Kd κ} {w : List (κ × β)} {k : κ} (hi : kd.Inj) (B : Bd X N W G n) (hr : RdD kd φ os2 (eM enc w)) (ha : EX X es os a (dat (kd.ek k)) os1) (hb : EX X es os1 b φ os2) (hm : behindInMarks .NotIn b = false := by rfl) : TX X es os (.Compare a [.NotIn] [b] pos) (!(dGet w k).isSome) os2 := fun F σ H Q ow sl q =>
  wt_of (pt_cmp (pc_dnotin B.u1 pe_u pe_u) hm) (ha F σ H _ ow sl fun F1 H1 y e1 o1 c1 => hb F1 σ H1 _ o1 (sl.mono e1) fun F2 H2 v e2 o2 c2 => by
    obtain ⟨p, kvs, rfl, rd, dv⟩ := hr F2 H2 v o2 c2
    exact ⟨p, _, rfl, dget_of hi o2.ex rd (key_val (c1.mono e2)), _, rfl, by rw [dget_some (H := H2) (p := p) hi dv]; exact q F2 H2 (e1.trans e2) o2⟩)
theorem ex_popI2 {m : Nat} {xs xs0 : List β} {z : Int} {r : β × List β} {q : Addr} (hr : popI xs z = some r) (ho : EX X es os a (own q) os) (h0 : os[m]? = some (q, ol (xs0.map enc))) (he : EX X es os e (dat (.int z)) os1) (hj : os1[j]? = some (q, ol (xs.map enc)))
    (hbase : attributeBase a "pop" X.env (eval a X.env) = eval a X.env := by rfl) (hline : (apos.endLine == cpos.line) = true := by rfl) (hs : starEach [e] X.env = (false, eval e X.env) :: starEach [] X.env := by rfl)
    (hfew : ((backTo cpos (starEach [e] X.env)).all (fun x => !x.1) && (backToKw cpos (keywordEach [] X.env)).all (fun x => x.1.isSome) && decide ([e].length + ([] : List Keyword).length + (if ([] : List Keyword).isEmpty then 0 else 1) < 30)) = true := by rfl)
    (hplain : (backTo cpos (starEach [] X.env)).any (·.1) = false := by rfl) : EX X es os (.Call (.Attribute a "pop" apos) [e] [] cpos) (dat (enc r.1)) (os1.set j (q, ol (r.2.map enc))) := fun F σ H Q ow sl qq => by
  unfold popI at hr
  split at hr
  · rename_i hl
    split at hr
    · rename_i k hk
      cases hy : xs[k]? with
      | none =>
        rw [hy] at hr
        cases hr
      | some y =>
        rw [hy] at hr
        cases hr
        refine we_of (pe_bm PySem.F.plainAttrs_list PySem.F.slot_list_pop PySem.F.type_list_pop mt_popAt pe_u pa_u hbase hfew hline hs hplain) (ho F σ H _ ow sl fun F1 H1 v e1 o1 c1 => ?_)
        obtain rfl : v = .ref q := c1.now
        obtain ⟨_, _, _, ty⟩ := ty_own (K := X.K) o1 h0
        refine ⟨ty, wa_of (pa_cons pe_u pa_nil hs) (he F1 σ H1 _ o1 (sl.mono e1) fun F2 H2 u e2 o2 c2 => ?_)⟩
        obtain ⟨vs, hp, hv, _⟩ := ty_own (K := X.K) o2 hj
        have hlen := dqall_len hv
        rw [List.length_map] at hlen
        obtain ⟨u', hu, hd⟩ := dqall_map hv hy
        refine ⟨q, vs, z, k, u', rfl, by rw [clv_int c2], hp, hl.1, hl.2, by rw [hlen]; exact hk, hu, ?_⟩
        have o3 := ow_set o2 hj (dqall_erase k hv)
        rw [← map_eraseIdx] at o3
        exact qq F2 _ u' (e1.trans e2) o3 (cl_dat hd)
    · cases hr
  · cases hr
end
end Z
namespace Z
open PySem PySem.Spec PyProof.Rows L2
section
variable {X : Cx} {es es1 es2 : List Slot} {os os1 os2 os3 : Os} {F0 : Hp} {rest : List Stmt} {D : Ends} {N V G W : List Str} {n i j k vi gi gj : Nat} {x y : Str} {p p2 q' pos pos' tpos apos cpos : Pos} {e a b c v : Expr} {φ ψ : VP} {q : Addr} {d : PyData} {ds ds' : List PyData}
theorem rc_reprX {t : Str} (r : RdX X φ os d) (h : reprO d = some t) : RCX (rRepr X.K) [φ] os (dat (.str t)) os := fun F H vs Q ow c qq => by
  unfold reprO at h
  split at h
  · rename_i hl
    cases h
    obtain ⟨v, rfl, h⟩ := cla1 c
    exact ⟨v, d, rfl, r hl.2.1 F H v ow h, hl.1, hl.2.1, hl.2.2.1, hl.2.2.2, qq F H _ (Same.refl F) ow (cl_dat (.str _))⟩
  · cases h
end
theorem EX.post {X : Cx} {es : List Slot} {os os1 os2 : Os} {e : Expr} {φ : VP} (h : EX X es os e φ os1) (p : os1.Perm os2) : EX X es os e φ os2 := fun F σ H Q ow sl q => h F σ H Q ow sl fun F1 H1 v e1 o1 => q F1 H1 v e1 (o1.perm p)
/-- a product: one factor is small, or both are not too long -/
def mulW (i j : Int) : Option Int := if (-(2 ^ 64) < i ∧ i < 2 ^ 64) ∨ (-(2 ^ 64) < j ∧ j < 2 ^ 64) ∨ i.natAbs.log2 + j.natAbs.log2 < 1000000 then some (i * j) else none
theorem ex_mulW {X : Cx} {es : List Slot} {os os1 os2 : Os} {a b : Expr} {pos : Pos} {i j m : Int} (hm : mulW i j = some m) (ha : EX X es os a (dat (.int i)) os1) (hb : EX X es os1 b (dat (.int j)) os2) : EX X es os (.BinOp a .Mult b pos) (dat (.int m)) os2 := by
  unfold mulW at hm
  split at hm
  · rename_i h
    cases hm
    rcases h with h | h | h
    · exact ex_mulL h ha hb
    · exact ex_mulR h ha hb
    · exact ex_mul (if_pos h) ha hb
  · cases hm
end Z
namespace Z
open PySem PySem.Spec PyProof.Rows L2
end Z
namespace Z
open PySem PySem.Spec PyProof.Rows L2
section
variable {X : Cx} {es es1 es2 : List Slot} {os os1 os2 os3 : Os} {F0 : Hp} {rest : List Stmt} {D : Ends} {N V G W : List Str} {n i j k vi gi gj : Nat} {x y : Str} {pos pos' tpos apos cpos pp : Pos} {p q : Addr} {e a b c v : Expr} {φ ψ : VP} {γ : Type} {f : γ → Ent} {ws : List γ} {d d' : γ} {z : Int} {qs : List Addr}
/-- one of a list of owned things, opened for a call -/
theorem Ow.sub {F H : Hp} (j : Nat) (h : os[j]? = some (p, onl qs (ws.map f))) (hk : idx ws z = some d) (ow : Ow F os H) : ∃ tl, qs.length = ws.length ∧ Ow F ((qa qs z, f d) :: (p, orf qs) :: (os.eraseIdx j ++ tl)) H ∧
    ∀ d' F' H', Ow F' ((qa qs z, f d') :: (p, orf qs) :: (os.eraseIdx j ++ tl)) H' → Ow F' (os.set j (p, onl qs ((setI ws z d').map f))) H' := by
  obtain ⟨o1, hl⟩ := (ow.perm (perm_at h)).opn
  rw [List.length_map] at hl
  obtain ⟨k1, k2⟩ := idx_at hk
  have hi : ixD ws.length z < ws.length := (List.getElem?_eq_some_iff.mp k2).1
  have hq : qs[ixD ws.length z]? = some (qa qs z) := by
    unfold qa
    rw [hl]
    exact getD_at (by rw [hl]; exact hi)
  have he : (ws.map f)[ixD ws.length z]? = some (f d) := by rw [List.getElem?_map, k2]; rfl
  have hz : (qs.zip (ws.map f))[ixD ws.length z]? = some (qa qs z, f d) := zip_at hq he
  have pz : ∀ e' : Ent, (qs.zip (ws.map f)).set (ixD ws.length z) (qa qs z, e') = qs.zip ((ws.map f).set (ixD ws.length z) e') := fun e' => zip_set hq
  have pm : ∀ e' : Ent, ((p, orf qs) :: (((qs.zip (ws.map f)).set (ixD ws.length z) (qa qs z, e')) ++ os.eraseIdx j)).Perm ((qa qs z, e') :: (p, orf qs) :: (os.eraseIdx j ++ (qs.zip (ws.map f)).eraseIdx (ixD ws.length z))) := fun e' => by
    have hs : ((qs.zip (ws.map f)).set (ixD ws.length z) (qa qs z, e')).Perm ((qa qs z, e') :: (qs.zip (ws.map f)).eraseIdx (ixD ws.length z)) := (perm_set hz).symm
    refine (List.Perm.cons _ (hs.append_right _)).trans ?_
    refine (List.Perm.swap _ _ _).trans (List.Perm.cons _ (List.Perm.cons _ List.perm_append_comm))
  refine ⟨(qs.zip (ws.map f)).eraseIdx (ixD ws.length z), hl, ?_, fun d' F' H' o' => ?_⟩
  · have := pm (f d)
    rw [show (qs.zip (ws.map f)).set (ixD ws.length z) (qa qs z, f d) = qs.zip (ws.map f) from by
      obtain ⟨q1, q2⟩ := List.getElem?_eq_some_iff.mp hz
      rw [← q2, List.set_getElem_self]] at this
    exact o1.perm this
  · have o2 := o'.perm (pm (f d')).symm
    rw [pz] at o2
    have o3 := o2.cls (by rw [List.length_set, List.length_map]; exact hl)
    have e5 : (ws.map f).set (ixD ws.length z) (f d') = (setI ws z d').map f := by
      unfold setI
      rw [List.map_set]
    rw [e5] at o3
    exact o3.perm (perm_set h)
theorem EX.sub (j : Nat) (h : os[j]? = some (p, onl qs (ws.map f))) (hk : idx ws z = some d) (k : ∀ tl, qs.length = ws.length → EX X es ((qa qs z, f d) :: (p, orf qs) :: (os.eraseIdx j ++ tl)) e φ ((qa qs z, f d') :: (p, orf qs) :: (os.eraseIdx j ++ tl))) : EX X es os e φ (os.set j (p, onl qs ((setI ws z d').map f))) := fun F σ H Q ow sl qq => by
  obtain ⟨tl, hl, o1, back⟩ := ow.sub j h hk
  exact k tl hl F σ H Q o1 sl fun F' H' v e' o' c' => qq F' H' v e' (back d' F' H' o') c'
end
end Z
namespace Z
open PySem PySem.Spec PyProof.Rows L2
section
variable {P : Program} {w : World} {K : PySem.W.Frag} {mg : Str → Option Value} {base : Heap}
variable {α β : Type} {ps : α → List VP} {pre : α → Os} {m : α → Option β} {res : α → β → VP} {post : α → β → Os} {n : α → β → Ent} {x : Str} {st : Stmt} {f : Addr} {fd : FuncData} {N V Gs pn : List Str} {k nl : Nat}
theorem cal_ZQ {sts : List Stmt} (hst : defBody st = sts) (Fn : Fun K x x st f fd) (S : FnScope N pn (defScope st)) (nam : namB (defScope st) V Gs = true) (loc : V.all (locB (defScope st)) = true) (hmg : mg x = some (.ref f)) (hb : Binds K fd pn []) (hps : ∀ a, (ps a).length = pn.length) (hN : N.length = pn.length + nl)
    (body : ∀ (f : Addr) (cdv : Value) (A : Around) (outer : List Env) (s : Shared) (H : Hp) (E : XK) (a : α) (b : β) (F0 : Hp) (os : Os) (D : Ends), Bd (cxOf CX0 P w K mg base N x (defScope st) f cdv A outer s H E).nox N V Gs k → Bt (cxOf CX0 P w K mg base N x (defScope st) f cdv A outer s H E).nox V →
      m a = some b → RetZ F0 (post a b ++ os) (res a b) D → SX (cxOf CX0 P w K mg base N x (defScope st) f cdv A outer s H E).nox ((ps a).map sl ++ List.replicate nl un) (pre a ++ os) F0 sts D) : Cal P w K mg base (k + 1) x st pn (spZ ps pre m res post) := by
  subst hst
  exact cal_Z Fn S nam loc hmg hb hps hN body
theorem cal_NQ {sts : List Stmt} (hst : defBody st = sts) (Fn : Fun K x x st f fd) (S : FnScope N pn (defScope st)) (nam : namB (defScope st) V Gs = true) (loc : V.all (locB (defScope st)) = true) (hmg : mg x = some (.ref f)) (hb : Binds K fd pn []) (hps : ∀ a, (ps a).length = pn.length) (hN : N.length = pn.length + nl)
    (body : ∀ (f : Addr) (cdv : Value) (A : Around) (outer : List Env) (s : Shared) (H : Hp) (E : XK) (a : α) (b : β) (F0 : Hp) (os : Os) (D : Ends), Bd (cxOf CX0 P w K mg base N x (defScope st) f cdv A outer s H E).nox N V Gs k → Bt (cxOf CX0 P w K mg base N x (defScope st) f cdv A outer s H E).nox V →
      m a = some b → RetN F0 (post a b ++ os) (n a b) D → SX (cxOf CX0 P w K mg base N x (defScope st) f cdv A outer s H E).nox ((ps a).map sl ++ List.replicate nl un) (pre a ++ os) F0 sts D) : Cal P w K mg base (k + 1) x st pn (spN ps pre m n post) := by
  subst hst
  exact cal_N Fn S nam loc hmg hb hps hN body
end
end Z
namespace Z
open PySem PySem.Spec PyProof.Rows L2
def ltI : Int → Int → Bool := fun a b => decide (a < b)
def ltL {α : Type} [DecidableEq α] (lt : α → α → Bool) : List α → List α → Bool
  | x :: xs, y :: ys => if x = y then ltL lt xs ys else lt x y
  | [], _ :: _ => true
  | _, [] => false
def ltP2 {α β : Type} [DecidableEq α] (l1 : α → α → Bool) (l2 : β → β → Bool) : α × β → α × β → Bool := fun a b => if a.1 = b.1 then l2 a.2 b.2 else l1 a.1 b.1
end Z
namespace Z
open PySem PySem.Spec PyProof.Rows L2
end Z
namespace Z
open PySem PySem.Spec PyProof.Rows L2
section
variable {X : Cx} {es : List Slot} {os os1 : Os} {κ β : Type} [DecidableEq κ] {enc : β → PyData} {w : List (κ × β)} {a : Expr} {apos cpos : Pos}
/-- a.clear() of a dict, keys ints or texts -/
theorem ex_dclear {f : κ → Key} {q : Addr} {os' : List (κ × β) → Os} (ho : EX X es os a (own q) os1) (hw : WrT os1 q (odT (.fl f) enc) w os')
    (hbase : attributeBase a "clear" X.env (eval a X.env) = eval a X.env := by rfl) (hline : (apos.endLine == cpos.line) = true := by rfl) :
    EX X es os (.Call (.Attribute a "clear" apos) [] [] cpos) (dat .none) (os' []) := fun F σ H Q ow sl qq => by
  refine we_of (pe_dclear pe_u hbase hline) (ho F σ H _ ow sl fun F1 H1 v e1 o1 c1 => ?_)
  obtain rfl : v = .ref q := c1.now
  obtain ⟨_, o, hq, _, ⟨kvs, rfl, dv⟩, z⟩ := hw F1 H1 _ uni_od o1
  refine ⟨.inr (.inr (.inl ⟨rfl, .inl ⟨_, hq⟩⟩)), q, _, rfl, rfl, hq, ?_⟩
  exact qq F1 _ .non e1 (z ((Kd.fl f).ho []) [] (Kd.ntup (.fl f) _) (od_one (kd := .fl f) (kvs := []) (d := []) .nil)) (cl_dat .non)
end
section
variable {X : Cx} {os : Os} {q : Addr} {γ : Type} {f : γ → Ent} {ws : List γ}
/-- len of a list of owned things that is closed -/
theorem rc_lenOx (j : Nat) (h : os[j]? = some (q, onx (ws.map f))) : RCX (fun xs H Q => ∃ p ys, xs = [L2.V.ref p] ∧ (SqL X.K H p ys ∨ SqT X.K H p ys) ∧ Q (.int ys.length) H) [own q] os (dat (.int (ws.length : Int))) os := fun F H vs Q ow c qq => by
  obtain ⟨v, rfl, hv⟩ := cla1 c
  obtain rfl : v = .ref q := hv.now
  obtain ⟨qs, o1⟩ := (ow.perm (perm_at h)).opx
  obtain ⟨h1, hl⟩ := nest_at 0 rfl o1
  refine ⟨q, _, rfl, .inl (.of h1), ?_⟩
  rw [List.length_map, hl]
  exact qq F H _ (Same.refl F) ow (cl_dat (.int _))
end
end Z
namespace Z
open PySem PySem.Spec PyProof.Rows L2
def idxH {γ : Type} (ws : List (Option γ)) (z : Int) : Option γ := (idx ws z).bind id
def unH {γ : Type} : List (Option γ) → Option (List γ)
  | [] => some []
  | o :: r => o.bind fun x => (unH r).bind fun xs => some (x :: xs)
theorem idx_mapS {γ : Type} {ws : List γ} {z : Int} {d : γ} (h : idx ws z = some d) : idx (ws.map some) z = some (some d) := by
  obtain ⟨k1, k2⟩ := idx_at h
  unfold idx atI
  rw [List.length_map, k1]
  show (ws.map some)[ixD ws.length z]? = _
  rw [List.getElem?_map, k2]
  rfl
section
variable {X : Cx} {es es1 : List Slot} {os os1 os2 : Os} {F0 : Hp} {rest : List Stmt} {D : Ends} {N V G W : List Str} {n k i j vi gi : Nat} {x : Str} {p q pos apos cpos tpos : Pos} {e a b tg : Expr} {φ ψ : VP} {γ : Type} {f : γ → Ent} {g : γ → PyData} {m : Ent}
theorem GY.drop {es' : List Slot} {u : Addr × Ent} (k : GY X tg ψ es os es' (u :: os1)) : GY X tg ψ es os es' os1 := fun F σ H v Q ow s c qq => k F σ H v Q ow s c fun F' σ' H' e o l => qq F' σ' H' e o.drop l
end
end Z
namespace Z
open PySem PySem.Spec PyProof.Rows L2
end Z
namespace Z
open PySem PySem.Spec PyProof.Rows L2
abbrev T3 : Type := Tri Int Int Int
abbrev e3 : T3 → PyData := eP3 PyData.int PyData.int PyData.int
/-- the place of a triple in the order, if its parts lie in [0, 10^6) -/
def cd3 (t : T3) : Int := (t.a * 1000000 + t.b) * 1000000 + t.c
def bd3 (t : T3) : Bool := decide (0 ≤ t.a ∧ t.a < 1000000 ∧ 0 ≤ t.b ∧ t.b < 1000000 ∧ 0 ≤ t.c ∧ t.c < 1000000)
theorem cd3_inj {x y : T3} (hx : bd3 x = true) (hy : bd3 y = true) (h : cd3 x = cd3 y) : x = y := by
  unfold bd3 at hx hy
  rw [decide_eq_true_eq] at hx hy
  unfold cd3 at h
  obtain ⟨a, b, c⟩ := x
  obtain ⟨a', b', c'⟩ := y
  simp only at h hx hy
  have e1 : a = a' := by omega
  have e2 : b = b' := by omega
  have e3 : c = c' := by omega
  rw [e1, e2, e3]
theorem cd3_code (t : T3) : TS.code 1000000 [t.a, t.b, t.c] = cd3 t := by
  unfold cd3
  show t.a * (1000000 : Int) ^ 2 + (t.b * (1000000 : Int) ^ 1 + (t.c * (1000000 : Int) ^ 0 + 0)) = _
  omega
def ins3 (x : T3) : List T3 → List T3
  | [] => [x]
  | y :: ys => if cd3 x ≤ cd3 y then x :: y :: ys else y :: ins3 x ys
def srt3 : List T3 → List T3
  | [] => []
  | x :: xs => ins3 x (srt3 xs)
theorem ins3_perm (x : T3) : ∀ ys : List T3, (ins3 x ys).Perm (x :: ys)
  | [] => .refl _
  | y :: ys => by
    unfold ins3
    split
    · exact .refl _
    · exact ((ins3_perm x ys).cons y).trans (.swap x y ys)
theorem srt3_perm : ∀ xs : List T3, (srt3 xs).Perm xs
  | [] => .refl _
  | x :: xs => (ins3_perm x _).trans ((srt3_perm xs).cons x)
theorem ins3_srt (x : T3) : ∀ {ys : List T3}, ys.Pairwise (fun a b => cd3 a ≤ cd3 b) → (ins3 x ys).Pairwise (fun a b => cd3 a ≤ cd3 b)
  | [], _ => List.pairwise_singleton _ _
  | y :: ys, h => by
    unfold ins3
    rw [List.pairwise_cons] at h
    split
    · rename_i hxy
      refine List.pairwise_cons.mpr ⟨fun z hz => ?_, List.pairwise_cons.mpr h⟩
      rcases List.mem_cons.mp hz with rfl | hz
      · exact hxy
      · exact Int.le_trans hxy (h.1 z hz)
    · rename_i hxy
      refine List.pairwise_cons.mpr ⟨fun z hz => ?_, ins3_srt x h.2⟩
      rcases List.mem_cons.mp ((ins3_perm x ys).mem_iff.mp hz) with rfl | hz
      · omega
      · exact h.1 z hz
theorem srt3_srt : ∀ xs : List T3, (srt3 xs).Pairwise (fun a b => cd3 a ≤ cd3 b)
  | [] => .nil
  | x :: xs => ins3_srt x (srt3_srt xs)
theorem srt3_one : ∀ {a b : List T3}, a.Perm b → (∀ x ∈ a, bd3 x = true) → a.Pairwise (fun a b => cd3 a ≤ cd3 b) → b.Pairwise (fun a b => cd3 a ≤ cd3 b) → a = b
  | [], b, p, _, _, _ => p.nil_eq
  | x :: a, [], p, _, _, _ => by have := p.length_eq; simp at this
  | x :: a, y :: b, p, hb, h1, h2 => by
    rw [List.pairwise_cons] at h1 h2
    have hxy : x = y := by
      have a1 : y ∈ x :: a := p.mem_iff.mpr List.mem_cons_self
      have b1 : x ∈ y :: b := p.mem_iff.mp List.mem_cons_self
      have by' := hb y a1
      rcases List.mem_cons.mp a1 with e | a1
      · exact e.symm
      · rcases List.mem_cons.mp b1 with e | b1
        · exact e
        · have := h1.1 y a1
          have := h2.1 x b1
          exact cd3_inj (hb x List.mem_cons_self) by' (by omega)
    subst hxy
    rw [srt3_one (List.Perm.cons_inv p) (fun z hz => hb z (List.mem_cons_of_mem _ hz)) h1.2 h2.2]
def srtO3 (xs : List T3) : Option (List T3) := if xs.length < 64 ∧ xs.all bd3 = true then some (srt3 xs) else none
theorem dqall_perm {F : Hp} {us vs : List V} (p : us.Perm vs) : ∀ {xs : List T3}, DqAll F us (xs.map e3) → ∃ ys : List T3, xs.Perm ys ∧ DqAll F vs (ys.map e3) := by
  induction p with
  | nil => intro xs h; exact ⟨xs, .refl _, h⟩
  | cons v _ ih =>
    intro xs h
    cases xs with
    | nil => cases h
    | cons x xs =>
      cases h with
      | cons h1 h2 =>
        obtain ⟨ys, p, h3⟩ := ih h2
        exact ⟨x :: ys, p.cons x, .cons h1 h3⟩
  | swap v w l =>
    intro xs h
    cases xs with
    | nil => cases h
    | cons x xs =>
      cases h with
      | cons h1 h2 =>
        cases xs with
        | nil => cases h2
        | cons y xs =>
          cases h2 with
          | cons h3 h4 => exact ⟨y :: x :: xs, .swap y x xs, .cons h3 (.cons h1 h4)⟩
  | trans _ _ ih1 ih2 =>
    intro xs h
    obtain ⟨ys, p, h⟩ := ih1 h
    obtain ⟨zs, q, h⟩ := ih2 h
    exact ⟨zs, p.trans q, h⟩
theorem tup3 {K : PySem.W.Frag} {F H : Hp} (e : Same F H) {v : V} {t : T3} (h : Dq F v (e3 t)) : TupI K H v [t.a, t.b, t.c] := by
  cases h with
  | tup hs ha =>
    have := dqall_of_ints [t.a, t.b, t.c] ha
    subst this
    exact ⟨_, rfl, .inl (.of (e _ _ hs))⟩
theorem pw3 {K : PySem.W.Frag} {F H : Hp} (e : Same F H) : ∀ {vs : List V} {xs : List T3}, DqAll F vs (xs.map e3) → vs.Pairwise (fun x y => ∀ n m, TupI K H x n → TupI K H y m → TS.code 1000000 n ≤ TS.code 1000000 m) → xs.Pairwise (fun a b => cd3 a ≤ cd3 b)
  | _, [], _, _ => .nil
  | _, x :: xs, h, p => by
    cases h with
    | cons h1 h2 =>
      rw [List.pairwise_cons] at p
      refine List.pairwise_cons.mpr ⟨fun y hy => ?_, pw3 e h2 p.2⟩
      obtain ⟨i, hi⟩ := List.mem_iff_getElem?.mp hy
      obtain ⟨v, hv, dv⟩ := dqall_get' (d := e3 y) h2 (by rw [List.getElem?_map, hi]; rfl)
      have := p.1 v (List.mem_of_getElem? hv) _ _ (tup3 e h1) (tup3 e dv)
      rw [cd3_code, cd3_code] at this
      exact this
theorem rc_sortT3 {X : Cx} {os : Os} {φ : VP} {xs ys : List T3} (hr : RdL X φ os (xs.map e3)) (h : srtO3 xs = some ys) : RCN (rSortU X.K 3 1000000) [φ] os (ol (ys.map e3)) os := fun F H vs Q ow c q => by
  obtain ⟨v, rfl, hc⟩ := cla1 c
  obtain ⟨a, us, rfl, h1, h2⟩ := hr F H v ow hc
  unfold srtO3 at h
  split at h
  · rename_i hb
    cases h
    have hl := dqall_len h2
    rw [List.length_map] at hl
    have bd := List.all_eq_true.mp hb.2
    refine ⟨a, us, rfl, h1, by omega, fun x hx => ?_, fun us' p pm st hp => ?_⟩
    · obtain ⟨i, hi⟩ := List.mem_iff_getElem?.mp hx
      obtain ⟨d, hd, dd⟩ := dqall_get h2 hi
      rw [List.getElem?_map] at hd
      cases ht : xs[i]? with
      | none => rw [ht] at hd; cases hd
      | some t =>
        rw [ht] at hd
        cases hd
        have b := bd t (List.mem_of_getElem? ht)
        unfold bd3 at b
        rw [decide_eq_true_eq] at b
        refine ⟨_, tup3 ow.ex dd, rfl, fun m hm => ?_⟩
        simp only [List.mem_cons, List.not_mem_nil, or_false] at hm
        rcases hm with rfl | rfl | rfl <;> omega
    · obtain ⟨zs, pz, hz⟩ := dqall_perm pm.symm h2
      have : zs = srt3 xs := srt3_one (pz.symm.trans (srt3_perm xs).symm) (fun x hx => bd x (pz.mem_iff.mpr hx)) (pw3 ow.ex hz st) (srt3_srt xs)
      subst this
      exact q F _ p (Same.refl F) (ow.new hp fun G g => ⟨_, rfl, dqall_monoH g hz⟩)
  · cases h
end Z
namespace Z
open PySem PySem.Spec PyProof.Rows L2
theorem wipe_get : ∀ (vs : List Nat) (σ : L2.St) (n : Nat), (wipe σ vs)[n]? = if n ∈ vs then (σ[n]?).map (fun _ => none) else σ[n]?
  | [], σ, n => by rw [if_neg (by simp)]; rfl
  | v :: vs, σ, n => by
    have e : wipe σ (v :: vs) = (wipe σ vs).set v none := rfl
    rw [e, List.getElem?_set, wipe_get vs σ n, wipe_length]
    by_cases hv : v = n
    · subst hv
      rw [if_pos rfl, if_pos List.mem_cons_self]
      by_cases hl : v < σ.length
      · rw [if_pos hl, List.getElem?_eq_getElem hl]; rfl
      · rw [if_neg hl, List.getElem?_eq_none (by omega)]; rfl
    · rw [if_neg hv]
      by_cases hm : n ∈ vs
      · rw [if_pos hm, if_pos (List.mem_cons_of_mem _ hm)]
      · rw [if_neg hm, if_neg (fun z => (List.mem_cons.mp z).elim (fun q => hv q.symm) hm)]
theorem wipe_twice (vs : List Nat) (σ : L2.St) : wipe (wipe σ vs) vs = wipe σ vs := by
  refine List.ext_getElem? fun n => ?_
  rw [wipe_get, wipe_get]
  by_cases h : n ∈ vs
  · rw [if_pos h, if_pos h, Option.map_map]; rfl
  · rw [if_neg h, if_neg h]
theorem wipe_back {vs : List Nat} {σ σ' : L2.St} (hl : σ'.length = σ.length) (h : ∀ n, n ∉ vs → σ'[n]? = σ[n]?) (hw : wipe σ vs = σ) : wipe σ' vs = σ := by
  refine List.ext_getElem? fun n => ?_
  rw [wipe_get]
  by_cases hn : n ∈ vs
  · rw [if_pos hn]
    have e : (wipe σ vs)[n]? = σ[n]? := by rw [hw]
    rw [wipe_get, if_pos hn] at e
    rw [← e]
    by_cases hb : n < σ.length
    · rw [List.getElem?_eq_getElem hb, List.getElem?_eq_getElem (by omega)]; rfl
    · rw [List.getElem?_eq_none (by omega), List.getElem?_eq_none (by omega)]
  · rw [if_neg hn, h n hn]
section
variable {X : Cx} {es : List Slot} {os os0 os1 os2 : Os} {N V G W : List Str} {k i j m : Nat} {x y z : Str} {pos tpos p1 p2 p3 : Pos} {e : Expr} {α β S : Type} {scope : Scope} {elt iter : Expr} {ifs : List Expr} {xs : List α} {enc : β → PyData}
theorem lc_gtri {K : PySem.W.Frag} {d1 d2 d3 : α → PyData} (x : α) (F : Hp) (σ : L2.St) (H : Hp) (v : L2.V) (Q : L2.St → Hp → Prop) (os2 : Os) (sl : Sl F es σ) (hw : wipe σ [i, j, m] = σ) (ow : Ow F os2 H) (c : Cl (dat (.tuple [d1 x, d2 x, d3 x])) F v)
    (q : ∀ σ', Sl F (((es.set i (Z.sl (dat (d1 x)))).set j (Z.sl (dat (d2 x)))).set m (Z.sl (dat (d3 x)))) σ' → wipe σ' [i, j, m] = σ → Q σ' H) : gTup K 3 (gCons (gName i) (gCons (gName j) (gCons (gName m) gNil))) v σ H Q := by
  obtain ⟨p, vs, rfl, hp, hv⟩ := rdt_dat F v c
  cases hv with
  | cons k1 r =>
    cases r with
    | cons k2 r =>
      cases r with
      | cons k3 r =>
        cases r
        refine ⟨p, _, rfl, .of (ow.ex _ _ hp), rfl, _, _, rfl, _, _, rfl, _, _, rfl, rfl, ?_⟩
        refine q _ (((sl.put (cl_dat k1)).put (cl_dat k2)).put (cl_dat k3)) ?_
        refine wipe_back (by rw [List.length_set, List.length_set, List.length_set]) (fun n hn => ?_) hw
        simp only [List.mem_cons, List.not_mem_nil, or_false, not_or] at hn
        rw [List.getElem?_set_ne (Ne.symm hn.2.2), List.getElem?_set_ne (Ne.symm hn.2.1), List.getElem?_set_ne (Ne.symm hn.1)]
theorem pg_own3 {X' : Cx} {kk : Nat} (hf : Fam X scope X') (B : Bd X N W G k) (hi : N[i]? = some x) (hj : N[j]? = some y) (hm : N[m]? = some z) (h1 : ownB scope X.env.scope x = true) (h2 : ownB scope X.env.scope y = true) (h3 : ownB scope X.env.scope z = true) :
    PG X' (.Tuple [.Name x p1, .Name y p2, .Name z p3] kk tpos) (gTup X'.K 3 (gCons (gName i) (gCons (gName j) (gCons (gName m) gNil)))) := by
  have hc : X'.calm = true := by
    obtain ⟨s, H, C, cl, fp, rfl⟩ := hf
    exact B.calm
  exact pg_tup (n := 3) hc (pgs_cons (pg_own hf B hi h1) (pgs_cons (pg_own hf B hj h2) (pgs_cons (pg_own hf B hm h3) pgs_nil)))
theorem lc_mk3 {c : Os → Prop} {d1 d2 d3 : α → PyData} {kk : Nat} (f : S → α → Option (Option β × S)) (OS : S → Os → Os) (s0 : S) (ys : List β) (sf : S) (B : Bd X N W G k) (hi : N[i]? = some x) (hj : N[j]? = some y) (hm : N[m]? = some z) (hu1 : es[i]? = some un) (hu2 : es[j]? = some un) (hu3 : es[m]? = some un) (hblk : blkC X.N X.env.scope scope [(x, i), (y, j), (z, m)] = true)
    (ho1 : ownB scope X.env.scope x = true) (ho2 : ownB scope X.env.scope y = true) (ho3 : ownB scope X.env.scope z = true) (hif : ifs.length ≤ 1)
    (hl : xs.length < sizeLine ∧ lcS f xs s0 = some (ys, sf)) (hx : IX X (.Tuple [.Name x p1, .Name y p2, .Name z p3] kk tpos) es os iter xs (fun z => dat (.tuple [d1 z, d2 z, d3 z])) c (OS s0 os0)) (hc : ∀ s tl, c (OS s tl)) (hperm : ∀ s q tl, (OS s (q :: tl)).Perm (q :: OS s tl))
    (hb : ∀ s z t tl, z ∈ xs → f s z = some t → ∃ b os1, ∀ X', Fam X scope X' → PTX X' (((es.set i (sl (dat (d1 z)))).set j (sl (dat (d2 z)))).set m (sl (dat (d3 z)))) (OS s tl) ifs b os1 ∧ (b = true → ∃ y, t.1 = some y ∧ EX X' (((es.set i (sl (dat (d1 z)))).set j (sl (dat (d2 z)))).set m (sl (dat (d3 z)))) os1 elt (dat (enc y)) (OS t.2 tl)) ∧ (b = false → t.1 = none ∧ os1 = OS t.2 tl)) :
    LcOk X es os (.Tuple [.Name x p1, .Name y p2, .Name z p3] kk tpos) iter elt ifs scope [(x, i), (y, j), (z, m)] xs (fun z => dat (.tuple [d1 z, d2 z, d3 z])) c (gTup X.K 3 (gCons (gName i) (gCons (gName j) (gCons (gName m) gNil)))) (fun z es => ((es.set i (sl (dat (d1 z)))).set j (sl (dat (d2 z)))).set m (sl (dat (d3 z)))) enc f OS s0 os0 ys sf where
  calm := B.calm
  nd := B.hN ▸ B.nd
  ok := blkOk_by hblk
  pg := fun X' hX => by
    have hK : X'.K = X.K := by
      obtain ⟨_, _, _, _, _, rfl⟩ := hX
      rfl
    have := pg_own3 (tpos := tpos) (kk := kk) (p1 := p1) (p2 := p2) (p3 := p3) hX B hi hj hm ho1 ho2 ho3
    rw [hK] at this
    exact this
  hv := fun n hn => by
    have e : n = i ∨ n = j ∨ n = m := by simpa using hn
    rcases e with rfl | rfl | rfl
    · exact hu1
    · exact hu2
    · exact hu3
  hid := wipe_twice _
  hg := fun x F σ H v Q os2 sl hw ow c q => lc_gtri x F σ H v Q os2 sl hw ow c q
  hif := hif
  hl := hl.2
  hz := hl.1
  hi := hx
  hc := hc
  hperm := hperm
  hb := hb
end
section
variable {X : Cx} {es : List Slot} {os os1 os2 : Os} {N V G W : List Str} {k : Nat} {pos : Pos} {a b : Expr} {φ ψ : VP} {α : Type} [DecidableEq α] {e : α → PyData} {m : Nat} {x : α} {xs : List α}
theorem any_in (h : EqvOk e) (x : α) : ∀ xs : List α, ((xs.map e).any fun z => PyData.eqv z (e x)) = xs.contains x
  | [] => rfl
  | y :: ys => by
    rw [List.map_cons, List.any_cons, any_in h x ys, h y x, List.contains_cons]
    by_cases q : y = x
    · subst q; simp
    · have q2 : ¬ x = y := fun z => q z.symm
      simp [q, q2]
theorem r2_ninD (h : EqvOk e) (s : ShOk e m) (hn : m ≤ 60) (r1 : RdX X φ os (e x)) (r2 : RdX X ψ os (eL e xs)) : R2X X (rNotInD X.K) φ ψ os (dat (.bool (!xs.contains x))) := fun F H u v Q ow cx cy q =>
  have s1 := s.shaped (by omega) x
  have s2 := (sh_list s).shaped (by omega) xs
  ⟨e x, xs.map e, r1 (shaped_lay s1) F H u ow cx, r2 (shaped_lay s2) F H v ow cy, s1, s2, by rw [any_in h]; exact q F H _ (Same.refl F) ow (cl_dat (.bl _))⟩
theorem Bd.u65 (B : Bd X N W G k) : X.A.units + 65 < cLine := by
  have := B.room.un
  omega
theorem tx_ninD (B : Bd X N W G k) (h : EqvOk e) (s : ShOk e m) (hn : m ≤ 60) (r1 : RdX X φ os2 (e x)) (r2 : RdX X ψ os2 (eL e xs)) (hm : behindInMarks .NotIn b = false) (ha : EX X es os a φ os1) (hb : EX X es os1 b ψ os2) : TX X es os (.Compare a [.NotIn] [b] pos) (!xs.contains x) os2 :=
  tx_cmp (op_notInD B.u65) (r2_ninD h s hn r1 r2) hm ha hb
end
end Z
namespace Z
open PySem PySem.Spec PyProof.Rows L2
def inR {α : Type} (xs : List α) (z : Int) : Option Unit := if 0 ≤ z ∧ z < xs.length then some () else none
end Z
namespace Z
open PySem PySem.Spec PyProof.Rows L2
/-- x in xs, by ==, of data -/
abbrev hasD {α : Type} [DecidableEq α] (xs : List α) (x : α) : Bool := @List.contains α instBEqOfDecidableEq xs x
end Z
namespace Z
open PySem PySem.Spec L2
end Z
namespace Z
open PySem PySem.Spec PyProof.Rows L2
section
variable {X : Cx} {pins : List (Addr × Obj)} {σ : L2.St} {H : Hp} {s : Shared} {D b : Addr} {r : Value} {d : L2.V} {k : List Key} {E : Value → Shared → Prop}
theorem dset_tup {kvs : List (List Key × L2.V)} {Q : Unit → Shared → Prop} (hu : X.A.units + 1 < cLine) (I : Inv X pins σ H s) (e : H D = some (.dT kvs)) (eb : H b = some (.tup (k.map kV))) (rd : RelV d r) (hl : kvs.length < sizeLine)
    (h : ∀ s' : Shared, Inv X pins σ (upd H D (.dT (putK kvs k d))) s' → Q () s') : wpAny (model X.prog X.w) X.A (dictSet D (.ref b) r) Q E s := by
  obtain ⟨z, hd, xs, rel, dd⟩ := dt_of I.hok e
  have hz : xs.length ≤ sizeLine := by rw [← Paired.length rel]; exact z
  have hl2 : (putK kvs k d).length ≤ sizeLine := by
    have := length_putK kvs k d
    omega
  refine wpAny_dictSet_heap (knd := tupleKind (mixKind X.prog X.w)) ?_ (key_of I.hok eb) dd (fun h' dd' hs => ?_) hz
  · show X.A.units < cLine
    omega
  obtain ⟨q, es, ep, hq, g2, g3, g4, _, g5⟩ := dd'
  refine h _ (d_write (t' := _) I (by rw [e]; exact True.intro) hs ⟨q, hq⟩ ⟨hl2, hd, _, (rel.put k eb rd).keeps fun c ys ec => ?_, q, es, ep, hq, g2, g3, g4, g5⟩)
  rw [upd_ne (ne_of ec e (fun z => nomatch z))]
  exact ec
end
/-- {k: v for ..}, the keys tuples -/
def tDcT (wi : TI) (g : TG) (tt : TT) (tk tv : TE) (vs : List Nat) : TE := fun σ H Q => wi σ H fun J H1 => ∀ D : Addr, H1 D = none → ∃ W : Nat → Nat → Hp → Prop, (∃ m, W 0 m (upd H1 D (.dT []))) ∧ ∀ (i m : Nat) (H : Hp), W i m H → (J.stop i H ∧ Q (.ref D) H) ∨ (J.go i H ∧ ∃ Nx : Hp → Prop, (∀ H' : Hp, Nx H' → ∃ m', m' < m ∧ W (i + 1) m' H') ∧
  ∀ (x : L2.V) (H' : Hp), J.yld i H x H' → g x (wipe σ vs) H' fun σ2 H2 => wipe σ2 vs = wipe σ vs ∧ tt σ2 H2 fun b H3 => if b = true then tk σ2 H3 fun y H4 => tv σ2 H4 fun z H5 => ∃ (kvs : List (List Key × L2.V)) (k : List Key) (a : Addr), y = .ref a ∧ H5 a = some (.tup (k.map kV)) ∧ H5 D = some (.dT kvs) ∧ kvs.length < sizeLine ∧ Nx (upd H5 D (.dT (putK kvs k z))) else Nx H3)
section
variable {X : Cx} {kx vx tg iter : Expr} {ifs : List Expr} {scope : Scope} {own : List (Str × Nat)} {pos : Pos} {wi : TI} {g : TG} {tt : TT} {tk tv : TE}
theorem dcT_core {pins : List (Addr × Obj)} {s : Shared} {σ : L2.St} {H : Hp} {Q : VK} {pos' : Pos} {use : Option (Value → Sem Unit)} {Qf : Value → Shared → Prop} (hu : X.A.units + 1 < cLine) (hc : X.calm = true) (hN : X.N.Nodup) (I : Inv X pins σ H s) (hi : PI X tg iter wi) (ok : BlkOk X.N X.env.scope scope own)
    (hg : ∀ (s : Shared) (H : Hp) (C : Addr) (cl : List (Str × Addr)) (fp : List Addr), PG (X.blk s H scope (compEnvC scope cl C X.env) fp) tg g)
    (ht : ∀ (s : Shared) (H : Hp) (C : Addr) (cl : List (Str × Addr)) (fp : List Addr), PTs (X.blk s H scope (compEnvC scope cl C X.env) fp) ifs tt)
    (hk : ∀ (s : Shared) (H : Hp) (C : Addr) (cl : List (Str × Addr)) (fp : List Addr), PE (X.blk s H scope (compEnvC scope cl C X.env) fp) kx tk)
    (he : ∀ (s : Shared) (H : Hp) (C : Addr) (cl : List (Str × Addr)) (fp : List Addr), PE (X.blk s H scope (compEnvC scope cl C X.env) fp) vx tv)
    (hs : ∀ x : Value, foldedSetIterable iter X.env x = pure x) (h : tDcT wi g tt tk tv (own.map fun x => x.2) σ H Q)
    (hRR : ∀ (D C : Addr) (s' : Shared) (m : Str → Option Value) (H' : Hp), Inv X pins σ H' s' → Q (V.ref D) H' → s'.heap.Ns C m → FpOk X pins H' C → compPost (model X.prog X.w) X.A X.xe use Qf (Value.ref D) C (Except.ok Flow.next) s') :
    wpAny (model X.prog X.w) X.A (comprehension (.DictComp kx vx [⟨tg, iter, ifs, 0⟩] scope pos) scope X.env pos' newDict false (eval iter X.env) use) Qf X.xe s := by
  have hfree : ∀ y : Str × NameKind, y ∈ scope.names → y.2 = NameKind.free → ∃ c, List.lookup y.1 X.env.cells = some c := fun y hy e => by
    rcases ok.free y hy e with k | k
    · exact I.ok.has y.1 (.inl k)
    · exact I.ok.has y.1 (.inr k)
  refine wpAny_comprehension_free (cl := cloFrom X.env.cells scope.names []) rfl hs (closure_ok hfree) ok.kind (fun y hy e => by rw [ok.uniq y hy, e]) ?_
  refine thn (hi.run pins s σ H _ I h) fun xv s1 hx => thn hx fun itv s2 h2 => ?_
  obtain ⟨it, fp, tn, J, H2, rfl, I2, T, st2, f2, q⟩ := h2
  refine wpAny_newObj_type (newEnv_comp ?_)
  obtain ⟨W, ⟨m0, w0⟩, turn⟩ := q s2.heap.objs.size (HOk.fresh I2.hok (Nat.le_refl _))
  have I3 := Inv.laid (t' := s2.toks) I2 (fun b o e => Heap.get?_push_of_some { cls := Value.type "dict", data := Data.dict #[] } e) (Nat.le_refl _) (dt_empty s2.heap I2.big)
  have sz : ∀ b : Addr, b ∈ fp → b < s2.heap.objs.size := fun b hb => by
    obtain ⟨o, e, _⟩ := T.obj 0 s2.heap st2 b hb
    exact Heap.lt_size e
  have f3 : ∀ b : Addr, b ∈ fp → FpOk X pins (upd H2 s2.heap.objs.size (.dT [])) b ∧ b < (s2.heap.push { cls := Value.type "dict", data := Data.dict #[] }).objs.size := fun b hb => by
    have hlt := sz b hb
    refine ⟨⟨?_, (f2 b hb).2⟩, ?_⟩
    · rw [upd_ne (Nat.ne_of_lt hlt)]
      exact (f2 b hb).1
    · rw [Heap.size_push]
      exact Nat.lt_succ_of_lt hlt
  have st3 := T.keep 0 s2.heap (s2.heap.push { cls := Value.type "dict", data := Data.dict #[] }) st2 fun b _ o e => Heap.get?_push_of_some { cls := Value.type "dict", data := Data.dict #[] } e
  generalize hs3 : ({ heap := s2.heap.push { cls := Value.type "dict", data := Data.dict #[] }, gens := s2.gens, drawn := s2.drawn, toks := s2.toks, os := s2.os } : Shared) = s3 at I3 ⊢
  have h3 : s3.heap = s2.heap.push { cls := Value.type "dict", data := Data.dict #[] } := by rw [← hs3]
  rw [← h3] at st3
  have f3 : ∀ b : Addr, b ∈ fp → FpOk X pins (upd H2 s2.heap.objs.size (.dT [])) b ∧ b < s3.heap.objs.size := fun b hb => by rw [h3]; exact f3 b hb
  generalize hH3 : upd H2 s2.heap.objs.size (HO.dT []) = H3 at I3 f3 w0
  have I4 := block_start I3 ok hN f3
  have pg := hg s3 H3 s3.heap.objs.size (cellsFrom (s3.heap.objs.size + 1) scope.names (cloFrom X.env.cells scope.names [])) fp
  have pt := ht s3 H3 s3.heap.objs.size (cellsFrom (s3.heap.objs.size + 1) scope.names (cloFrom X.env.cells scope.names [])) fp
  have pk := hk s3 H3 s3.heap.objs.size (cellsFrom (s3.heap.objs.size + 1) scope.names (cloFrom X.env.cells scope.names [])) fp
  have pe := he s3 H3 s3.heap.objs.size (cellsFrom (s3.heap.objs.size + 1) scope.names (cloFrom X.env.cells scope.names [])) fp
  have cL : (compEnvC scope (cellsFrom (s3.heap.objs.size + 1) scope.names (cloFrom X.env.cells scope.names [])) s3.heap.objs.size X.env).locals = s3.heap.objs.size := rfl
  show codeAny (model X.prog X.w) X.A (Code.compStart _ 0 _ _ (compEnvC scope (cellsFrom (s3.heap.objs.size + 1) scope.names (cloFrom X.env.cells scope.names [])) s3.heap.objs.size X.env)) _ _
  generalize hE : compEnvC scope (cellsFrom (s3.heap.objs.size + 1) scope.names (cloFrom X.env.cells scope.names [])) s3.heap.objs.size X.env = en at I4 pg pt pk pe cL ⊢
  have nfp : ∀ b : Addr, b ∈ fp → H3 b = none := fun b hb => (f3 b hb).1.1
  have st4 := T.keep 0 s3.heap (pushCells (s3.heap.push { cls := Value.type "dict", data := Data.dict #[] }) scope.names) st3 fun b _ o e => pushCells_keeps scope.names _ b o (Heap.get?_push_of_some { cls := Value.type "dict", data := Data.dict #[] } e)
  have stat : ∀ {σ' : L2.St} {H' : Hp} {s' : Shared}, Inv (X.blk s3 H3 scope en fp) [] σ' H' s' → (∀ b : Addr, b ∈ fp → H' b = none) → ∀ b : Addr, b ∈ fp → FpOk (X.blk s3 H3 scope en fp) [] H' b := fun {σ' H' s'} I' hn b hb =>
    ⟨hn b hb, (I'.ok.exf b hb).1, I'.ok.exfs b hb, .inl hb, fun x c e => (I'.ok.exf b hb).2 x c e, fun p hp => absurd (show p ∈ ([] : List (Addr × Obj)) from hp) List.not_mem_nil⟩
  have loop : ∀ s4 : Shared, Inv (X.blk s3 H3 scope en fp) [] (wipe σ (own.map fun x => x.2)) H3 s4 → tn 0 s4.heap → codeAny (model X.prog X.w) X.A (Code.compLoop (kx.DictComp vx [{ target := tg, iter := iter, ifs := ifs, is_async := 0 }] scope pos) 0 (Value.ref it) (Value.ref s2.heap.objs.size) en) (compPost (model X.prog X.w) X.A X.xe use Qf (Value.ref s2.heap.objs.size) s3.heap.objs.size) s4 := fun s4 I4 st4 => by
    refine compLoop_anyD (fun n s' => ∃ (i : Nat) (H' : Hp), Inv (X.blk s3 H3 scope en fp) [] (wipe σ (own.map fun x => x.2)) H' s' ∧ tn i s'.heap ∧ (∀ b : Addr, b ∈ fp → H' b = none) ∧ W i n H') (fun n s5 a => ?_) m0 ⟨0, H3, I4, st4, nfp, w0⟩
    obtain ⟨i, H5, I5, st5, n5, w5⟩ := a
    rcases turn i n H5 w5 with ⟨stop, qq⟩ | ⟨go, Nx, hNx, step⟩
    · refine thnF (T.done (X.blk s3 H3 scope en fp) rfl rfl rfl hc i [] s5 _ H5 (fun _ _ => False) I5 (stat I5 n5) st5 stop) fun r s6 h6 => ?_
      obtain ⟨rfl, I6⟩ := h6
      have I7 := Inv.call' I3 I6.os I6.base I6.hok I6.bare fun b hb => ⟨(f3 b hb).1.2.2.2.1, (f3 b hb).1.2.1, (f3 b hb).1.2.2.2.2.1, (f3 b hb).1.2.2.2.2.2⟩
      have nC : H5 s3.heap.objs.size = none := by
        rw [← cL]
        exact I6.free
      obtain ⟨m, hn, _⟩ := I6.loc
      exact hRR s2.heap.objs.size s3.heap.objs.size s6 m H5 I7 qq (by rw [← cL]; exact hn) (Inv.fpOk I3 (Nat.le_refl _) nC)
    · refine thnF (T.item (X.blk s3 H3 scope en fp) rfl rfl rfl hc i [] s5 _ H5 (fun _ _ => False) I5 (stat I5 n5) st5 go) fun r s6 h6 => ?_
      obtain ⟨u, rfl, h6⟩ := h6
      refine thnF h6 fun _ s7 h7 => ?_
      obtain ⟨x, H7, I7, r7, y7, st7, n7⟩ := h7
      have I7' := I7.pinned (stat I7 n7) (T.obj (i + 1) s7.heap st7)
      refine thnF (pg.run ([] ++ pinsAt fp s7.heap) s7 _ H7 x u _ I7' r7 (step x H7 y7)) fun _ s8 h8 => ?_
      obtain ⟨σ8, H8, I8, hw8, q8⟩ := h8
      refine thnF (pt.run ([] ++ pinsAt fp s7.heap) s8 σ8 H8 _ I8 q8) fun bb s9 h9 => ?_
      obtain ⟨H9, I9, q9⟩ := h9
      have fin : ∀ {s' : Shared} {H' : Hp}, Inv (X.blk s3 H3 scope en fp) ([] ++ pinsAt fp s7.heap) σ8 H' s' → Nx H' → ∃ m, m < n ∧ ∃ (i : Nat) (H' : Hp), Inv (X.blk s3 H3 scope en fp) [] (wipe σ (own.map fun x => x.2)) H' s' ∧ tn i s'.heap ∧ (∀ b : Addr, b ∈ fp → H' b = none) ∧ W i m H' := fun {s' H'} I' nx => by
        obtain ⟨m', hm, w'⟩ := hNx H' nx
        have pin' : ∀ b : Addr, b ∈ fp → ∀ o, s7.heap.get? b = some o → s'.heap.get? b = some o ∧ H' b = none := fun b hb o e => by
          have z := I'.pin (b, o) (List.mem_append_right _ (List.mem_append_right _ (mem_pinsAt hb e)))
          exact ⟨z.1, z.2.1⟩
        refine ⟨m', hm, i + 1, H', I'.unpinned.weak ?_ fun j v e => ?_, T.keep (i + 1) s7.heap s'.heap st7 fun b hb o e => (pin' b hb o e).1, fun b hb => ?_, w'⟩
        · rw [← hw8]
          exact wipe_length _ _
        · rw [← hw8] at e
          exact (wipe_some e).1
        · obtain ⟨o, e, _⟩ := T.obj (i + 1) s7.heap st7 b hb
          exact (pin' b hb o e).2
      cases bb with
      | false =>
        rw [if_neg Bool.false_ne_true] at q9 ⊢
        exact fin I9 q9
      | true =>
        rw [if_pos rfl] at q9 ⊢
        refine thnF (pk.run _ s9 σ8 H9 _ I9 q9) fun z s10 h10 => ?_
        obtain ⟨yk, H10, I10, r10, q10⟩ := h10
        refine thnF (pe.run _ s10 σ8 H10 _ I10 q10) fun z2 s11 h11 => ?_
        obtain ⟨yv, H11, I11, r11, kvs, k, a, rfl, ea, hD, hl, nx⟩ := h11
        obtain rfl : z = Value.ref a := r10
        exact dset_tup (X := X.blk s3 H3 scope en fp) hu I11 hD ea r11 hl fun s12 I12 => fin I12 nx
  exact codeAny_compStart_dict (loop _ I4 st4) (T.self X.A 0 _ _ _ st4 (loop _ I4 st4))
theorem pe_dcT (hu : X.A.units + 1 < cLine) (hc : X.calm = true) (hN : X.N.Nodup) (hi : PI X tg iter wi) (ok : BlkOk X.N X.env.scope scope own)
    (hg : ∀ (s : Shared) (H : Hp) (C : Addr) (cl : List (Str × Addr)) (fp : List Addr), PG (X.blk s H scope (compEnvC scope cl C X.env) fp) tg g)
    (ht : ∀ (s : Shared) (H : Hp) (C : Addr) (cl : List (Str × Addr)) (fp : List Addr), PTs (X.blk s H scope (compEnvC scope cl C X.env) fp) ifs tt)
    (hk : ∀ (s : Shared) (H : Hp) (C : Addr) (cl : List (Str × Addr)) (fp : List Addr), PE (X.blk s H scope (compEnvC scope cl C X.env) fp) kx tk)
    (he : ∀ (s : Shared) (H : Hp) (C : Addr) (cl : List (Str × Addr)) (fp : List Addr), PE (X.blk s H scope (compEnvC scope cl C X.env) fp) vx tv)
    (hs : ∀ x : Value, foldedSetIterable iter X.env x = pure x) : PE X (.DictComp kx vx [⟨tg, iter, ifs, 0⟩] scope pos) (tDcT wi g tt tk tv (own.map fun x => x.2)) := by
  refine ⟨fun pins s σ H Q I h => ?_⟩
  rw [arm_eval_DictComp]
  refine dcT_core hu hc hN I hi ok hg ht hk he hs h fun D C s' m H' I' q hn f => ?_
  obtain ⟨p0, p1, _, p3, p4, p5⟩ := f
  exact ⟨m, hn, fun h2 sb => ⟨V.ref D, H', Inv.turned I' (fun b o hb e => (sb.2 b hb).trans e) p0 p1 p3 p4 p5, rfl, q⟩⟩
end
section
variable {X : Cx} {es : List Slot} {os os0 os1 os2 : Os} {F0 : Hp} {rest : List Stmt} {D : Ends} {N V G W : List Str} {k i j vi gi : Nat} {x y : Str} {p pos tpos : Pos} {e : Expr} {α β κ γ : Type} {scope : Scope} {iter tg elt kx vx : Expr} {ifs : List Expr} {own : List (Str × Nat)} {xs : List α} {vp : α → VP} {c : Os → Prop} {g : TG} {up : α → List Slot → List Slot}
def DcTT [DecidableEq κ] (f : κ → List Key) (enc : β → PyData) (m : α → Option (Option (κ × β))) (xs : List α) (wf : List (κ × β)) (os0 : Os) (Dl : Addr) (F1 : Hp) (i : Nat) (H : Hp) : Prop :=
  ∃ w F, dcS m (xs.drop i) w = some wf ∧ w.length ≤ i ∧ Same F1 F ∧ Ow F ((Dl, od (.tu f) (eM enc w)) :: os0) H
theorem dc_readT [DecidableEq κ] {f : κ → List Key} {enc : β → PyData} {m : α → Option (Option (κ × β))} {wf : List (κ × β)} (hinj : (Kd.tu f).Inj) (h : CpOk X es os tg iter scope own xs vp c g up os0) (hif : ifs.length ≤ 1) (hl : dcS m xs [] = some wf)
    (hb : ∀ x t q, x ∈ xs → m x = some t → ∃ b, ∀ X', Fam X scope X' → PTX X' (up x es) (q :: os0) ifs b (q :: os0) ∧ (b = true → ∃ z, t = some z ∧ EX X' (up x es) (q :: os0) kx (dat ((Kd.tu f).ek z.1)) (q :: os0) ∧ EX X' (up x es) (q :: os0) vx (dat (enc z.2)) (q :: os0)) ∧ (b = false → t = none))
    {F σ H Q} (ow : Ow F os H) (sl : Sl F es σ) (q : ∀ F' H' p, Same F F' → Ow F' ((p, od (.tu f) (eM enc wf)) :: os0) H' → Q (.ref p) H') : tDcT (WI X tg iter) g (tIfs X scope ifs) (tElt X scope kx) (tElt X scope vx) (own.map (·.2)) σ H Q := by
  refine h.hi F σ H _ ow sl fun F1 H1 J e1 o1 good Dl hD => ?_
  refine ⟨fun i n H => n = xs.length - i ∧ i ≤ xs.length ∧ DcTT f enc m xs wf os0 Dl F1 i H, ⟨_, rfl, Nat.zero_le _, [], F1, hl, Nat.le_refl _, Same.refl F1, ?_⟩, ?_⟩
  · exact o1.new hD (od_one (kd := .tu f) .nil)
  · rintro i n H' ⟨rfl, hi, w, F', hr, hwl, e', o'⟩
    obtain ⟨stop, go⟩ := good F' H' _ i e' o' (h.hc _)
    cases hx : xs[i]? with
    | none =>
      have hi2 : xs.length ≤ i := List.getElem?_eq_none_iff.mp hx
      rw [List.drop_eq_nil_of_le hi2] at hr
      cases hr
      exact .inl ⟨stop hi2, q F' H' Dl (e1.trans e') o'⟩
    | some x =>
      obtain ⟨hgo, hyl⟩ := go x hx
      have hlt : i < xs.length := (List.getElem?_eq_some_iff.mp hx).1
      rw [drop_cons' hx] at hr
      unfold dcS at hr
      obtain ⟨t, hm, hr⟩ := bnd hr
      refine .inr ⟨hgo, DcTT f enc m xs wf os0 Dl F1 (i + 1), fun H2 hH2 => ⟨_, by omega, rfl, by omega, hH2⟩, fun v H3 yv => ?_⟩
      obtain ⟨F3, e3, o3, c3⟩ := hyl v H3 yv
      have slw : Sl F3 es (wipe σ (own.map (·.2))) := sl_wipe (sl.mono ((e1.trans e').trans e3)) _ fun j hj => ⟨un, h.hv j hj, rfl⟩
      refine h.hg x F3 _ H3 v _ _ slw (h.hid σ) o3 c3 fun σ' sl' hw => ⟨hw, ?_⟩
      obtain ⟨b, key⟩ := hb x t (Dl, od (.tu f) (eM enc w)) (List.mem_of_getElem? hx) hm
      have yes : ∀ F4 H4, Same F3 F4 → Ow F4 ((Dl, od (.tu f) (eM enc w)) :: os0) H4 → b = true → tElt X scope kx σ' H4 fun y H5 => tElt X scope vx σ' H5 fun z H6 => ∃ (kvs : List (List Key × L2.V)) (k : List Key) (a : Addr), y = .ref a ∧ H6 a = some (.tup (k.map kV)) ∧ H6 Dl = some (.dT kvs) ∧ kvs.length < sizeLine ∧ DcTT f enc m xs wf os0 Dl F1 (i + 1) (upd H6 Dl (.dT (putK kvs k z))) := by
        intro F4 H4 e4 o4 hbt X' hX'
        obtain ⟨_, k2, _⟩ := key X' hX'
        obtain ⟨z, rfl, k3, _⟩ := k2 hbt
        refine k3 F4 σ' H4 _ o4 (sl'.mono e4) fun F5 H5 y e5 o5 c5 => ?_
        intro X'' hX''
        obtain ⟨_, k2', _⟩ := key X'' hX''
        obtain ⟨z', ez, _, k4⟩ := k2' hbt
        cases ez
        refine k4 F5 σ' H5 _ o5 (sl'.mono (e4.trans e5)) fun F6 H6 u e6 o6 c6 => ?_
        obtain ⟨_, o, ho, _, kvs, rfl, dv⟩ := o6.atU uni_od
        have hlen : kvs.length = w.length := by rw [dv_len dv, List.length_map]
        obtain ⟨b', rfl, hb'⟩ := key_val (kd := .tu f) (c5.mono e6)
        refine ⟨_, f z.1, b', rfl, o6.ex _ _ hb', ho, by rw [List.length_map, hlen]; have := h.hz; omega, ?_⟩
        have e7 : putK (kvs.map fun p => (f p.1, p.2)) (f z.1) u = (dPut kvs z.1 u).map fun p => (f p.1, p.2) := dPut_key hinj z.1 u kvs
        rw [e7]
        refine ⟨dPut w z.1 z.2, F6, hr, by have := dput_len w z.1 z.2; omega, ((e'.trans e3).trans e4).trans (e5.trans e6), ?_⟩
        exact o6.putU (o := (Kd.tu f).ho (dPut kvs z.1 u)) uni_od (od_one (kd := .tu f) (dput_enc dv c6.now))
      have no : ∀ F4 H4, Same F3 F4 → Ow F4 ((Dl, od (.tu f) (eM enc w)) :: os0) H4 → t = none → DcTT f enc m xs wf os0 Dl F1 (i + 1) H4 := by
        intro F4 H4 e4 o4 ht
        subst ht
        exact ⟨w, F4, hr, by omega, (e'.trans e3).trans e4, o4⟩
      have ex : b = false → t = none ∨ ¬ ∃ X', Fam X scope X' := fun hb0 => by
        by_cases hX : ∃ X', Fam X scope X'
        · obtain ⟨X', hX'⟩ := hX
          exact .inl ((key X' hX').2.2 hb0)
        · exact .inr hX
      match ifs, hif, key, yes with
      | [], _, key, yes =>
        intro X' hX'
        obtain ⟨k1, k2, k3⟩ := key X' hX'
        cases k1
        exact yes F3 H3 (Same.refl F3) o3 rfl X' hX'
      | [cd], _, key, yes =>
        intro X' hX'
        obtain ⟨k1, k2, k3⟩ := key X' hX'
        cases k1 with
        | one ht =>
          refine ht F3 σ' H3 _ o3 sl' fun F4 H4 e4 o4 => ?_
          cases b with
          | true =>
            rw [if_pos rfl]
            exact yes F4 H4 e4 o4 rfl
          | false =>
            rw [if_neg Bool.false_ne_true]
            exact no F4 H4 e4 o4 (k3 rfl)
      | _ :: _ :: _, hif, _, _ =>
        rw [List.length_cons, List.length_cons] at hif
        omega
theorem en_dcT [DecidableEq κ] {f : κ → List Key} {enc : β → PyData} {m : α → Option (Option (κ × β))} {wf : List (κ × β)} (B : Bd X N W G k) (hinj : (Kd.tu f).Inj) (h : CpOk X es os tg iter scope own xs vp c g up os0) (hif : ifs.length ≤ 1) (hl : dcS m xs [] = some wf)
    (hb : ∀ x t q, x ∈ xs → m x = some t → ∃ b, ∀ X', Fam X scope X' → PTX X' (up x es) (q :: os0) ifs b (q :: os0) ∧ (b = true → ∃ z, t = some z ∧ EX X' (up x es) (q :: os0) kx (dat ((Kd.tu f).ek z.1)) (q :: os0) ∧ EX X' (up x es) (q :: os0) vx (dat (enc z.2)) (q :: os0)) ∧ (b = false → t = none))
    (hs : ∀ x, foldedSetIterable iter X.env x = pure x := by intro _; rfl) : EN X es os (.DictComp kx vx [⟨tg, iter, ifs, 0⟩] scope pos) (od (.tu f) (eM enc wf)) os0 := fun F σ H Q ow sl q =>
  we_of (pe_dcT B.u1 h.calm h.nd pi_u h.ok (fun s H C cl fp => h.pg _ ⟨s, H, C, cl, fp, rfl⟩) (fun s H C cl fp => pts_u ⟨s, H, C, cl, fp, rfl⟩ ifs) (fun s H C cl fp => pe_elt ⟨s, H, C, cl, fp, rfl⟩) (fun s H C cl fp => pe_elt ⟨s, H, C, cl, fp, rfl⟩) hs)
    (dc_readT hinj h hif hl hb ow sl q)
end
abbrev kIII : Kd (Tri Int Int Int) := .tu fun p => [Sum.inl p.a, Sum.inl p.b, Sum.inl p.c]
theorem inj_kIII : kIII.Inj := fun a b h => by
  obtain ⟨a1, a2, a3⟩ := a
  obtain ⟨b1, b2, b3⟩ := b
  injection h with h1 h2
  injection h2 with h2 h3
  injection h3 with h3 _
  have h1 : a1 = b1 := Sum.inl.inj h1
  have h2 : a2 = b2 := Sum.inl.inj h2
  have h3 : a3 = b3 := Sum.inl.inj h3
  rw [h1, h2, h3]
section
variable {X : Cx} {es : List Slot} {os : Os} {β : Type} {enc : β → PyData}
theorem ex_reverse {a : Expr} {apos cpos : Pos} {p : Addr} {xs : List β} {j : Nat} (ho : EX X es os a (own p) os) (hj : os[j]? = some (p, ol (xs.map enc)))
    (hbase : attributeBase a "reverse" X.env (eval a X.env) = eval a X.env := by rfl) (hline : (apos.endLine == cpos.line) = true := by rfl) : EX X es os (.Call (.Attribute a "reverse" apos) [] [] cpos) (dat .none) (os.set j (p, ol (xs.reverse.map enc))) := fun F σ H Q ow sl q =>
  we_of (pe_bm0 PySem.F.plainAttrs_list PySem.F.slot_list_reverse PySem.F.type_list_reverse mt_reverse pe_u hbase hline) (ho F σ H _ ow sl fun F1 H1 v e1 o1 c1 => by
    obtain rfl : v = .ref p := c1.now
    obtain ⟨vs, hp, hv, ty⟩ := ty_own (K := X.K) o1 hj
    refine ⟨ty, p, vs, rfl, rfl, hp, q F1 _ _ e1 (ow_set o1 hj ?_) (cl_dat .non)⟩
    rw [List.map_reverse]
    exact dqall_rev hv)
end
end Z
namespace L13
open PySem PySem.Spec L2 Z
/-- steps_of -/
def m_p_steps_of (letters : Int) : Option (List Int) :=
  ((rngO 1 (letters + 1)).bind fun t1 => ((lp (fun (s2 : (List Int)) (letter3 : Int) => ((catO (α := Int) s2 ([letter3, (-letter3)])).bind fun t7 => some t7)) t1 ([] : (List Int))).bind fun f4 => some f4))
/-- straightened -/
def m_p_straightened (walk : (List Int)) : Option (List Int) :=
  ((lp (fun (s1 : (List Int)) (step2 : Int) => ((if (decide (0 < (s1.length : Int))) = true then ((idx s1 (-1)).bind fun t6 => some (decide (t6 = (-step2)))) else some false).bind fun t7 => ((if t7 = true then ((popO s1).bind fun t8 => some t8.2) else ((appO s1 step2).bind fun t9 => some t9) : Option (List Int)).bind fun s10 => some s10))) walk ([] : (List Int))).bind fun f3 => some f3)
/-- turned_back -/
def m_p_turned_back (walk : (List Int)) : Option (List Int) :=
  ((lcT (fun (step1 : Int) => (-step1)) walk.reverse).bind fun t3 => some t3)
/-- is_integer -/
def m_p_is_integer (value : Int) : Option Bool :=
  some (true && true)
/-- is_letters -/
def m_p_is_letters (value : Int) : Option Bool :=
  ((m_p_is_integer value).bind fun t1 => some (t1 && (decide (1 ≤ value) && decide (value ≤ 4))))
/-- is_a_row -/
def m_p_is_a_row (value : (List Int)) (letters : Int) (rooms : Int) : Option Bool :=
  (if (false || (!decide ((value.length : Int) = letters))) = true then some false else ((lcO (β := Bool) (fun (room1 : Int) => ((m_p_is_integer room1).bind fun t3 => some (t3 && (decide ((-1) ≤ room1) && decide (room1 < rooms))))) value).bind fun t4 => some (t4.all id)))
/-- doors_of -/
def m_p_doors_of (rows : (List (List Int))) : Option (List (List (Int × Int))) :=
  ((lenO rows).bind fun z2 => (mapO (fun (row1 : (List Int)) => (some ([] : (List (Int × Int))) : Option (List (Int × Int)))) rows).bind fun t4 => ((lp (fun (s6 : (List (List (Int × Int)))) (x7 : (Int × (List Int))) => ((lp (fun (s11 : (List (List (Int × Int)))) (x12 : (Int × Int)) => ((if (decide (0 ≤ x12.2)) = true then ((idx s11 x7.1).bind fun t16 => (dPutO t16 (x12.1 + 1) x12.2).bind fun t17 => ((idx (setI s11 x7.1 t17) x12.2).bind fun t18 => (dPutO t18 ((-x12.1) - 1) x7.1).bind fun t19 => some (setI (setI s11 x7.1 t17) x12.2 t19))) else some s11 : Option (List (List (Int × Int)))).bind fun s20 => some s20)) (enum x7.2) s6).bind fun f13 => some f13)) (enum rows) t4).bind fun f8 => some f8))
/-- is_one_way -/
def m_p_is_one_way (rows : (List (List Int))) (letters : Int) : Option Bool :=
  ((rngO 0 letters).bind fun t1 => ((lpR (fun (s2 : Unit) (at_3 : Int) => (((lcG (β := Int) (fun (row7 : (List Int)) => ((idx row7 at_3).bind fun t9 => if (decide (0 ≤ t9)) = true then ((idx row7 at_3).bind fun t10 => some (some t10)) else some none)) rows).bind fun t11 => ((lenSetO t11).bind fun t12 => (if (decide (t12 < (t11.length : Int))) = true then some (Step.ret false) else some (Step.go ())))) : Option (Step Bool Unit))) t1 ()).bind fun f4o => Sum.elim (fun r14 => some r14) (fun f4 => some true) f4o))
/-- first_order -/
def m_p_first_order (letters : Int) (doors : (List (List (Int × Int)))) (home : Int) : Option (List Int) :=
  ((wh (fun (s3 : (Int × (List (Int × Bool)) × (List Int))) => some (decide (s3.1 < (s3.2.2.length : Int)))) (fun (s3 : (Int × (List (Int × Bool)) × (List Int))) => (((m_p_steps_of letters).bind fun t7 => ((lp (fun (s8 : ((List (Int × Bool)) × (List Int))) (step9 : Int) => ((idx s8.2 s3.1).bind fun t13 => (idx doors t13).bind fun t14 => (match (dGet t14 step9) with | none => (some (s8.1, s8.2)) | some goal15 => ((if (true && (!(dGet s8.1 goal15).isSome)) = true then ((dPutO s8.1 goal15 true).bind fun t16 => ((appO s8.2 goal15).bind fun t17 => some (t16, t17))) else some (s8.1, s8.2) : Option ((List (Int × Bool)) × (List Int))).bind fun s18 => some (s18.1, s18.2))))) t7 (s3.2.1, s3.2.2)).bind fun f10 => some (Step.go ((s3.1 + 1), f10.1, f10.2)))) : Option (Step (List Int) (Int × (List (Int × Bool)) × (List Int))))) 1000 (0, [(home, true)], [home])).bind fun f4o => Sum.elim (fun r21 => none) (fun f4 => some f4.2.2) f4o)
/-- is_a_web -/
def m_p_is_a_web (value : (Int × (List (List Int)))) : Option Bool :=
  ((if false = true then some true else ((if (!decide (2 = 2)) = true then some true else ((m_p_is_letters value.1).bind fun t1 => some (!t1))).bind fun t2 => some t2)).bind fun t3 => (if t3 = true then some false else (if (false || (decide ((value.2.length : Int) = 0))) = true then some false else ((lcO (β := Bool) (fun (row4 : (List Int)) => ((m_p_is_a_row row4 value.1 (value.2.length : Int)).bind fun t6 => some t6)) value.2).bind fun t7 => (if (!(t7.all id)) = true then some true else ((m_p_is_one_way value.2 value.1).bind fun t8 => some (!t8))).bind fun t9 => (if t9 = true then some false else ((m_p_doors_of value.2).bind fun t10 => ((lcT (fun (steps11 : (List (Int × Int))) => (decide ((steps11.length : Int) < 2))) (cut t10 (some 1) none)).bind fun t13 => (if (t13.any id) = true then some false else ((m_p_first_order value.1 t10 0).bind fun t14 => (rgO 0 (value.2.length : Int)).bind fun t15 => some (decide (t14 = t15)))))))))))
/-- need_web -/
def m_p_need_web (web : (Int × (List (List Int)))) : Option Unit :=
  ((m_p_is_a_web web).bind fun t1 => (if (!t1) = true then none else some ()))
/-- ways_of -/
def m_p_ways_of (web : (Int × (List (List Int)))) : Option (List (Tri Int Int Int)) :=
  ((lp (fun (s1 : (List (Tri Int Int Int))) (x2 : (Int × (List Int))) => ((lcF (fun (x6 : (Int × Int)) => (decide (0 ≤ x6.2))) (fun (x6 : (Int × Int)) => (Tri.mk x2.1 (x6.1 + 1) x6.2)) (enum x2.2)).bind fun t8 => (catO (α := (Tri Int Int Int)) s1 t8).bind fun t9 => some t9)) (enum web.2) ([] : (List (Tri Int Int Int)))).bind fun f3 => some f3)
/-- first_ways -/
def m_p_first_ways (letters : Int) (doors : (List (List (Int × Int)))) (home : Int) : Option (List (Int × (List Int))) :=
  ((m_p_first_order letters doors home).bind fun t1 => ((lp (fun (s2 : (List (Int × (List Int)))) (room3 : Int) => ((m_p_steps_of letters).bind fun t7 => ((lp (fun (s8 : (List (Int × (List Int)))) (step9 : Int) => ((idx doors room3).bind fun t13 => (match (dGet t13 step9) with | none => (some s8) | some goal14 => ((if (true && (!(dGet s8 goal14).isSome)) = true then ((dGet s8 room3).bind fun t15 => (catO (α := Int) t15 ([step9])).bind fun t16 => (dPutO s8 goal14 t16).bind fun t17 => some t17) else some s8 : Option (List (Int × (List Int)))).bind fun s18 => some s18)))) t7 s2).bind fun f10 => some f10))) t1 ([(home, ([] : (List Int)))])).bind fun f4 => some f4))
/-- way_gone -/
def m_p_way_gone (room : Int) (step : Int) (goal : Int) : Option (Tri Int Int Int) :=
  some (if (decide (0 < step)) = true then (Tri.mk room step goal) else (Tri.mk goal (-step) room))
/-- tree_of -/
def m_p_tree_of (doors : (List (List (Int × Int)))) (firsts : (List (Int × (List Int)))) : Option (List (Tri Int Int Int)) :=
  ((lp (fun (s1 : (List (Tri Int Int Int))) (x2 : (Int × (List Int))) => ((if (!decide (x2.1 = 0)) = true then ((idx doors x2.1).bind fun t6 => (idx x2.2 (-1)).bind fun t7 => (dGet t6 (-t7)).bind fun t8 => (idx x2.2 (-1)).bind fun t9 => (m_p_way_gone t8 t9 x2.1).bind fun t10 => (appO s1 t10).bind fun t11 => some t11) else some s1 : Option (List (Tri Int Int Int))).bind fun s12 => some s12)) firsts ([] : (List (Tri Int Int Int)))).bind fun f3 => ((srtO3 f3).bind fun t14 => some t14))
/-- tree -/
def m_p_tree (web : (Int × (List (List Int)))) : Option (List (Tri Int Int Int)) :=
  ((m_p_need_web web).bind fun t1 => ((m_p_doors_of web.2).bind fun t2 => ((m_p_first_ways web.1 t2 0).bind fun t3 => (m_p_tree_of t2 t3).bind fun t4 => some t4)))
/-- others_of -/
def m_p_others_of (web : (Int × (List (List Int)))) (known : (List (Tri Int Int Int))) : Option (List (Tri Int Int Int)) :=
  ((lenO known).bind fun z2 => (dcS (fun (way1 : (Tri Int Int Int)) => (some (some (way1, true)) : Option (Option ((Tri Int Int Int) × Bool)))) known []).bind fun t4 => ((m_p_ways_of web).bind fun t5 => (lcF (fun (way6 : (Tri Int Int Int)) => (!(dGet t4 way6).isSome)) (fun (way6 : (Tri Int Int Int)) => way6) t5).bind fun t8 => some t8))
/-- basis -/
def m_p_basis (web : (Int × (List (List Int)))) : Option (List (List Int)) :=
  ((m_p_need_web web).bind fun t1 => ((m_p_doors_of web.2).bind fun t2 => ((m_p_first_ways web.1 t2 0).bind fun t3 => ((m_p_tree_of t2 t3).bind fun t4 => (m_p_others_of web t4).bind fun t5 => ((lp (fun (s6 : (List (List Int))) (x7 : (Tri Int Int Int)) => ((dGet t3 x7.a).bind fun t11 => (catO (α := Int) t11 ([x7.b])).bind fun t12 => (dGet t3 x7.c).bind fun t13 => (m_p_turned_back t13).bind fun t14 => (catO (α := Int) t12 t14).bind fun t15 => (m_p_straightened t15).bind fun t16 => (appO s6 t16).bind fun t17 => some t17)) t5 ([] : (List (List Int)))).bind fun f8 => some f8)))))
/-- _law_well -/
def m_l_well (script : (List Int)) (k_ : Int) : Option (List Int) :=
  ((if (decide (k_ < (script.length : Int))) = true then ((idx script k_).bind fun t1 => some t1) else some ((7 * k_) + 3)).bind fun t2 => ((lp (fun (s3 : Int) (x4 : (Int × Int)) => ((mulW x4.2 (x4.1 + 3)).bind fun t8 => (some (((s3 * 31) + t8) % 10000000000000000000000000000000000000121)).bind fun total9 => some total9)) (enum script) 0).bind fun f5 => some [(maxI 0 (t2 - 1000000000000000000)), ((((t2 * 8191) + f5) + (524287 * k_)) % 100000000000000000000000000000000000000011), 0]))
/-- _law_take -/
def m_l_take (w_well_here : (List Int)) (many : Int) : Option (Int × (List Int)) :=
  ((idx w_well_here 0).bind fun t1 => (if (decide (0 < t1)) = true then ((idx w_well_here 0).bind fun t2 => (modO t2 many).bind fun t3 => ((idx w_well_here 0).bind fun t4 => (fdivO t4 many).bind fun t5 => (setO w_well_here 0 t5).bind fun t6 => some (t3, t6))) else ((idx w_well_here 2).bind fun t7 => (setO w_well_here 2 (t7 + 1)).bind fun t8 => ((idx t8 1).bind fun t9 => (idx t8 2).bind fun t10 => (powO (t9 + (86028121 * t10)) 3).bind fun t11 => ((idx t8 2).bind fun t12 => (powO ((t11 % 10000000000000000000000000000000000000000057) + (6700417 * t12)) 2).bind fun t13 => (some ((t13 + (t11 % 10000000000000000000000000000000000000000057)) % 1000000000000000000000000000000000000000063)).bind fun mixed14 => ((modO (mixed14 / 999983) many).bind fun t16 => some (t16, t8)))))))
/-- _law_straight -/
def m_l_straight (walk : (List Int)) : Option (List Int) :=
  ((lp (fun (s1 : (List Int)) (step2 : Int) => ((if (!decide (s1 = ([] : (List Int)))) = true then ((idx s1 (-1)).bind fun t6 => some (decide (t6 = (0 - step2)))) else some false).bind fun t7 => ((if t7 = true then ((popO s1).bind fun t8 => some t8.2) else ((appO s1 step2).bind fun t9 => some t9) : Option (List Int)).bind fun s10 => some s10))) walk ([] : (List Int))).bind fun f3 => some f3)
/-- _law_steps -/
def m_l_steps (letters : Int) : Option (List Int) :=
  ((rngO 1 (letters + 1)).bind fun t1 => ((lp (fun (s2 : (List Int)) (letter3 : Int) => ((catO (α := Int) s2 ([letter3, (0 - letter3)])).bind fun t7 => some t7)) t1 ([] : (List Int))).bind fun f4 => some f4))
/-- _law_laid -/
def m_l_laid (w_doors_here : (List (List (Int × Int)))) (room : Int) (step : Int) (goal : Int) : Option (Unit × (List (List (Int × Int)))) :=
  ((idx w_doors_here room).bind fun t2 => (idx w_doors_here goal).bind fun t3 => ((idx w_doors_here room).bind fun t4 => (dPutO t4 step goal).bind fun t5 => ((idx (setI w_doors_here room t5) goal).bind fun t6 => (dPutO t6 (0 - step) room).bind fun t7 => some ((), (setI (setI w_doors_here room t5) goal t7)))))
/-- _law_named -/
def m_l_named (letters : Int) (w_doors_here : (List (List (Int × Int)))) (home : Int) : Option ((Int × (List (List Int))) × (List (List (Int × Int)))) :=
  ((rngO 0 (w_doors_here.length : Int)).bind fun t2 => ((lpR (fun (s3 : (List (List (Int × Int)))) (turn4 : Int) => (((rngO 0 (s3.length : Int)).bind fun t8 => (lcG (β := Int) (fun (room9 : Int) => ((if (!decide (room9 = home)) = true then ((idx s3 room9).bind fun t11 => some (decide ((t11.length : Int) = 1))) else some false).bind fun t12 => if t12 = true then some (some room9) else some none)) t8).bind fun t13 => (if (decide (t13 = ([] : (List Int)))) = true then some (Step.brk s3) else ((lp (fun (s14 : (List (List (Int × Int)))) (room15 : Int) => ((idx s14 room15).bind fun t19 => ((idx s14 room15).bind fun t20 => ((lp (fun (s21 : (List (List (Int × Int)))) (step22 : Int) => ((idx s21 room15).bind fun t26 => (dGet t26 step22).bind fun t27 => (idx s21 t27).bind fun t28 => ((idx s21 t27).bind fun t29 => (dPopO t29 (0 - step22)).bind fun t30 => some (setI s21 t27 t30.2)))) (List.map Prod.fst t20) s14).bind fun f23 => ((idx f23 room15).bind fun t32 => some (setI f23 room15 ([] : (List (Int × Int))))))))) t13 s3).bind fun f16 => some (Step.go f16)))) : Option (Step ((Int × (List (List Int))) × (List (List (Int × Int)))) (List (List (Int × Int)))))) t2 w_doors_here).bind fun f5o => Sum.elim (fun r82 => none) (fun f5 => ((rngO 0 (f5.length : Int)).bind fun t37 => ((lp (fun (s38 : (List Int)) (at_39 : Int) => ((if (decide (at_39 < (s38.length : Int))) = true then ((idx s38 at_39).bind fun t43 => (idx f5 t43).bind fun t44 => ((m_l_steps letters).bind fun t45 => (lcG (β := Int) (fun (step46 : Int) => ((idx f5 t43).bind fun t48 => if (dGet t48 step46).isSome = true then ((idx f5 t43).bind fun t49 => (dGet t49 step46).bind fun t50 => some (some t50)) else some none)) t45).bind fun t51 => ((lp (fun (s52 : (List Int)) (goal53 : Int) => ((if (!s52.contains goal53) = true then ((appO s52 goal53).bind fun t57 => some t57) else some s52 : Option (List Int)).bind fun s58 => some s58)) t51 s38).bind fun f54 => some f54))) else some s38 : Option (List Int)).bind fun s61 => some s61)) t37 ([home])).bind fun f40 => ((lp (fun (s63 : (List (List Int))) (room64 : Int) => ((idx f5 room64).bind fun t68 => ((rngO 1 (letters + 1)).bind fun t69 => (lcO (β := Int) (fun (at_70 : Int) => ((idx f5 room64).bind fun t72 => (if (dGet t72 at_70).isSome = true then ((idx f5 room64).bind fun t73 => (dGet t73 at_70).bind fun t74 => (ixOf f40 t74).bind fun t75 => some ((t75 : Nat) : Int)) else some (-1)).bind fun t76 => some t76)) t69).bind fun t77 => (appO s63 t77).bind fun t78 => some t78))) f40 ([] : (List (List Int)))).bind fun f65 => some ((letters, f65), f5))))) f5o))
/-- _law_web -/
def m_l_web (w_well_here : (List Int)) (letters : Int) (most : Int) : Option ((Int × (List (List Int))) × (List Int)) :=
  ((m_l_take w_well_here most).bind fun t1 => ((rngO 0 (1 + t1.1)).bind fun t4 => ((lp (fun (s5 : (List (List (Int × Int)))) (room6 : Int) => ((appO s5 ([] : (List (Int × Int)))).bind fun t11 => some t11)) t4 ([] : (List (List (Int × Int))))).bind fun f7 => ((rngO 1 (letters + 1)).bind fun t14 => ((lp (fun (s15 : ((List (List (Int × Int))) × (List Int))) (letter16 : Int) => ((rgO 0 (1 + t1.1)).bind fun t21 => (m_l_take s15.2 4).bind fun t23 => ((rngO 0 (1 + t1.1)).bind fun t24 => ((lp (fun (s25 : ((List Int) × (List Int) × (List (List (Int × Int))))) (room26 : Int) => ((m_l_take s25.1 (s25.2.1.length : Int)).bind fun t31 => (popI s25.2.1 t31.1).bind fun t32 => ((m_l_take t31.2 4).bind fun t33 => ((if (decide (t23.1 ≤ t33.1)) = true then ((m_l_laid s25.2.2 room26 letter16 t32.1).bind fun t34 => some t34.2) else some s25.2.2 : Option (List (List (Int × Int)))).bind fun s35 => some (t33.2, t32.2, s35))))) t24 (t23.2, t21, s15.1)).bind fun f27 => some (f27.2.2, f27.1))))) t14 (f7, t1.2)).bind fun f17 => ((m_l_take f17.2 4).bind fun t40 => (idx ([0, 0, 1, 2]) t40.1).bind fun t41 => (rngO 0 t41).bind fun t42 => ((lp (fun (s43 : (Int × (List Int) × (List (List (Int × Int))))) (turn44 : Int) => ((m_l_steps letters).bind fun t49 => (lcG (β := Int) (fun (step50 : Int) => ((idx s43.2.2 s43.1).bind fun t52 => if (!(dGet t52 step50).isSome) = true then some (some step50) else some none)) t49).bind fun t53 => ((if (!decide (t53 = ([] : (List Int)))) = true then ((appO s43.2.2 ([] : (List (Int × Int)))).bind fun t54 => ((m_l_take s43.2.1 (t53.length : Int)).bind fun t56 => (idx t53 t56.1).bind fun t57 => (m_l_laid t54 s43.1 t57 ((t54.length : Int) - 1)).bind fun t58 => some (((t58.2.length : Int) - 1), t56.2, t58.2))) else some (s43.1, s43.2.1, s43.2.2) : Option (Int × (List Int) × (List (List (Int × Int))))).bind fun s60 => some (s60.1, s60.2.1, s60.2.2)))) t42 (0, t40.2, f17.1)).bind fun f45 => ((m_l_named letters f45.2.2 f45.1).bind fun t63 => some (t63.1, f45.2.1)))))))))
/-- _law_doors -/
def m_l_doors (web_here : (Int × (List (List Int)))) : Option (List (List (Int × Int))) :=
  ((lenO web_here.2).bind fun z2 => (mapO (fun (row1 : (List Int)) => (some ([] : (List (Int × Int))) : Option (List (Int × Int)))) web_here.2).bind fun t4 => ((lp (fun (s6 : (List (List (Int × Int)))) (x7 : (Int × (List Int))) => ((lp (fun (s12 : (List (List (Int × Int)))) (x13 : (Int × Int)) => ((if (decide (0 ≤ x13.2)) = true then ((m_l_laid s12 x7.1 (x13.1 + 1) x13.2).bind fun t18 => some t18.2) else some s12 : Option (List (List (Int × Int)))).bind fun s19 => some s19)) (enum x7.2) s6).bind fun f14 => some f14)) (enum web_here.2) t4).bind fun f8 => some f8))
/-- _law_firsts -/
def m_l_firsts (web_here : (Int × (List (List Int)))) : Option (List (Int × (List Int))) :=
  ((m_l_doors web_here).bind fun t1 => ((rngO 0 (web_here.2.length : Int)).bind fun t4 => ((lp (fun (s5 : ((List Int) × (List (Int × (List Int))))) (at_6 : Int) => ((idx s5.1 at_6).bind fun t10 => (idx t1 t10).bind fun t11 => ((m_l_steps web_here.1).bind fun t12 => ((lp (fun (s13 : ((List Int) × (List (Int × (List Int))))) (step14 : Int) => ((if (dGet t11 step14).isSome = true then ((dGet t11 step14).bind fun t18 => some (!(dGet s13.2 t18).isSome)) else some false).bind fun t19 => ((if t19 = true then ((idx s13.1 at_6).bind fun t20 => (dGet s13.2 t20).bind fun t21 => (catO (α := Int) t21 ([step14])).bind fun t22 => (dGet t11 step14).bind fun t23 => (dPutO s13.2 t23 t22).bind fun t24 => ((dGet t11 step14).bind fun t25 => (appO s13.1 t25).bind fun t26 => some (t26, t24))) else some (s13.1, s13.2) : Option ((List Int) × (List (Int × (List Int))))).bind fun s27 => some (s27.1, s27.2)))) t12 (s5.1, s5.2)).bind fun f15 => some (f15.1, f15.2))))) t4 ([0], [(0, ([] : (List Int)))])).bind fun f7 => some f7.2)))
/-- _law_back -/
def m_l_back (walk : (List Int)) : Option (List Int) :=
  ((lcT (fun (step1 : Int) => (0 - step1)) walk.reverse).bind fun t3 => some t3)
/-- _law_ways -/
def m_l_ways (web_here : (Int × (List (List Int)))) : Option (List (Tri Int Int Int)) :=
  ((lp (fun (s1 : (List (Tri Int Int Int))) (x2 : (Int × (List Int))) => ((lcF (fun (x6 : (Int × Int)) => (decide (0 ≤ x6.2))) (fun (x6 : (Int × Int)) => (Tri.mk x2.1 (x6.1 + 1) x6.2)) (enum x2.2)).bind fun t8 => (catO (α := (Tri Int Int Int)) s1 t8).bind fun t9 => some t9)) (enum web_here.2) ([] : (List (Tri Int Int Int)))).bind fun f3 => some f3)
/-- _law_tree -/
def m_l_tree (web_here : (Int × (List (List Int)))) : Option (List (Tri Int Int Int)) :=
  ((m_l_firsts web_here).bind fun t1 => ((m_l_ways web_here).bind fun t3 => ((lp (fun (s4 : (List (Tri Int Int Int))) (x5 : (Tri Int Int Int)) => ((dGet t1 x5.c).bind fun t9 => (dGet t1 x5.a).bind fun t10 => (catO (α := Int) t10 ([x5.b])).bind fun t11 => (if (decide (t9 = t11)) = true then some true else ((dGet t1 x5.a).bind fun t12 => (dGet t1 x5.c).bind fun t13 => (catO (α := Int) t13 ([(0 - x5.b)])).bind fun t14 => some (decide (t12 = t14)))).bind fun t15 => ((if t15 = true then ((appO s4 (Tri.mk x5.a x5.b x5.c)).bind fun t16 => some t16) else some s4 : Option (List (Tri Int Int Int))).bind fun s17 => some s17))) t3 ([] : (List (Tri Int Int Int)))).bind fun f6 => some f6)))
/-- _law_others -/
def m_l_others (web_here : (Int × (List (List Int)))) : Option (List (Tri Int Int Int)) :=
  ((m_l_tree web_here).bind fun t1 => ((m_l_ways web_here).bind fun t2 => (lcF (fun (way3 : (Tri Int Int Int)) => (!hasD t1 way3)) (fun (way3 : (Tri Int Int Int)) => way3) t2).bind fun t5 => some t5))
/-- _law_basis -/
def m_l_basis (web_here : (Int × (List (List Int)))) : Option (List (List Int)) :=
  ((m_l_firsts web_here).bind fun t1 => ((m_l_others web_here).bind fun t2 => (lcO (β := (List Int)) (fun (x3 : (Tri Int Int Int)) => ((dGet t1 x3.a).bind fun t5 => (catO (α := Int) t5 ([x3.b])).bind fun t6 => (dGet t1 x3.c).bind fun t7 => (m_l_back t7).bind fun t8 => (catO (α := Int) t6 t8).bind fun t9 => (m_l_straight t9).bind fun t10 => some t10)) t2).bind fun t11 => some t11))
/-- _law_right -/
def m_l_right (web_here : (Int × (List (List Int)))) : Option Bool :=
  ((m_l_tree web_here).bind fun t1 => (reprO (PyData.list (List.map (eP3 PyData.int PyData.int PyData.int) t1))).bind fun t2 => (m_l_basis web_here).bind fun t3 => (reprO (PyData.list (List.map (eT PyData.int) t3))).bind fun t4 => ((m_p_tree web_here).bind fun t5 => ((reprO (PyData.list (List.map (eP3 PyData.int PyData.int PyData.int) t5))).bind fun t6 => (if (!decide (t6 = t2)) = true then some false else ((appO t5 (Tri.mk 0 1 0)).bind fun t7 => ((m_p_basis web_here).bind fun t8 => ((reprO (PyData.list (List.map (eT PyData.int) t8))).bind fun t9 => (if (!decide (t9 = t4)) = true then some false else ((appO (List.reverse t8) ([] : (List Int))).bind fun t10 => ((m_p_tree web_here).bind fun t11 => (reprO (PyData.list (List.map (eP3 PyData.int PyData.int PyData.int) t11))).bind fun t12 => (if (decide (t12 = t2)) = true then ((m_p_basis web_here).bind fun t13 => (reprO (PyData.list (List.map (eT PyData.int) t13))).bind fun t14 => some (decide (t14 = t4))) else some false).bind fun t15 => some t15))))))))))
/-- law -/
def m_l_law (script : (List Int)) : Option Bool :=
  ((rngO 0 (maxI 1 (minI 3 (script.length : Int)))).bind fun t1 => ((lpR (fun (s2 : Unit) (k_3 : Int) => (((m_l_well script k_3).bind fun t7 => ((m_l_take t7 4).bind fun t8 => ((m_l_take t8.2 3).bind fun t9 => (idx ([2, 5, 10]) t9.1).bind fun t10 => (m_l_web t9.2 (1 + t8.1) t10).bind fun t11 => ((m_l_take t11.2 4).bind fun t12 => (m_l_web t12.2 (1 + t12.1) 4).bind fun t13 => ((m_l_right t11.1).bind fun t14 => (if (!t14) = true then some true else ((m_l_right t13.1).bind fun t15 => (if (!t15) = true then some true else ((m_l_right t11.1).bind fun t16 => some (!t16))).bind fun t17 => some t17)).bind fun t18 => (if t18 = true then some (Step.ret false) else ((repT ([(-1)]) (1 + t8.1)).bind fun t19 => (m_l_right ((1 + t8.1), [t19])).bind fun t20 => (if (!t20) = true then some true else ((repT ([0]) (1 + t8.1)).bind fun t21 => (m_l_right ((1 + t8.1), [t21])).bind fun t22 => some (!t22))).bind fun t23 => (if t23 = true then some (Step.ret false) else some (Step.go ()))))))))) : Option (Step Bool Unit))) t1 ()).bind fun f4o => Sum.elim (fun r25 => some r25) (fun f4 => some true) f4o))
end L13
namespace L13
open PySem PySem.Spec PyProof.Rows L2 Z
def top (i : Nat) : Stmt := PySem.Challenge.pw_walkclubs_k13_trees_and_bases.main.body.getD i (.Pass ⟨0, 0, 0, 0⟩)
abbrev s_p_steps_of : Stmt := top 4
def N_p_steps_of : List Str := ["letters", "found", "letter"]
def V_p_steps_of : List Str := ["letters", "found", "letter"]
def G_p_steps_of : List Str := ["range"]
theorem sc_p_steps_of : FnScope N_p_steps_of ["letters"] (defScope s_p_steps_of) := ⟨rfl, rfl, rfl, by decide +kernel, rfl, by decide +kernel, by decide +kernel⟩
abbrev sp_p_steps_of (K : PySem.W.Frag) : Sp := spZ (α := Int) (β := (List Int)) (fun a => [(dat (PyData.int a))]) (fun a => []) (fun a => m_p_steps_of a) (fun a b => (dat (PyData.list (List.map PyData.int b)))) (fun a b => [])
set_option maxHeartbeats 4000000 in
theorem body_p_steps_of {X : Cx} (hsc : X.env.scope = defScope s_p_steps_of) {sts_ : List Stmt} (hst_ : defBody s_p_steps_of = sts_) (B : Bd X N_p_steps_of V_p_steps_of G_p_steps_of 0) (T : Bt X V_p_steps_of) (g_range : X.mg "range" = none) (letters : Int) (b : (List Int)) (F0 : Hp) (os : Os) (D : Ends) (hm : m_p_steps_of letters = some b) (R : RetZ F0 (os) (dat (PyData.list (List.map PyData.int b))) D) :
    SX X [sl (dat (PyData.int letters)), un, un] (os) F0 sts_ D := by
  subst hst_
  unfold m_p_steps_of at hm
  refine sx_asgN (i := 1) (vi := 1) (n := ol (List.map PyData.int ([] : (List Int)))) B T rfl rfl (en_lst (ds := []) ax_nil) (fun q_found0 => ?_)
  obtain ⟨t1, h1, hm⟩ := bnd hm
  obtain ⟨f4, h8, hm⟩ := bnd hm
  refine sx_for (c := anyOs) _ (fun (s2 : (List Int)) (_ : Unit) => [sl (dat (PyData.int letters)), sl (own q_found0), un]) (fun (s2 : (List Int)) (_ : Unit) => (q_found0, ol (List.map PyData.int s2)) :: os) B T (fun letter3 => gx_name (i := 2) (vi := 2) (φ := (dat (PyData.int letter3))) B T rfl rfl) ([] : (List Int)) () f4 h8 (ix_rng2 (gi := 0) B rfl g_range h1 ex_int (ex_add (ex_v (i := 0) (j := 0) B rfl rfl rfl) ex_int)) ⟨.inl rfl, .inl rfl, .inl rfl, trivial⟩ (fun _ _ => trivial) (fun F6 e5 s2 _ letter3 z9 hx hm => ?_) (fun _ => ?_)
  · clear h8
    obtain ⟨t7, h7, hm⟩ := bnd hm
    refine sx_expr (ex_extend (enc := PyData.int) (j := 0) (xs0 := s2) (xs := s2) (ys := ([letter3, (-letter3)])) h7 (ex_v (i := 1) (j := 1) B rfl rfl rfl) rfl (en_lst (ds := [(PyData.int letter3), (PyData.int (-letter3))]) (hl := len_ok (n := 2) rfl) (ax_cons (ex_v (i := 2) (j := 2) B rfl rfl rfl) (ax_cons (ex_neg (ex_v (i := 2) (j := 2) B rfl rfl rfl)) ax_nil))) rfl) ?_
    obtain rfl := som hm
    exact sx_nil fun σ H a => ⟨(), (a.weak ⟨.inl rfl, .inl rfl, .inr rfl, trivial⟩)⟩
  · skip
    refine sx_frz (j := 0) (i := 1) rfl rfl ?_
    obtain rfl := som hm
    exact sx_ret (ex_v (i := 1) (j := 1) B rfl rfl rfl) (fun F H v e o c => R.rt F H v e o c)
theorem cal_p_steps_of {P : Program} {w : World} {K : PySem.W.Frag} {mg : Str → Option Value} {base : Heap} {f : Addr} {fd : FuncData} (Fn : Fun K "steps_of" "steps_of" s_p_steps_of f fd) (hmg : mg "steps_of" = some (.ref f)) (hb : Binds K fd ["letters"] []) (g_range : mg "range" = none) : Cal P w K mg base 1 "steps_of" s_p_steps_of ["letters"] (sp_p_steps_of K) := by
  obtain ⟨sts_, hst_⟩ : ∃ z_, defBody s_p_steps_of = z_ := ⟨_, rfl⟩
  exact cal_ZQ (V := V_p_steps_of) (Gs := G_p_steps_of) (nl := 2) hst_ Fn sc_p_steps_of (by decide +kernel) (by decide +kernel) hmg hb (fun _ => rfl) rfl fun _ _ _ _ _ _ _ a b F0 os D B T hm R => body_p_steps_of rfl hst_ B T g_range a b F0 os D hm R
abbrev s_p_straightened : Stmt := top 5
def N_p_straightened : List Str := ["walk", "found", "step"]
def V_p_straightened : List Str := ["walk", "found", "step"]
def G_p_straightened : List Str := ["len", "tuple"]
theorem sc_p_straightened : FnScope N_p_straightened ["walk"] (defScope s_p_straightened) := ⟨rfl, rfl, rfl, by decide +kernel, rfl, by decide +kernel, by decide +kernel⟩
abbrev sp_p_straightened (K : PySem.W.Frag) : Sp := spZ (α := (List Int)) (β := (List Int)) (fun a => [(dat (PyData.tuple (List.map PyData.int a)))]) (fun a => []) (fun a => m_p_straightened a) (fun a b => (dat (PyData.tuple (List.map PyData.int b)))) (fun a b => [])
set_option maxHeartbeats 4000000 in
theorem body_p_straightened {X : Cx} (hsc : X.env.scope = defScope s_p_straightened) {sts_ : List Stmt} (hst_ : defBody s_p_straightened = sts_) (B : Bd X N_p_straightened V_p_straightened G_p_straightened 0) (T : Bt X V_p_straightened) (g_len : X.mg "len" = none) (g_tuple : X.mg "tuple" = none) (walk : (List Int)) (b : (List Int)) (F0 : Hp) (os : Os) (D : Ends) (hm : m_p_straightened walk = some b) (R : RetZ F0 (os) (dat (PyData.tuple (List.map PyData.int b))) D) :
    SX X [sl (dat (PyData.tuple (List.map PyData.int walk))), un, un] (os) F0 sts_ D := by
  subst hst_
  unfold m_p_straightened at hm
  refine sx_asgN (i := 1) (vi := 1) (n := ol (List.map PyData.int ([] : (List Int)))) B T rfl rfl (en_lst (ds := []) ax_nil) (fun q_found0 => ?_)
  obtain ⟨f3, h11, hm⟩ := bnd hm
  refine sx_for (c := anyOs) _ (fun (s1 : (List Int)) (_ : Unit) => [sl (dat (PyData.tuple (List.map PyData.int walk))), sl (own q_found0), un]) (fun (s1 : (List Int)) (_ : Unit) => (q_found0, ol (List.map PyData.int s1)) :: os) B T (fun step2 => gx_name (i := 2) (vi := 2) (φ := (dat (PyData.int step2))) B T rfl rfl) ([] : (List Int)) () f3 h11 (ix_tup (enc := PyData.int) (ex_v (i := 0) (j := 0) B rfl rfl rfl) rdt_dat) ⟨.inl rfl, .inl rfl, .inl rfl, trivial⟩ (fun _ _ => trivial) (fun F5 e4 s1 _ step2 z12 hx hm => ?_) (fun _ => ?_)
  · clear h11
    obtain ⟨t7, h7, hm⟩ := bnd hm
    obtain ⟨s10, h_s10, hm⟩ := bnd hm
    refine sx_join [sl (dat (PyData.tuple (List.map PyData.int walk))), sl (own q_found0), sl (dat (PyData.int step2))] ((q_found0, ol (List.map PyData.int s10)) :: os) (?_) (fun Q => ?_)
    · clear h_s10
      obtain rfl := som hm
      exact sx_nil fun σ H a => ⟨(), (a.weak ⟨.inl rfl, .inl rfl, .inr rfl, trivial⟩)⟩
    · have hm := h_s10
      refine sx_if (WX.tx (wx_and (l := t7) (os2 := (q_found0, ol (List.map PyData.int s1)) :: os) (tx_cmp op_gt r2_gt (nomark _) (EX.to (ex_fn (j := 0) B rfl g_len (by decide +kernel) call_len_seq (rc_lenL (ds := List.map PyData.int s1) (rdl_own 0 rfl)) (ax_cons (ex_v (i := 1) (j := 1) B rfl rfl rfl) ax_nil)) (by rw [List.length_map])) ex_int) (fun hk => by (have hm := ifT h7 hk; obtain ⟨t6, h6, hm⟩ := bnd hm; obtain rfl := som hm; exact (wx_and1 (tx_cmp op_eq r2_eqI (nomark _) (ex_idxL (enc := PyData.int) h6 (rdl_own 0 rfl) (ex_v (i := 1) (j := 1) B rfl rfl rfl) (ex_neg ex_int)) (ex_neg (ex_v (i := 2) (j := 2) B rfl rfl rfl)))))) (fun hk => by (have hm := ifF h7 hk; obtain rfl := som hm; rfl)) (and_fix (fun hk => by (have hm := ifF h7 hk; obtain rfl := som hm; rfl))))) (fun hk => ?_) (fun hk => ?_)
      · have hm := ifT hm hk
        obtain ⟨t8, h8, hm⟩ := bnd hm
        refine sx_expr (ex_popO (enc := PyData.int) (j := 0) h8 (ex_v (i := 1) (j := 1) B rfl rfl rfl) rfl) ?_
        obtain rfl := som hm
        exact sx_fall Q rfl
      · have hm := ifF hm hk
        obtain ⟨t9, h9, hm⟩ := bnd hm
        refine sx_expr (ex_app (enc := PyData.int) (j := 0) (xs0 := s1) (xs := s1) (y := step2) h9 (ex_v (i := 1) (j := 1) B rfl rfl rfl) rfl (ex_v (i := 2) (j := 2) B rfl rfl rfl) rfl) ?_
        obtain rfl := som hm
        exact sx_fall Q rfl
  · skip
    refine sx_frz (j := 0) (i := 1) rfl rfl ?_
    obtain rfl := som hm
    exact sx_ret (ex_ty (j := 1) B rfl g_tuple (by decide +kernel) call_tuple_of (rc_tupL (ds := List.map PyData.int f3) rdl_dat) (ax_cons (ex_v (i := 1) (j := 1) B rfl rfl rfl) ax_nil)) (fun F H v e o c => R.rt F H v e o c)
theorem cal_p_straightened {P : Program} {w : World} {K : PySem.W.Frag} {mg : Str → Option Value} {base : Heap} {f : Addr} {fd : FuncData} (Fn : Fun K "straightened" "straightened" s_p_straightened f fd) (hmg : mg "straightened" = some (.ref f)) (hb : Binds K fd ["walk"] []) (g_len : mg "len" = none) (g_tuple : mg "tuple" = none) : Cal P w K mg base 1 "straightened" s_p_straightened ["walk"] (sp_p_straightened K) := by
  obtain ⟨sts_, hst_⟩ : ∃ z_, defBody s_p_straightened = z_ := ⟨_, rfl⟩
  exact cal_ZQ (V := V_p_straightened) (Gs := G_p_straightened) (nl := 2) hst_ Fn sc_p_straightened (by decide +kernel) (by decide +kernel) hmg hb (fun _ => rfl) rfl fun _ _ _ _ _ _ _ a b F0 os D B T hm R => body_p_straightened rfl hst_ B T g_len g_tuple a b F0 os D hm R
abbrev s_p_turned_back : Stmt := top 6
def N_p_turned_back : List Str := ["walk", "step"]
def V_p_turned_back : List Str := ["walk"]
def G_p_turned_back : List Str := ["tuple"]
theorem sc_p_turned_back : FnScope N_p_turned_back ["walk"] (defScope s_p_turned_back) := ⟨rfl, rfl, rfl, by decide +kernel, rfl, by decide +kernel, by decide +kernel⟩
abbrev sp_p_turned_back (K : PySem.W.Frag) : Sp := spZ (α := (List Int)) (β := (List Int)) (fun a => [(dat (PyData.tuple (List.map PyData.int a)))]) (fun a => []) (fun a => m_p_turned_back a) (fun a b => (dat (PyData.tuple (List.map PyData.int b)))) (fun a b => [])
set_option maxHeartbeats 4000000 in
theorem body_p_turned_back {X : Cx} (hsc : X.env.scope = defScope s_p_turned_back) {sts_ : List Stmt} (hst_ : defBody s_p_turned_back = sts_) (B : Bd X N_p_turned_back V_p_turned_back G_p_turned_back 0) (T : Bt X V_p_turned_back) (g_tuple : X.mg "tuple" = none) (walk : (List Int)) (b : (List Int)) (F0 : Hp) (os : Os) (D : Ends) (hm : m_p_turned_back walk = some b) (R : RetZ F0 (os) (dat (PyData.tuple (List.map PyData.int b))) D) :
    SX X [sl (dat (PyData.tuple (List.map PyData.int walk))), un] (os) F0 sts_ D := by
  subst hst_
  unfold m_p_turned_back at hm
  obtain ⟨t3, h3, hm⟩ := bnd hm
  obtain rfl := som hm
  exact sx_ret (ex_ty (j := 0) B rfl g_tuple (by decide +kernel) call_tuple_of (rc_tupL (ds := List.map PyData.int t3) rdl_dat) (ax_cons (EN.ex (en_lc (lc_mk1 (j := 1) (vp := fun step1 => (dat (PyData.int step1))) (c := anyOs) (enc := PyData.int) (fun (_ : Unit) (step1 : Int) => some (some (-step1), ())) (fun (_ : Unit) (tl1 : Os) => tl1) () (t3) () B rfl rfl (by rw [B.hN, hsc]; decide +kernel) (by rw [hsc]; decide +kernel) (by decide) (lcT_ok h3) (ix_tup (enc := PyData.int) (ex_revT (enc := PyData.int) rdt_dat (ex_v (i := 0) (j := 0) B rfl rfl rfl)) rdt_dat) (fun _ _ => trivial) (fun _ _ _ => List.Perm.refl _) (fun _ step1 t tl1 hx hf => by (obtain rfl := som hf; exact ⟨true, _, fun X1 hX => by (have B1 := Bd.fam (W' := ["step"]) (G' := []) B hX (by (try rw [hsc]); decide +kernel); exact ⟨.nil, fun _ => ⟨_, rfl, (ex_neg (ex_v (i := 1) (j := 0) B1 rfl rfl rfl))⟩, fun h => Bool.noConfusion h⟩)⟩))))) ax_nil)) (fun F H v e o c => R.rt F H v e o c)
theorem cal_p_turned_back {P : Program} {w : World} {K : PySem.W.Frag} {mg : Str → Option Value} {base : Heap} {f : Addr} {fd : FuncData} (Fn : Fun K "turned_back" "turned_back" s_p_turned_back f fd) (hmg : mg "turned_back" = some (.ref f)) (hb : Binds K fd ["walk"] []) (g_tuple : mg "tuple" = none) : Cal P w K mg base 1 "turned_back" s_p_turned_back ["walk"] (sp_p_turned_back K) := by
  obtain ⟨sts_, hst_⟩ : ∃ z_, defBody s_p_turned_back = z_ := ⟨_, rfl⟩
  exact cal_ZQ (V := V_p_turned_back) (Gs := G_p_turned_back) (nl := 1) hst_ Fn sc_p_turned_back (by decide +kernel) (by decide +kernel) hmg hb (fun _ => rfl) rfl fun _ _ _ _ _ _ _ a b F0 os D B T hm R => body_p_turned_back rfl hst_ B T g_tuple a b F0 os D hm R
abbrev s_p_is_integer : Stmt := top 9
def N_p_is_integer : List Str := ["value"]
def V_p_is_integer : List Str := ["value"]
def G_p_is_integer : List Str := ["isinstance", "int", "bool"]
theorem sc_p_is_integer : FnScope N_p_is_integer ["value"] (defScope s_p_is_integer) := ⟨rfl, rfl, rfl, by decide +kernel, rfl, by decide +kernel, by decide +kernel⟩
abbrev sp_p_is_integer (K : PySem.W.Frag) : Sp := spZ (α := Int) (β := Bool) (fun a => [(dat (PyData.int a))]) (fun a => []) (fun a => m_p_is_integer a) (fun a b => (dat (PyData.bool b))) (fun a b => [])
set_option maxHeartbeats 4000000 in
theorem body_p_is_integer {X : Cx} (hsc : X.env.scope = defScope s_p_is_integer) {sts_ : List Stmt} (hst_ : defBody s_p_is_integer = sts_) (B : Bd X N_p_is_integer V_p_is_integer G_p_is_integer 0) (T : Bt X V_p_is_integer) (g_isinstance : X.mg "isinstance" = none) (g_int : X.mg "int" = none) (g_bool : X.mg "bool" = none) (value : Int) (b : Bool) (F0 : Hp) (os : Os) (D : Ends) (hm : m_p_is_integer value = some b) (R : RetZ F0 (os) (dat (PyData.bool b)) D) :
    SX X [sl (dat (PyData.int value))] (os) F0 sts_ D := by
  subst hst_
  unfold m_p_is_integer at hm
  obtain rfl := som hm
  exact sx_ret (ex_and (ex_fn (j := 0) B rfl g_isinstance (by decide +kernel) call_isi (rc_isi (d := (PyData.int value)) (T := "int") (show kitB "int" "int" = some true by decide +kernel)) (ax_cons (ex_v (i := 0) (j := 0) B rfl rfl rfl) (ax_cons (ex_tyname (T := "int") (gi := 1) B rfl g_int (by decide +kernel)) ax_nil))) (fun _ => (ex_one (ex_not (ex_fn (j := 0) B rfl g_isinstance (by decide +kernel) call_isi (rc_isi (d := (PyData.int value)) (T := "bool") (show kitB "int" "bool" = some false by decide +kernel)) (ax_cons (ex_v (i := 0) (j := 0) B rfl rfl rfl) (ax_cons (ex_tyname (T := "bool") (gi := 2) B rfl g_bool (by decide +kernel)) ax_nil)))))) (fun _ => rfl) rfl) (fun F H v e o c => R.rt F H v e o c)
theorem cal_p_is_integer {P : Program} {w : World} {K : PySem.W.Frag} {mg : Str → Option Value} {base : Heap} {f : Addr} {fd : FuncData} (Fn : Fun K "is_integer" "is_integer" s_p_is_integer f fd) (hmg : mg "is_integer" = some (.ref f)) (hb : Binds K fd ["value"] []) (g_isinstance : mg "isinstance" = none) (g_int : mg "int" = none) (g_bool : mg "bool" = none) : Cal P w K mg base 1 "is_integer" s_p_is_integer ["value"] (sp_p_is_integer K) := by
  obtain ⟨sts_, hst_⟩ : ∃ z_, defBody s_p_is_integer = z_ := ⟨_, rfl⟩
  exact cal_ZQ (V := V_p_is_integer) (Gs := G_p_is_integer) (nl := 0) hst_ Fn sc_p_is_integer (by decide +kernel) (by decide +kernel) hmg hb (fun _ => rfl) rfl fun _ _ _ _ _ _ _ a b F0 os D B T hm R => body_p_is_integer rfl hst_ B T g_isinstance g_int g_bool a b F0 os D hm R
abbrev s_p_is_letters : Stmt := top 11
def N_p_is_letters : List Str := ["value"]
def V_p_is_letters : List Str := ["value"]
def G_p_is_letters : List Str := ["is_integer", "MOST_LETTERS"]
theorem sc_p_is_letters : FnScope N_p_is_letters ["value"] (defScope s_p_is_letters) := ⟨rfl, rfl, rfl, by decide +kernel, rfl, by decide +kernel, by decide +kernel⟩
abbrev sp_p_is_letters (K : PySem.W.Frag) : Sp := spZ (α := Int) (β := Bool) (fun a => [(dat (PyData.int a))]) (fun a => []) (fun a => m_p_is_letters a) (fun a b => (dat (PyData.bool b))) (fun a b => [])
set_option maxHeartbeats 4000000 in
theorem body_p_is_letters {X : Cx} (hsc : X.env.scope = defScope s_p_is_letters) {sts_ : List Stmt} (hst_ : defBody s_p_is_letters = sts_) (B : Bd X N_p_is_letters V_p_is_letters G_p_is_letters 1) (T : Bt X V_p_is_letters) {tk_MOST_LETTERS : Tok} (c_p_is_integer : Cal X.prog X.w X.K X.mg X.base 1 "is_integer" s_p_is_integer ["value"] (sp_p_is_integer X.K)) (g_MOST_LETTERS : X.mg "MOST_LETTERS" = some (.int 4 tk_MOST_LETTERS)) (value : Int) (b : Bool) (F0 : Hp) (os : Os) (D : Ends) (hm : m_p_is_letters value = some b) (R : RetZ F0 (os) (dat (PyData.bool b)) D) :
    SX X [sl (dat (PyData.int value))] (os) F0 sts_ D := by
  subst hst_
  unfold m_p_is_letters at hm
  obtain ⟨t1, h1, hm⟩ := bnd hm
  obtain rfl := som hm
  exact sx_ret (ex_and (ex_call (a := value) (b := t1) (gi := 0) (rest := os) B rfl c_p_is_integer (by decide) h1 (ax_cons (ex_v (i := 0) (j := 0) B rfl rfl rfl) ax_nil)) (fun _ => (ex_one (ex_chain op_le op_le r2_le r2_le (fun _ => rfl) ex_int (ex_v (i := 0) (j := 0) B rfl rfl rfl) (fun _ => (ex_g (j := 1) B rfl g_MOST_LETTERS))))) (fun _ => rfl) rfl) (fun F H v e o c => R.rt F H v e o c)
theorem cal_p_is_letters {P : Program} {w : World} {K : PySem.W.Frag} {mg : Str → Option Value} {base : Heap} {f : Addr} {fd : FuncData} (Fn : Fun K "is_letters" "is_letters" s_p_is_letters f fd) (hmg : mg "is_letters" = some (.ref f)) (hb : Binds K fd ["value"] []) {tk_MOST_LETTERS : Tok} (c_p_is_integer : Cal P w K mg base 1 "is_integer" s_p_is_integer ["value"] (sp_p_is_integer K)) (g_MOST_LETTERS : mg "MOST_LETTERS" = some (.int 4 tk_MOST_LETTERS)) : Cal P w K mg base 2 "is_letters" s_p_is_letters ["value"] (sp_p_is_letters K) := by
  obtain ⟨sts_, hst_⟩ : ∃ z_, defBody s_p_is_letters = z_ := ⟨_, rfl⟩
  exact cal_ZQ (V := V_p_is_letters) (Gs := G_p_is_letters) (nl := 0) hst_ Fn sc_p_is_letters (by decide +kernel) (by decide +kernel) hmg hb (fun _ => rfl) rfl fun _ _ _ _ _ _ _ a b F0 os D B T hm R => body_p_is_letters rfl hst_ B T c_p_is_integer g_MOST_LETTERS a b F0 os D hm R
abbrev s_p_is_a_row : Stmt := top 12
def N_p_is_a_row : List Str := ["value", "letters", "rooms", "room"]
def V_p_is_a_row : List Str := ["value", "letters", "rooms"]
def G_p_is_a_row : List Str := ["isinstance", "tuple", "len", "all"]
theorem sc_p_is_a_row : FnScope N_p_is_a_row ["value", "letters", "rooms"] (defScope s_p_is_a_row) := ⟨rfl, rfl, rfl, by decide +kernel, rfl, by decide +kernel, by decide +kernel⟩
abbrev sp_p_is_a_row (K : PySem.W.Frag) : Sp := spZ (α := ((List Int) × Int × Int)) (β := Bool) (fun a => [(dat (PyData.tuple (List.map PyData.int a.1))), (dat (PyData.int a.2.1)), (dat (PyData.int a.2.2))]) (fun a => []) (fun a => m_p_is_a_row a.1 a.2.1 a.2.2) (fun a b => (dat (PyData.bool b))) (fun a b => [])
set_option maxHeartbeats 4000000 in
theorem body_p_is_a_row {X : Cx} (hsc : X.env.scope = defScope s_p_is_a_row) {sts_ : List Stmt} (hst_ : defBody s_p_is_a_row = sts_) (B : Bd X N_p_is_a_row V_p_is_a_row G_p_is_a_row 1) (T : Bt X V_p_is_a_row) (g_isinstance : X.mg "isinstance" = none) (g_tuple : X.mg "tuple" = none) (g_len : X.mg "len" = none) (g_all : X.mg "all" = none) (c_p_is_integer : Cal X.prog X.w X.K X.mg X.base 1 "is_integer" s_p_is_integer ["value"] (sp_p_is_integer X.K)) (value : (List Int)) (letters : Int) (rooms : Int) (b : Bool) (F0 : Hp) (os : Os) (D : Ends) (hm : m_p_is_a_row value letters rooms = some b) (R : RetZ F0 (os) (dat (PyData.bool b)) D) :
    SX X [sl (dat (PyData.tuple (List.map PyData.int value))), sl (dat (PyData.int letters)), sl (dat (PyData.int rooms)), un] (os) F0 sts_ D := by
  subst hst_
  unfold m_p_is_a_row at hm
  refine sx_if (WX.tx (wx_or (tx_not (tx_val (ex_fn (j := 0) B rfl g_isinstance (by decide +kernel) call_isi (rc_isi (d := (PyData.tuple (List.map PyData.int value))) (T := "tuple") (show kitB "tuple" "tuple" = some true by decide +kernel)) (ax_cons (ex_v (i := 0) (j := 0) B rfl rfl rfl) (ax_cons (ex_tyname (T := "tuple") (gi := 1) B rfl g_tuple (by decide +kernel)) ax_nil))) (by intro _; rfl))) (fun _ => (wx_or1 (tx_cmp op_ne r2_neI (nomark _) (EX.to (ex_fn (j := 2) B rfl g_len (by decide +kernel) call_len_seq (rc_lenT (ds := List.map PyData.int value) rdt_dat) (ax_cons (ex_v (i := 0) (j := 0) B rfl rfl rfl) ax_nil)) (by rw [List.length_map])) (ex_v (i := 1) (j := 1) B rfl rfl rfl)))) (fun _ => rfl) rfl)) (fun hk => ?_) (fun hk => ?_)
  · have hm := ifT hm hk
    obtain rfl := som hm
    exact sx_ret ex_bool (fun F H v e o c => R.rt F H v e o c)
  · have hm := ifF hm hk
    refine sx_fall ?_ rfl
    obtain ⟨t4, h4, hm⟩ := bnd hm
    obtain rfl := som hm
    exact sx_ret (ex_fn (j := 3) B rfl g_all (by decide +kernel) (cr_all B.calm) (rc_all rdl_dat) (ax_cons (EN.ex (en_lc (lc_mk1 (j := 3) (vp := fun room1 => (dat (PyData.int room1))) (c := anyOs) (enc := PyData.bool) (fun (_ : Unit) (room1 : Int) => ((fun (room1 : Int) => ((m_p_is_integer room1).bind fun t3 => some (t3 && (decide ((-1) ≤ room1) && decide (room1 < rooms))))) room1).map fun y => (some y, ())) (fun (_ : Unit) (tl1 : Os) => tl1) () (t4) () B rfl rfl (by rw [B.hN, hsc]; decide +kernel) (by rw [hsc]; decide +kernel) (by decide) (lcO_ok h4) (ix_tup (enc := PyData.int) (ex_v (i := 0) (j := 0) B rfl rfl rfl) rdt_dat) (fun _ _ => trivial) (fun _ _ _ => List.Perm.refl _) (fun _ room1 t tl1 hx hf => by (obtain ⟨y, hy, rfl⟩ := Option.map_eq_some_iff.mp hf; obtain ⟨t3, h3, hy⟩ := bnd hy; obtain rfl := som hy; exact ⟨true, _, fun X1 hX => by (have B1 := Bd.fam (W' := ["rooms", "room"]) (G' := ["is_integer"]) B hX (by (try rw [hsc]); decide +kernel); have c_p_is_integer' := fam_cal hX c_p_is_integer; exact ⟨.nil, fun _ => ⟨_, rfl, (ex_and (ex_call (a := room1) (b := t3) (gi := 0) (rest := tl1) B1 rfl c_p_is_integer' (by decide) h3 (ax_cons (ex_v (i := 3) (j := 1) B1 rfl rfl rfl) ax_nil)) (fun _ => (ex_one (ex_chain op_le op_lt r2_le r2_lt (fun _ => rfl) (ex_neg ex_int) (ex_v (i := 3) (j := 1) B1 rfl rfl rfl) (fun _ => (ex_v (i := 2) (j := 0) B1 rfl rfl rfl))))) (fun _ => rfl) rfl)⟩, fun h => Bool.noConfusion h⟩)⟩))))) ax_nil)) (fun F H v e o c => R.rt F H v e o c)
theorem cal_p_is_a_row {P : Program} {w : World} {K : PySem.W.Frag} {mg : Str → Option Value} {base : Heap} {f : Addr} {fd : FuncData} (Fn : Fun K "is_a_row" "is_a_row" s_p_is_a_row f fd) (hmg : mg "is_a_row" = some (.ref f)) (hb : Binds K fd ["value", "letters", "rooms"] []) (g_isinstance : mg "isinstance" = none) (g_tuple : mg "tuple" = none) (g_len : mg "len" = none) (g_all : mg "all" = none) (c_p_is_integer : Cal P w K mg base 1 "is_integer" s_p_is_integer ["value"] (sp_p_is_integer K)) : Cal P w K mg base 2 "is_a_row" s_p_is_a_row ["value", "letters", "rooms"] (sp_p_is_a_row K) := by
  obtain ⟨sts_, hst_⟩ : ∃ z_, defBody s_p_is_a_row = z_ := ⟨_, rfl⟩
  exact cal_ZQ (V := V_p_is_a_row) (Gs := G_p_is_a_row) (nl := 1) hst_ Fn sc_p_is_a_row (by decide +kernel) (by decide +kernel) hmg hb (fun _ => rfl) rfl fun _ _ _ _ _ _ _ a b F0 os D B T hm R => body_p_is_a_row rfl hst_ B T g_isinstance g_tuple g_len g_all c_p_is_integer a.1 a.2.1 a.2.2 b F0 os D hm R
abbrev s_p_doors_of : Stmt := top 13
def N_p_doors_of : List Str := ["rows", "found", "room", "row", "at", "goal"]
def V_p_doors_of : List Str := ["rows", "found", "room", "row", "at", "goal"]
def G_p_doors_of : List Str := ["enumerate"]
theorem sc_p_doors_of : FnScope N_p_doors_of ["rows"] (defScope s_p_doors_of) := ⟨rfl, rfl, rfl, by decide +kernel, rfl, by decide +kernel, by decide +kernel⟩
abbrev sp_p_doors_of (K : PySem.W.Frag) : Sp := spZ (α := (List (List Int))) (β := (List (List (Int × Int)))) (fun a => [(dat (PyData.tuple (List.map (eT PyData.int) a)))]) (fun a => []) (fun a => m_p_doors_of a) (fun a b => (dat (PyData.list (List.map (eD kI PyData.int) b)))) (fun a b => [])
set_option maxHeartbeats 4000000 in
theorem body_p_doors_of {X : Cx} (hsc : X.env.scope = defScope s_p_doors_of) {sts_ : List Stmt} (hst_ : defBody s_p_doors_of = sts_) (B : Bd X N_p_doors_of V_p_doors_of G_p_doors_of 0) (T : Bt X V_p_doors_of) (g_enumerate : X.mg "enumerate" = none) (rows : (List (List Int))) (b : (List (List (Int × Int)))) (F0 : Hp) (os : Os) (D : Ends) (hm : m_p_doors_of rows = some b) (R : RetZ F0 (os) (dat (PyData.list (List.map (eD kI PyData.int) b))) D) :
    SX X [sl (dat (PyData.tuple (List.map (eT PyData.int) rows))), un, un, un, un, un] (os) F0 sts_ D := by
  subst hst_
  unfold m_p_doors_of at hm
  obtain ⟨z2, h3, hm⟩ := bnd hm
  obtain ⟨t4, h4, hm⟩ := bnd hm
  refine sx_asgLcN (i := 1) B T rfl (by rw [hsc]; exact lcl_of (by decide +kernel)) (f := (odT kI PyData.int)) (m := (fun (row1 : (List Int)) => (some ([] : (List (Int × Int))) : Option (List (Int × Int)))))  (cp_mk1 (j := 3) (vp := fun row1 => (dat (PyData.tuple (List.map PyData.int row1)))) (c := anyOs) B rfl rfl (by rw [B.hN, hsc]; decide +kernel) (by rw [hsc]; decide +kernel) (lenO_ok h3) (ix_tup (enc := (eT PyData.int)) (ex_v (i := 0) (j := 0) B rfl rfl rfl) rdt_dat) (fun _ => trivial)) h4 (fun row1 t q1 hx hf X1 hX => by (obtain rfl := som hf; have B1 := Bd.fam (W' := []) (G' := []) B hX (by (try rw [hsc]); decide +kernel); exact (en_dnew (kd := kI)))) (sw_ok (by rw [hsc]; decide +kernel) (by rw [hsc]; exact lcl_of (by decide +kernel)) (by decide) (by decide +kernel)) (fun q_found4 => ?_)
  refine sx_open 0 rfl (fun k_5 => ?_)
  obtain ⟨f8, h23, hm⟩ := bnd hm
  refine sx_for (c := anyOs) _ (fun (s6 : (List (List (Int × Int)))) (_ : Unit) => [sl (dat (PyData.tuple (List.map (eT PyData.int) rows))), sl (own q_found4), un, un, un, un]) (fun (s6 : (List (List (Int × Int)))) (_ : Unit) => (q_found4, onl k_5 (List.map (odT kI PyData.int) s6)) :: os) B T (fun x7 => gx_pair B (gx_name (i := 2) (vi := 2) (φ := (dat (PyData.int x7.1))) B T rfl rfl) (gx_name (i := 3) (vi := 3) (φ := (dat (PyData.tuple (List.map PyData.int x7.2)))) B T rfl rfl)) t4 () f8 h23 (ix_enumT (enc := (eT PyData.int)) (gi := 0) B rfl g_enumerate (ex_v (i := 0) (j := 0) B rfl rfl rfl) rdt_dat) ⟨.inl rfl, .inl rfl, .inl rfl, .inl rfl, .inl rfl, .inl rfl, trivial⟩ (fun _ _ => trivial) (fun F10 e9 s6 _ x7 z24 hx hm => ?_) (fun _ => ?_)
  · clear h23
    obtain ⟨f13, h21, hm⟩ := bnd hm
    refine sx_for (c := anyOs) _ (fun (s11 : (List (List (Int × Int)))) (_ : Unit) => [sl (dat (PyData.tuple (List.map (eT PyData.int) rows))), sl (own q_found4), sl (dat (PyData.int x7.1)), sl (dat (PyData.tuple (List.map PyData.int x7.2))), un, un]) (fun (s11 : (List (List (Int × Int)))) (_ : Unit) => (q_found4, onl k_5 (List.map (odT kI PyData.int) s11)) :: os) B T (fun x12 => gx_pair B (gx_name (i := 4) (vi := 4) (φ := (dat (PyData.int x12.1))) B T rfl rfl) (gx_name (i := 5) (vi := 5) (φ := (dat (PyData.int x12.2))) B T rfl rfl)) s6 () f13 h21 (ix_enumT (enc := PyData.int) (gi := 0) B rfl g_enumerate (ex_v (i := 3) (j := 3) B rfl rfl rfl) rdt_dat) ⟨.inl rfl, .inl rfl, .inl rfl, .inl rfl, .inl rfl, .inl rfl, trivial⟩ (fun _ _ => trivial) (fun F15 e14 s11 _ x12 z22 hx hm => ?_) (fun _ => ?_)
    · clear h21
      obtain ⟨s20, h_s20, hm⟩ := bnd hm
      refine sx_join [sl (dat (PyData.tuple (List.map (eT PyData.int) rows))), sl (own q_found4), sl (dat (PyData.int x7.1)), sl (dat (PyData.tuple (List.map PyData.int x7.2))), sl (dat (PyData.int x12.1)), sl (dat (PyData.int x12.2))] ((q_found4, onl k_5 (List.map (odT kI PyData.int) s20)) :: os) (?_) (fun Q => ?_)
      · clear h_s20
        obtain rfl := som hm
        exact sx_nil fun σ H a => ⟨(), (a.weak ⟨.inl rfl, .inl rfl, .inl rfl, .inl rfl, .inr rfl, .inr rfl, trivial⟩)⟩
      · have hm := h_s20
        refine sx_if (tx_cmp op_ge r2_ge (nomark _) (ex_v (i := 5) (j := 5) B rfl rfl rfl) ex_int) (fun hk => ?_) (fun hk => ?_)
        · have hm := ifT hm hk
          obtain ⟨t16, h16, hm⟩ := bnd hm
          obtain ⟨t17, h17, hm⟩ := bnd hm
          refine sx_dput (kd := kI) (enc := PyData.int) (w := t16) (x := x12.2) inj_kI h17 B (ex_v (i := 5) (j := 5) B rfl rfl rfl) (ex_nst (f := (odT kI PyData.int)) (ws := s11) 0 h16 rfl (ex_v (i := 1) (j := 1) B rfl rfl rfl) (ex_v (i := 2) (j := 2) B rfl rfl rfl)) (ex_add (ex_v (i := 4) (j := 4) B rfl rfl rfl) ex_int) (wr_nest (f := (odT kI PyData.int)) (ws := s11) 0 rfl h16) ?_
          obtain ⟨t18, h18, hm⟩ := bnd hm
          obtain ⟨t19, h19, hm⟩ := bnd hm
          refine sx_dput (kd := kI) (enc := PyData.int) (w := t18) (x := x7.1) inj_kI h19 B (ex_v (i := 2) (j := 2) B rfl rfl rfl) (ex_nst (f := (odT kI PyData.int)) (ws := (setI s11 x7.1 t17)) 0 h18 rfl (ex_v (i := 1) (j := 1) B rfl rfl rfl) (ex_v (i := 5) (j := 5) B rfl rfl rfl)) (ex_sub (ex_neg (ex_v (i := 4) (j := 4) B rfl rfl rfl)) ex_int) (wr_nest (f := (odT kI PyData.int)) (ws := (setI s11 x7.1 t17)) 0 rfl h18) ?_
          obtain rfl := som hm
          exact sx_fall Q rfl
        · have hm := ifF hm hk
          obtain rfl := som hm
          exact sx_fall Q rfl
    · skip
      obtain rfl := som hm
      exact sx_nil fun σ H a => ⟨(), (a.weak ⟨.inl rfl, .inl rfl, .inr rfl, .inr rfl, .inl rfl, .inl rfl, trivial⟩)⟩
  · skip
    refine sx_frzF (j := 0) (i := 1) (frb_onl (fun _ => frb_od)) rfl rfl ?_
    obtain rfl := som hm
    exact sx_ret (ex_v (i := 1) (j := 1) B rfl rfl rfl) (fun F H v e o c => R.rt F H v e o c)
theorem cal_p_doors_of {P : Program} {w : World} {K : PySem.W.Frag} {mg : Str → Option Value} {base : Heap} {f : Addr} {fd : FuncData} (Fn : Fun K "doors_of" "doors_of" s_p_doors_of f fd) (hmg : mg "doors_of" = some (.ref f)) (hb : Binds K fd ["rows"] []) (g_enumerate : mg "enumerate" = none) : Cal P w K mg base 1 "doors_of" s_p_doors_of ["rows"] (sp_p_doors_of K) := by
  obtain ⟨sts_, hst_⟩ : ∃ z_, defBody s_p_doors_of = z_ := ⟨_, rfl⟩
  exact cal_ZQ (V := V_p_doors_of) (Gs := G_p_doors_of) (nl := 5) hst_ Fn sc_p_doors_of (by decide +kernel) (by decide +kernel) hmg hb (fun _ => rfl) rfl fun _ _ _ _ _ _ _ a b F0 os D B T hm R => body_p_doors_of rfl hst_ B T g_enumerate a b F0 os D hm R
abbrev s_p_is_one_way : Stmt := top 14
def N_p_is_one_way : List Str := ["rows", "letters", "at", "goals", "row"]
def V_p_is_one_way : List Str := ["rows", "letters", "at", "goals"]
def G_p_is_one_way : List Str := ["range", "len", "set"]
theorem sc_p_is_one_way : FnScope N_p_is_one_way ["rows", "letters"] (defScope s_p_is_one_way) := ⟨rfl, rfl, rfl, by decide +kernel, rfl, by decide +kernel, by decide +kernel⟩
abbrev sp_p_is_one_way (K : PySem.W.Frag) : Sp := spZ (α := ((List (List Int)) × Int)) (β := Bool) (fun a => [(dat (PyData.tuple (List.map (eT PyData.int) a.1))), (dat (PyData.int a.2))]) (fun a => []) (fun a => m_p_is_one_way a.1 a.2) (fun a b => (dat (PyData.bool b))) (fun a b => [])
set_option maxHeartbeats 4000000 in
theorem body_p_is_one_way {X : Cx} (hsc : X.env.scope = defScope s_p_is_one_way) {sts_ : List Stmt} (hst_ : defBody s_p_is_one_way = sts_) (B : Bd X N_p_is_one_way V_p_is_one_way G_p_is_one_way 0) (T : Bt X V_p_is_one_way) (g_range : X.mg "range" = none) (g_len : X.mg "len" = none) (g_set : X.mg "set" = none) (rows : (List (List Int))) (letters : Int) (b : Bool) (F0 : Hp) (os : Os) (D : Ends) (hm : m_p_is_one_way rows letters = some b) (R : RetZ F0 (os) (dat (PyData.bool b)) D) :
    SX X [sl (dat (PyData.tuple (List.map (eT PyData.int) rows))), sl (dat (PyData.int letters)), un, un, un] (os) F0 sts_ D := by
  subst hst_
  unfold m_p_is_one_way at hm
  obtain ⟨t1, h1, hm⟩ := bnd hm
  obtain ⟨f4o, h13, hm⟩ := bnd hm
  refine sx_forR (c := anyOs) _ (fun (s2 : Unit) (_ : Unit) => [sl (dat (PyData.tuple (List.map (eT PyData.int) rows))), sl (dat (PyData.int letters)), un, un, un]) (fun (s2 : Unit) (_ : Unit) => os) (fun (r : Bool) v H => ∃ F, Same F0 F ∧ Ow F (os) H ∧ Cl (dat (PyData.bool r)) F v) B T (fun at_3 => gx_name (i := 2) (vi := 2) (φ := (dat (PyData.int at_3))) B T rfl rfl) () () f4o h13 (ix_rng1 (gi := 0) B rfl g_range h1 (ex_v (i := 1) (j := 1) B rfl rfl rfl)) ⟨.inl rfl, .inl rfl, .inl rfl, .inl rfl, .inl rfl, trivial⟩ (fun _ _ => trivial) (fun F6 e5 s2 _ at_3 z15 hx hm2 => ?_) (fun f4 _ ho => ?_) (fun r14 v H ho hr => ?_)
  · clear hm h13
    have hm := hm2
    obtain ⟨t11, h11, hm⟩ := bnd hm
    refine sx_asgLc (i := 3) B T rfl (by rw [hsc]; exact lcl_of (by decide +kernel)) (lc_mk1 (j := 4) (vp := fun row7 => (dat (PyData.tuple (List.map PyData.int row7)))) (c := anyOs) (enc := PyData.int) (fun (_ : Unit) (row7 : (List Int)) => ((fun (row7 : (List Int)) => ((idx row7 at_3).bind fun t9 => if (decide (0 ≤ t9)) = true then ((idx row7 at_3).bind fun t10 => some (some t10)) else some none)) row7).map fun y => (y, ())) (fun (_ : Unit) (tl1 : Os) => tl1) () (t11) () B rfl rfl (by rw [B.hN, hsc]; decide +kernel) (by rw [hsc]; decide +kernel) (by decide) (lcG_ok h11) (ix_tup (enc := (eT PyData.int)) (ex_v (i := 0) (j := 0) B rfl rfl rfl) rdt_dat) (fun _ _ => trivial) (fun _ _ _ => List.Perm.refl _) (fun _ row7 t tl1 hx hf => by (obtain ⟨y, hy, rfl⟩ := Option.map_eq_some_iff.mp hf; obtain ⟨t9, h9, hy⟩ := bnd hy; cases hc : (decide (0 ≤ t9)) with | true => (have hy := ifT hy hc; obtain ⟨t10, h10, hy⟩ := bnd hy; obtain rfl := som hy; exact ⟨true, _, fun X1 hX => by (have B1 := Bd.fam (W' := ["at", "row"]) (G' := []) B hX (by (try rw [hsc]); decide +kernel); exact ⟨.one (TX.to (tx_cmp op_ge r2_ge (nomark _) (ex_idxT (enc := PyData.int) h9 rdt_dat (ex_v (i := 4) (j := 1) B1 rfl rfl rfl) (ex_v (i := 2) (j := 0) B1 rfl rfl rfl)) ex_int) hc), fun _ => ⟨_, rfl, (ex_idxT (enc := PyData.int) h10 rdt_dat (ex_v (i := 4) (j := 1) B1 rfl rfl rfl) (ex_v (i := 2) (j := 0) B1 rfl rfl rfl))⟩, fun h => Bool.noConfusion h⟩)⟩) | false => (have hy := ifF hy hc; obtain rfl := som hy; exact ⟨false, _, fun X1 hX => by (have B1 := Bd.fam (W' := ["at", "row"]) (G' := []) B hX (by (try rw [hsc]); decide +kernel); exact ⟨.one (TX.to (tx_cmp op_ge r2_ge (nomark _) (ex_idxT (enc := PyData.int) h9 rdt_dat (ex_v (i := 4) (j := 1) B1 rfl rfl rfl) (ex_v (i := 2) (j := 0) B1 rfl rfl rfl)) ex_int) hc), fun h => Bool.noConfusion h, fun _ => ⟨rfl, rfl⟩⟩)⟩)))) (sw_ok (by rw [hsc]; decide +kernel) (by rw [hsc]; exact lcl_of (by decide +kernel)) (by decide) (by decide +kernel)) (fun q_goals11 => ?_)
    refine sx_frz (j := 0) (i := 3) rfl rfl ?_
    obtain ⟨t12, h12, hm⟩ := bnd hm
    refine sx_if (tx_cmp op_lt r2_lt (nomark _) (ex_lenSet (gi := 1) (gj := 2) B rfl g_len rfl g_set h12 rdl_dat (ex_v (i := 3) (j := 3) B rfl rfl rfl)) (EX.to (ex_fn (j := 1) B rfl g_len (by decide +kernel) call_len_seq (rc_lenL (ds := List.map PyData.int t11) rdl_dat) (ax_cons (ex_v (i := 3) (j := 3) B rfl rfl rfl) ax_nil)) (by rw [List.length_map]))) (fun hk => ?_) (fun hk => ?_)
    · have hm := ifT hm hk
      exact sx_ret ex_bool (fun F H v e o c => ⟨_, (som hm).symm, F, (e5.trans e), o, c⟩)
    · have hm := ifF hm hk
      refine sx_fall ?_ rfl
      exact sx_nil fun σ H a => ⟨_, (), (som hm).symm, (a.weak ⟨.inl rfl, .inl rfl, .inr rfl, .inr rfl, .inl rfl, trivial⟩)⟩
  · cases ho
    have hm := elimR hm
    obtain rfl := som hm
    exact sx_ret ex_bool (fun F H v e o c => R.rt F H v e o c)
  · cases ho
    have hm := elimL hm
    obtain rfl := som hm
    obtain ⟨F, e, o, c⟩ := hr
    exact R.rt F H v e o c
theorem cal_p_is_one_way {P : Program} {w : World} {K : PySem.W.Frag} {mg : Str → Option Value} {base : Heap} {f : Addr} {fd : FuncData} (Fn : Fun K "is_one_way" "is_one_way" s_p_is_one_way f fd) (hmg : mg "is_one_way" = some (.ref f)) (hb : Binds K fd ["rows", "letters"] []) (g_range : mg "range" = none) (g_len : mg "len" = none) (g_set : mg "set" = none) : Cal P w K mg base 1 "is_one_way" s_p_is_one_way ["rows", "letters"] (sp_p_is_one_way K) := by
  obtain ⟨sts_, hst_⟩ : ∃ z_, defBody s_p_is_one_way = z_ := ⟨_, rfl⟩
  exact cal_ZQ (V := V_p_is_one_way) (Gs := G_p_is_one_way) (nl := 3) hst_ Fn sc_p_is_one_way (by decide +kernel) (by decide +kernel) hmg hb (fun _ => rfl) rfl fun _ _ _ _ _ _ _ a b F0 os D B T hm R => body_p_is_one_way rfl hst_ B T g_range g_len g_set a.1 a.2 b F0 os D hm R
abbrev s_p_first_order : Stmt := top 15
def N_p_first_order : List Str := ["letters", "doors", "home", "order", "met", "at", "step", "goal"]
def V_p_first_order : List Str := ["letters", "doors", "home", "order", "met", "at", "step", "goal"]
def G_p_first_order : List Str := ["len", "steps_of"]
theorem sc_p_first_order : FnScope N_p_first_order ["letters", "doors", "home"] (defScope s_p_first_order) := ⟨rfl, rfl, rfl, by decide +kernel, rfl, by decide +kernel, by decide +kernel⟩
abbrev sp_p_first_order (K : PySem.W.Frag) : Sp := spZ (α := (Int × (List (List (Int × Int))) × Int)) (β := (List Int)) (fun a => [(dat (PyData.int a.1)), (dat (PyData.list (List.map (eD kI PyData.int) a.2.1))), (dat (PyData.int a.2.2))]) (fun a => []) (fun a => m_p_first_order a.1 a.2.1 a.2.2) (fun a b => (dat (PyData.list (List.map PyData.int b)))) (fun a b => [])
set_option maxHeartbeats 4000000 in
theorem body_p_first_order {X : Cx} (hsc : X.env.scope = defScope s_p_first_order) {sts_ : List Stmt} (hst_ : defBody s_p_first_order = sts_) (B : Bd X N_p_first_order V_p_first_order G_p_first_order 1) (T : Bt X V_p_first_order) (g_len : X.mg "len" = none) (c_p_steps_of : Cal X.prog X.w X.K X.mg X.base 1 "steps_of" s_p_steps_of ["letters"] (sp_p_steps_of X.K)) (letters : Int) (doors : (List (List (Int × Int)))) (home : Int) (b : (List Int)) (F0 : Hp) (os : Os) (D : Ends) (hm : m_p_first_order letters doors home = some b) (R : RetZ F0 (os) (dat (PyData.list (List.map PyData.int b))) D) :
    SX X [sl (dat (PyData.int letters)), sl (dat (PyData.list (List.map (eD kI PyData.int) doors))), sl (dat (PyData.int home)), un, un, un, un, un] (os) F0 sts_ D := by
  subst hst_
  unfold m_p_first_order at hm
  refine sx_par3 (i := 3) (j := 4) (l := 5) _ hsc B rfl rfl rfl (by decide) (by decide) (by decide) (by decide +kernel) (by decide +kernel) (by decide +kernel) (by intro env he; cases env; cases he; first | rfl | kernel_rfl) (aq_n (n := ol (List.map PyData.int ([home]))) (en_lst (ds := [(PyData.int home)]) (hl := len_ok (n := 1) rfl) (ax_cons (ex_v (i := 2) (j := 2) B rfl rfl rfl) ax_nil)) (fun q_order1 => (aq_n (n := od kI (eM PyData.bool ([(home, true)]))) (en_disp1 (f := Sum.inl) (enc := PyData.bool) (k' := home) (x' := true) inj_kI (fun qd => (ex_v (i := 2) (j := 2) B rfl rfl rfl)) (fun qd => ex_bool)) (fun q_met2 => (aq_x (φ := (dat (PyData.int 0))) ex_int aq_nil))))) (fun v0 v1 v2 os_ hr_ => ?_) (by rintro φs os_ ⟨q_order1, _, rfl, q_met2, _, rfl, _, rfl, rfl, rfl⟩; exact ⟨_, _, _, rfl⟩)
  obtain ⟨q_order1, _, e0, q_met2, _, e1, _, e2, e8, e9⟩ := hr_
  cases e0; cases e1; cases e2; cases e8; cases e9
  obtain ⟨f4o, h22, hm⟩ := bnd hm
  refine sx_while _ _ (fun (s3 : (Int × (List (Int × Bool)) × (List Int))) (_ : Unit) => [sl (dat (PyData.int letters)), sl (dat (PyData.list (List.map (eD kI PyData.int) doors))), sl (dat (PyData.int home)), sl (own q_order1), sl (own q_met2), sl (dat (PyData.int s3.1)), un, un]) (fun (s3 : (Int × (List (Int × Bool)) × (List Int))) (_ : Unit) => (q_met2, od kI (eM PyData.bool s3.2.1)) :: (q_order1, ol (List.map PyData.int s3.2.2)) :: os) (fun (r : (List Int)) v H => ∃ F, Same F0 F ∧ Ow F (os) H ∧ Cl (dat (PyData.list (List.map PyData.int r))) F v) T 1000 (0, [(home, true)], [home]) () f4o h22 ⟨.inl rfl, .inl rfl, .inl rfl, .inl rfl, .inl rfl, .inl rfl, .inl rfl, .inl rfl, trivial⟩ rfl (fun s3 _ b hm => by (obtain rfl := som hm; exact (tx_cmp op_lt r2_lt (nomark _) (ex_v (i := 5) (j := 5) B rfl rfl rfl) (EX.to (ex_fn (j := 0) B rfl g_len (by decide +kernel) call_len_seq (rc_lenL (ds := List.map PyData.int s3.2.2) (rdl_own 1 rfl)) (ax_cons (ex_v (i := 3) (j := 3) B rfl rfl rfl) ax_nil)) (by rw [List.length_map]))))) (fun F6 e5 s3 _ z23 _ hm => ?_) (fun f4 _ ho => ?_) (fun r21 v H ho hr => ?_)
  · clear h22
    obtain ⟨t7, h7, hm⟩ := bnd hm
    obtain ⟨f10, h19, hm⟩ := bnd hm
    refine sx_for (c := anyOs) _ (fun (s8 : ((List (Int × Bool)) × (List Int))) (_ : Unit) => [sl (dat (PyData.int letters)), sl (dat (PyData.list (List.map (eD kI PyData.int) doors))), sl (dat (PyData.int home)), sl (own q_order1), sl (own q_met2), sl (dat (PyData.int s3.1)), un, un]) (fun (s8 : ((List (Int × Bool)) × (List Int))) (_ : Unit) => (q_met2, od kI (eM PyData.bool s8.1)) :: (q_order1, ol (List.map PyData.int s8.2)) :: os) B T (fun step9 => gx_name (i := 6) (vi := 6) (φ := (dat (PyData.int step9))) B T rfl rfl) (s3.2.1, s3.2.2) () f10 h19 (ix_list (enc := PyData.int) (c := anyOs) (ex_call (a := letters) (b := t7) (gi := 1) (rest := (q_met2, od kI (eM PyData.bool s3.2.1)) :: (q_order1, ol (List.map PyData.int s3.2.2)) :: os) B rfl c_p_steps_of (by decide) h7 (ax_cons (ex_v (i := 0) (j := 0) B rfl rfl rfl) ax_nil)) (fun _ _ => rdl_dat) trivial) ⟨.inl rfl, .inl rfl, .inl rfl, .inl rfl, .inl rfl, .inl rfl, .inl rfl, .inl rfl, trivial⟩ (fun _ _ => trivial) (fun F12 e11 s8 _ step9 z20 hx hm => ?_) (fun _ => ?_)
    · clear h19
      obtain ⟨t13, h13, hm⟩ := bnd hm
      obtain ⟨t14, h14, hm⟩ := bnd hm
      refine sx_asg (i := 7) (vi := 7) (φ := (dat ((eO PyData.int) (dGet t14 step9)))) B T rfl rfl (ex_dget1 (kd := kI) (enc := PyData.int) (w := t14) (k := step9) inj_kI B rdd_dat rdd_dat (ex_idxL (enc := (eD kI PyData.int)) h14 rdl_dat (ex_v (i := 1) (j := 1) B rfl rfl rfl) (ex_idxL (enc := PyData.int) h13 (rdl_own 1 rfl) (ex_v (i := 3) (j := 3) B rfl rfl rfl) (ex_v (i := 5) (j := 5) B rfl rfl rfl))) (ex_v (i := 6) (j := 6) B rfl rfl rfl)) ?_
      cases hq18 : (dGet t14 step9) with
      | none =>
        rw [hq18] at hm
        refine sx_if (WX.tx (wx_and (l := false) (tx_cmp op_notN (r2_notN (d := PyData.none) (t := false) rfl) (nomark _) (ex_v (i := 7) (j := 7) B rfl rfl rfl) ex_none) (fun hk => Bool.noConfusion hk) (fun _ => rfl) rfl)) (fun hk => Bool.noConfusion hk) (fun _ => ?_)
        refine sx_fall ?_ rfl
        obtain rfl := som hm
        exact sx_nil fun σ H a => ⟨(), (a.weak ⟨.inl rfl, .inl rfl, .inl rfl, .inl rfl, .inl rfl, .inl rfl, .inr rfl, .inr rfl, trivial⟩)⟩
      | some goal15 =>
        rw [hq18] at hm
        obtain ⟨s18, h_s18, hm⟩ := bnd hm
        refine sx_join [sl (dat (PyData.int letters)), sl (dat (PyData.list (List.map (eD kI PyData.int) doors))), sl (dat (PyData.int home)), sl (own q_order1), sl (own q_met2), sl (dat (PyData.int s3.1)), sl (dat (PyData.int step9)), sl (dat (PyData.int goal15))] ((q_met2, od kI (eM PyData.bool s18.1)) :: (q_order1, ol (List.map PyData.int s18.2)) :: os) (?_) (fun Q => ?_)
        · clear h_s18
          obtain rfl := som hm
          exact sx_nil fun σ H a => ⟨(), (a.weak ⟨.inl rfl, .inl rfl, .inl rfl, .inl rfl, .inl rfl, .inl rfl, .inr rfl, .inr rfl, trivial⟩)⟩
        · have hm := h_s18
          refine sx_if (WX.tx (wx_and (tx_cmp op_notN (r2_notN (d := (PyData.int goal15)) (t := true) rfl) (nomark _) (ex_v (i := 7) (j := 7) B rfl rfl rfl) ex_none) (fun _ => (wx_and1 (tx_dnotin (kd := kI) (enc := PyData.bool) (w := s8.1) (k := goal15) inj_kI B (rdd_own 0 rfl) (ex_v (i := 7) (j := 7) B rfl rfl rfl) (ex_v (i := 4) (j := 4) B rfl rfl rfl)))) (fun _ => rfl) rfl)) (fun hk => ?_) (fun hk => ?_)
          · have hm := ifT hm hk
            obtain ⟨t16, h16, hm⟩ := bnd hm
            refine sx_dput (kd := kI) (enc := PyData.bool) (w := s8.1) (x := true) inj_kI h16 B ex_bool (ex_v (i := 4) (j := 4) B rfl rfl rfl) (ex_v (i := 7) (j := 7) B rfl rfl rfl) (wr_flat (f := (odT kI PyData.bool)) (d := s8.1) 0 rfl) ?_
            obtain ⟨t17, h17, hm⟩ := bnd hm
            refine sx_expr (ex_app (enc := PyData.int) (j := 1) (xs0 := s8.2) (xs := s8.2) (y := goal15) h17 (ex_v (i := 3) (j := 3) B rfl rfl rfl) rfl (ex_v (i := 7) (j := 7) B rfl rfl rfl) rfl) ?_
            obtain rfl := som hm
            exact sx_fall Q rfl
          · have hm := ifF hm hk
            obtain rfl := som hm
            exact sx_fall Q rfl
    · skip
      refine sx_addI (i := 5) (vi := 5) B T rfl rfl rfl ex_int ?_
      exact sx_nil fun σ H a => ⟨_, (), (som hm).symm, (a.weak ⟨.inl rfl, .inl rfl, .inl rfl, .inl rfl, .inl rfl, .inl rfl, .inl rfl, .inl rfl, trivial⟩)⟩
  · cases ho
    have hm := elimR hm
    refine sx_frz (j := 1) (i := 3) rfl rfl ?_
    obtain rfl := som hm
    exact sx_ret (ex_v (i := 3) (j := 3) B rfl rfl rfl) (fun F H v e o c => R.rt F H v e (o.drop) c)
  · cases ho
    have hm := elimL hm
    cases hm
theorem cal_p_first_order {P : Program} {w : World} {K : PySem.W.Frag} {mg : Str → Option Value} {base : Heap} {f : Addr} {fd : FuncData} (Fn : Fun K "first_order" "first_order" s_p_first_order f fd) (hmg : mg "first_order" = some (.ref f)) (hb : Binds K fd ["letters", "doors", "home"] []) (g_len : mg "len" = none) (c_p_steps_of : Cal P w K mg base 1 "steps_of" s_p_steps_of ["letters"] (sp_p_steps_of K)) : Cal P w K mg base 2 "first_order" s_p_first_order ["letters", "doors", "home"] (sp_p_first_order K) := by
  obtain ⟨sts_, hst_⟩ : ∃ z_, defBody s_p_first_order = z_ := ⟨_, rfl⟩
  exact cal_ZQ (V := V_p_first_order) (Gs := G_p_first_order) (nl := 5) hst_ Fn sc_p_first_order (by decide +kernel) (by decide +kernel) hmg hb (fun _ => rfl) rfl fun _ _ _ _ _ _ _ a b F0 os D B T hm R => body_p_first_order rfl hst_ B T g_len c_p_steps_of a.1 a.2.1 a.2.2 b F0 os D hm R
abbrev s_p_is_a_web : Stmt := top 16
def N_p_is_a_web : List Str := ["value", "letters", "rows", "doors", "row", "steps"]
def V_p_is_a_web : List Str := ["value", "letters", "rows", "doors"]
def G_p_is_a_web : List Str := ["isinstance", "tuple", "len", "is_letters", "all", "is_one_way", "doors_of", "any", "first_order", "list", "range"]
theorem sc_p_is_a_web : FnScope N_p_is_a_web ["value"] (defScope s_p_is_a_web) := ⟨rfl, rfl, rfl, by decide +kernel, rfl, by decide +kernel, by decide +kernel⟩
abbrev sp_p_is_a_web (K : PySem.W.Frag) : Sp := spZ (α := (Int × (List (List Int)))) (β := Bool) (fun a => [(dat (PyData.tuple [(PyData.int a.1), (PyData.tuple (List.map (eT PyData.int) a.2))]))]) (fun a => []) (fun a => m_p_is_a_web a) (fun a b => (dat (PyData.bool b))) (fun a b => [])
set_option maxHeartbeats 4000000 in
theorem body_p_is_a_web {X : Cx} (hsc : X.env.scope = defScope s_p_is_a_web) {sts_ : List Stmt} (hst_ : defBody s_p_is_a_web = sts_) (B : Bd X N_p_is_a_web V_p_is_a_web G_p_is_a_web 2) (T : Bt X V_p_is_a_web) (g_isinstance : X.mg "isinstance" = none) (g_tuple : X.mg "tuple" = none) (g_len : X.mg "len" = none) (c_p_is_letters : Cal X.prog X.w X.K X.mg X.base 2 "is_letters" s_p_is_letters ["value"] (sp_p_is_letters X.K)) (g_all : X.mg "all" = none) (c_p_is_a_row : Cal X.prog X.w X.K X.mg X.base 2 "is_a_row" s_p_is_a_row ["value", "letters", "rooms"] (sp_p_is_a_row X.K)) (c_p_is_one_way : Cal X.prog X.w X.K X.mg X.base 1 "is_one_way" s_p_is_one_way ["rows", "letters"] (sp_p_is_one_way X.K)) (c_p_doors_of : Cal X.prog X.w X.K X.mg X.base 1 "doors_of" s_p_doors_of ["rows"] (sp_p_doors_of X.K)) (g_any : X.mg "any" = none) (c_p_first_order : Cal X.prog X.w X.K X.mg X.base 2 "first_order" s_p_first_order ["letters", "doors", "home"] (sp_p_first_order X.K)) (g_list : X.mg "list" = none) (g_range : X.mg "range" = none) (value : (Int × (List (List Int)))) (b : Bool) (F0 : Hp) (os : Os) (D : Ends) (hm : m_p_is_a_web value = some b) (R : RetZ F0 (os) (dat (PyData.bool b)) D) :
    SX X [sl (dat (PyData.tuple [(PyData.int value.1), (PyData.tuple (List.map (eT PyData.int) value.2))])), un, un, un, un, un] (os) F0 sts_ D := by
  subst hst_
  unfold m_p_is_a_web at hm
  obtain ⟨t3, h3, hm⟩ := bnd hm
  refine sx_if (WX.tx (wx_or (l := t3) (os2 := os) (tx_not (tx_val (ex_fn (j := 0) B rfl g_isinstance (by decide +kernel) call_isi (rc_isi (d := (PyData.tuple [(PyData.int value.1), (PyData.tuple (List.map (eT PyData.int) value.2))])) (T := "tuple") (show kitB "tuple" "tuple" = some true by decide +kernel)) (ax_cons (ex_v (i := 0) (j := 0) B rfl rfl rfl) (ax_cons (ex_tyname (T := "tuple") (gi := 1) B rfl g_tuple (by decide +kernel)) ax_nil))) (by intro _; rfl))) (fun hk => by (have hm := ifF h3 hk; obtain ⟨t2, h2, hm⟩ := bnd hm; obtain rfl := som hm; exact (wx_or (l := t2) (os2 := os) (tx_cmp op_ne r2_neI (nomark _) (ex_fn (j := 2) B rfl g_len (by decide +kernel) call_len_seq rc_len2 (ax_cons (ex_v (i := 0) (j := 0) B rfl rfl rfl) ax_nil)) ex_int) (fun hk => by (have hm := ifF h2 hk; obtain ⟨t1, h1, hm⟩ := bnd hm; obtain rfl := som hm; exact (wx_or1 (tx_not (tx_val (ex_call (a := value.1) (b := t1) (gi := 3) (rest := os) B rfl c_p_is_letters (by decide) h1 (ax_cons (ex_ixT rdt_dat (by rfl) (ex_v (i := 0) (j := 0) B rfl rfl rfl) ex_int) ax_nil)) (by intro _; rfl)))))) (fun hk => by (have hm := ifT h2 hk; obtain rfl := som hm; rfl)) (or_fix (fun hk => by (have hm := ifT h2 hk; obtain rfl := som hm; rfl)))))) (fun hk => by (have hm := ifT h3 hk; obtain rfl := som hm; rfl)) (or_fix (fun hk => by (have hm := ifT h3 hk; obtain rfl := som hm; rfl))))) (fun hk => ?_) (fun hk => ?_)
  · have hm := ifT hm hk
    obtain rfl := som hm
    exact sx_ret ex_bool (fun F H v e o c => R.rt F H v e o c)
  · have hm := ifF hm hk
    refine sx_fall ?_ rfl
    refine sx_unp (gx_pair B (gx_name (i := 1) (vi := 1) B T rfl rfl) (gx_name (i := 2) (vi := 2) B T rfl rfl)) (ex_v (i := 0) (j := 0) B rfl rfl rfl) ?_
    refine sx_if (WX.tx (wx_or (tx_not (tx_val (ex_fn (j := 0) B rfl g_isinstance (by decide +kernel) call_isi (rc_isi (d := (PyData.tuple (List.map (eT PyData.int) value.2))) (T := "tuple") (show kitB "tuple" "tuple" = some true by decide +kernel)) (ax_cons (ex_v (i := 2) (j := 2) B rfl rfl rfl) (ax_cons (ex_tyname (T := "tuple") (gi := 1) B rfl g_tuple (by decide +kernel)) ax_nil))) (by intro _; rfl))) (fun _ => (wx_or1 (tx_cmp op_eq r2_eqI (nomark _) (EX.to (ex_fn (j := 2) B rfl g_len (by decide +kernel) call_len_seq (rc_lenT (ds := List.map (eT PyData.int) value.2) rdt_dat) (ax_cons (ex_v (i := 2) (j := 2) B rfl rfl rfl) ax_nil)) (by rw [List.length_map])) ex_int))) (fun _ => rfl) rfl)) (fun hk => ?_) (fun hk => ?_)
    · have hm := ifT hm hk
      obtain rfl := som hm
      exact sx_ret ex_bool (fun F H v e o c => R.rt F H v e o c)
    · have hm := ifF hm hk
      refine sx_fall ?_ rfl
      obtain ⟨t7, h7, hm⟩ := bnd hm
      obtain ⟨t9, h9, hm⟩ := bnd hm
      refine sx_if (WX.tx (wx_or (l := t9) (os2 := os) (tx_not (tx_val (ex_fn (j := 4) B rfl g_all (by decide +kernel) (cr_all B.calm) (rc_all rdl_dat) (ax_cons (EN.ex (en_lc (lc_mk1 (j := 4) (vp := fun row4 => (dat (PyData.tuple (List.map PyData.int row4)))) (c := anyOs) (enc := PyData.bool) (fun (_ : Unit) (row4 : (List Int)) => ((fun (row4 : (List Int)) => ((m_p_is_a_row row4 value.1 (value.2.length : Int)).bind fun t6 => some t6)) row4).map fun y => (some y, ())) (fun (_ : Unit) (tl1 : Os) => tl1) () (t7) () B rfl rfl (by rw [B.hN, hsc]; decide +kernel) (by rw [hsc]; decide +kernel) (by decide) (lcO_ok h7) (ix_tup (enc := (eT PyData.int)) (ex_v (i := 2) (j := 2) B rfl rfl rfl) rdt_dat) (fun _ _ => trivial) (fun _ _ _ => List.Perm.refl _) (fun _ row4 t tl1 hx hf => by (obtain ⟨y, hy, rfl⟩ := Option.map_eq_some_iff.mp hf; obtain ⟨t6, h6, hy⟩ := bnd hy; obtain rfl := som hy; exact ⟨true, _, fun X1 hX => by (have B1 := Bd.fam (W' := ["letters", "rows", "row"]) (G' := ["len", "is_a_row"]) B hX (by (try rw [hsc]); decide +kernel); have g_len' := fam_mg hX g_len; have c_p_is_a_row' := fam_cal hX c_p_is_a_row; exact ⟨.nil, fun _ => ⟨_, rfl, (ex_call (a := (row4, value.1, (value.2.length : Int))) (b := t6) (gi := 1) (rest := tl1) B1 rfl c_p_is_a_row' (by decide) h6 (ax_cons (ex_v (i := 4) (j := 2) B1 rfl rfl rfl) (ax_cons (ex_v (i := 1) (j := 0) B1 rfl rfl rfl) (ax_cons (EX.to (ex_fn (j := 0) B1 rfl g_len' (by decide +kernel) call_len_seq (rc_lenT (ds := List.map (eT PyData.int) value.2) rdt_dat) (ax_cons (ex_v (i := 2) (j := 1) B1 rfl rfl rfl) ax_nil)) (by rw [List.length_map])) ax_nil))))⟩, fun h => Bool.noConfusion h⟩)⟩))))) ax_nil)) (by intro _; rfl))) (fun hk => by (have hm := ifF h9 hk; obtain ⟨t8, h8, hm⟩ := bnd hm; obtain rfl := som hm; exact (wx_or1 (tx_not (tx_val (ex_call (a := (value.2, value.1)) (b := t8) (gi := 5) (rest := os) B rfl c_p_is_one_way (by decide) h8 (ax_cons (ex_v (i := 2) (j := 2) B rfl rfl rfl) (ax_cons (ex_v (i := 1) (j := 1) B rfl rfl rfl) ax_nil))) (by intro _; rfl)))))) (fun hk => by (have hm := ifT h9 hk; obtain rfl := som hm; rfl)) (or_fix (fun hk => by (have hm := ifT h9 hk; obtain rfl := som hm; rfl))))) (fun hk => ?_) (fun hk => ?_)
      · have hm := ifT hm hk
        obtain rfl := som hm
        exact sx_ret ex_bool (fun F H v e o c => R.rt F H v e o c)
      · have hm := ifF hm hk
        refine sx_fall ?_ rfl
        obtain ⟨t10, h10, hm⟩ := bnd hm
        refine sx_asg (i := 3) (vi := 3) (φ := (dat (PyData.list (List.map (eD kI PyData.int) t10)))) B T rfl rfl (ex_call (a := value.2) (b := t10) (gi := 6) (rest := os) B rfl c_p_doors_of (by decide) h10 (ax_cons (ex_v (i := 2) (j := 2) B rfl rfl rfl) ax_nil)) ?_
        obtain ⟨t13, h13, hm⟩ := bnd hm
        refine sx_if (tx_val (ex_fn (j := 7) B rfl g_any (by decide +kernel) (cr_any B.calm) (rc_any rdl_dat) (ax_cons (EN.ex (en_lc (lc_mk1 (j := 5) (vp := fun steps11 => (dat (Kd.pd kI (eM PyData.int steps11)))) (c := anyOs) (enc := PyData.bool) (fun (_ : Unit) (steps11 : (List (Int × Int))) => some (some (decide ((steps11.length : Int) < 2)), ())) (fun (_ : Unit) (tl1 : Os) => tl1) () (t13) () B rfl rfl (by rw [B.hN, hsc]; decide +kernel) (by rw [hsc]; decide +kernel) (by decide) (lcT_ok h13) (ix_list (enc := (eD kI PyData.int)) (c := anyOs) (EN.ex (en_cut (enc := (eD kI PyData.int)) rdl_dat (ex_v (i := 3) (j := 3) B rfl rfl rfl) (px_some ex_int) px_none)) (fun _ _ => rdl_dat) trivial) (fun _ _ => trivial) (fun _ _ _ => List.Perm.refl _) (fun _ steps11 t tl1 hx hf => by (obtain rfl := som hf; exact ⟨true, _, fun X1 hX => by (have B1 := Bd.fam (W' := ["steps"]) (G' := ["len"]) B hX (by (try rw [hsc]); decide +kernel); have g_len' := fam_mg hX g_len; exact ⟨.nil, fun _ => ⟨_, rfl, (ex_cmp op_lt r2_lt (nomark _) (ex_fn (j := 0) B1 rfl g_len' (by decide +kernel) call_len_d (rc_lenD (enc := PyData.int) (w := steps11) rdd_dat) (ax_cons (ex_v (i := 5) (j := 0) B1 rfl rfl rfl) ax_nil)) ex_int)⟩, fun h => Bool.noConfusion h⟩)⟩))))) ax_nil)) (by intro _; rfl)) (fun hk => ?_) (fun hk => ?_)
        · have hm := ifT hm hk
          obtain rfl := som hm
          exact sx_ret ex_bool (fun F H v e o c => R.rt F H v e o c)
        · have hm := ifF hm hk
          refine sx_fall ?_ rfl
          obtain ⟨t14, h14, hm⟩ := bnd hm
          obtain ⟨t15, h15, hm⟩ := bnd hm
          obtain rfl := som hm
          exact sx_ret (ex_eqR (e := (eL PyData.int)) (x := t14) (y := t15) B (eqv_list eqv_int) (sh_list sh_int) (by decide) rdx_dat rdx_dat (ex_call (a := (value.1, t10, 0)) (b := t14) (gi := 8) (rest := os) B rfl c_p_first_order (by decide) h14 (ax_cons (ex_v (i := 1) (j := 1) B rfl rfl rfl) (ax_cons (ex_v (i := 3) (j := 3) B rfl rfl rfl) (ax_cons ex_int ax_nil)))) (EN.ex (en_rgL1 (gi := 9) (gj := 10) B rfl rfl g_list g_range h15 (EX.to (ex_fn (j := 2) B rfl g_len (by decide +kernel) call_len_seq (rc_lenT (ds := List.map (eT PyData.int) value.2) rdt_dat) (ax_cons (ex_v (i := 2) (j := 2) B rfl rfl rfl) ax_nil)) (by rw [List.length_map]))))) (fun F H v e o c => R.rt F H v e o c)
theorem cal_p_is_a_web {P : Program} {w : World} {K : PySem.W.Frag} {mg : Str → Option Value} {base : Heap} {f : Addr} {fd : FuncData} (Fn : Fun K "is_a_web" "is_a_web" s_p_is_a_web f fd) (hmg : mg "is_a_web" = some (.ref f)) (hb : Binds K fd ["value"] []) (g_isinstance : mg "isinstance" = none) (g_tuple : mg "tuple" = none) (g_len : mg "len" = none) (c_p_is_letters : Cal P w K mg base 2 "is_letters" s_p_is_letters ["value"] (sp_p_is_letters K)) (g_all : mg "all" = none) (c_p_is_a_row : Cal P w K mg base 2 "is_a_row" s_p_is_a_row ["value", "letters", "rooms"] (sp_p_is_a_row K)) (c_p_is_one_way : Cal P w K mg base 1 "is_one_way" s_p_is_one_way ["rows", "letters"] (sp_p_is_one_way K)) (c_p_doors_of : Cal P w K mg base 1 "doors_of" s_p_doors_of ["rows"] (sp_p_doors_of K)) (g_any : mg "any" = none) (c_p_first_order : Cal P w K mg base 2 "first_order" s_p_first_order ["letters", "doors", "home"] (sp_p_first_order K)) (g_list : mg "list" = none) (g_range : mg "range" = none) : Cal P w K mg base 3 "is_a_web" s_p_is_a_web ["value"] (sp_p_is_a_web K) := by
  obtain ⟨sts_, hst_⟩ : ∃ z_, defBody s_p_is_a_web = z_ := ⟨_, rfl⟩
  exact cal_ZQ (V := V_p_is_a_web) (Gs := G_p_is_a_web) (nl := 5) hst_ Fn sc_p_is_a_web (by decide +kernel) (by decide +kernel) hmg hb (fun _ => rfl) rfl fun _ _ _ _ _ _ _ a b F0 os D B T hm R => body_p_is_a_web rfl hst_ B T g_isinstance g_tuple g_len c_p_is_letters g_all c_p_is_a_row c_p_is_one_way c_p_doors_of g_any c_p_first_order g_list g_range a b F0 os D hm R
abbrev s_p_need_web : Stmt := top 17
def N_p_need_web : List Str := ["web"]
def V_p_need_web : List Str := ["web"]
def G_p_need_web : List Str := ["is_a_web", "InvalidWeb", "anew"]
theorem sc_p_need_web : FnScope N_p_need_web ["web"] (defScope s_p_need_web) := ⟨rfl, rfl, rfl, by decide +kernel, rfl, by decide +kernel, by decide +kernel⟩
abbrev sp_p_need_web (K : PySem.W.Frag) : Sp := spZ (α := (Int × (List (List Int)))) (β := Unit) (fun a => [(dat (PyData.tuple [(PyData.int a.1), (PyData.tuple (List.map (eT PyData.int) a.2))]))]) (fun a => []) (fun a => m_p_need_web a) (fun a b => (dat PyData.none)) (fun a b => [])
set_option maxHeartbeats 4000000 in
theorem body_p_need_web {X : Cx} (hsc : X.env.scope = defScope s_p_need_web) {sts_ : List Stmt} (hst_ : defBody s_p_need_web = sts_) (B : Bd X N_p_need_web V_p_need_web G_p_need_web 3) (T : Bt X V_p_need_web) (c_p_is_a_web : Cal X.prog X.w X.K X.mg X.base 3 "is_a_web" s_p_is_a_web ["value"] (sp_p_is_a_web X.K)) (web : (Int × (List (List Int)))) (b : Unit) (F0 : Hp) (os : Os) (D : Ends) (hm : m_p_need_web web = some b) (R : RetZ F0 (os) (dat PyData.none) D) :
    SX X [sl (dat (PyData.tuple [(PyData.int web.1), (PyData.tuple (List.map (eT PyData.int) web.2))]))] (os) F0 sts_ D := by
  subst hst_
  unfold m_p_need_web at hm
  obtain ⟨t1, h1, hm⟩ := bnd hm
  refine sx_if (tx_not (tx_val (ex_call (a := web) (b := t1) (gi := 0) (rest := os) B rfl c_p_is_a_web (by decide) h1 (ax_cons (ex_v (i := 0) (j := 0) B rfl rfl rfl) ax_nil)) (by intro _; rfl))) (fun hk => ?_) (fun hk => ?_)
  · have hm := ifT hm hk
    exact nomatch hm
  · have hm := ifF hm hk
    refine sx_fall ?_ rfl
    obtain rfl := som hm
    exact sx_end fun F σ H e o => R.nx σ H (R.rt F H .non e o (cl_dat .non))
theorem cal_p_need_web {P : Program} {w : World} {K : PySem.W.Frag} {mg : Str → Option Value} {base : Heap} {f : Addr} {fd : FuncData} (Fn : Fun K "need_web" "need_web" s_p_need_web f fd) (hmg : mg "need_web" = some (.ref f)) (hb : Binds K fd ["web"] []) (c_p_is_a_web : Cal P w K mg base 3 "is_a_web" s_p_is_a_web ["value"] (sp_p_is_a_web K)) : Cal P w K mg base 4 "need_web" s_p_need_web ["web"] (sp_p_need_web K) := by
  obtain ⟨sts_, hst_⟩ : ∃ z_, defBody s_p_need_web = z_ := ⟨_, rfl⟩
  exact cal_ZQ (V := V_p_need_web) (Gs := G_p_need_web) (nl := 0) hst_ Fn sc_p_need_web (by decide +kernel) (by decide +kernel) hmg hb (fun _ => rfl) rfl fun _ _ _ _ _ _ _ a b F0 os D B T hm R => body_p_need_web rfl hst_ B T c_p_is_a_web a b F0 os D hm R
abbrev s_p_ways_of : Stmt := top 19
def N_p_ways_of : List Str := ["web", "found", "room", "row", "at", "goal"]
def V_p_ways_of : List Str := ["web", "found", "room", "row"]
def G_p_ways_of : List Str := ["enumerate"]
theorem sc_p_ways_of : FnScope N_p_ways_of ["web"] (defScope s_p_ways_of) := ⟨rfl, rfl, rfl, by decide +kernel, rfl, by decide +kernel, by decide +kernel⟩
abbrev sp_p_ways_of (K : PySem.W.Frag) : Sp := spZ (α := (Int × (List (List Int)))) (β := (List (Tri Int Int Int))) (fun a => [(dat (PyData.tuple [(PyData.int a.1), (PyData.tuple (List.map (eT PyData.int) a.2))]))]) (fun a => []) (fun a => m_p_ways_of a) (fun a b => (dat (PyData.list (List.map (eP3 PyData.int PyData.int PyData.int) b)))) (fun a b => [])
set_option maxHeartbeats 4000000 in
theorem body_p_ways_of {X : Cx} (hsc : X.env.scope = defScope s_p_ways_of) {sts_ : List Stmt} (hst_ : defBody s_p_ways_of = sts_) (B : Bd X N_p_ways_of V_p_ways_of G_p_ways_of 0) (T : Bt X V_p_ways_of) (g_enumerate : X.mg "enumerate" = none) (web : (Int × (List (List Int)))) (b : (List (Tri Int Int Int))) (F0 : Hp) (os : Os) (D : Ends) (hm : m_p_ways_of web = some b) (R : RetZ F0 (os) (dat (PyData.list (List.map (eP3 PyData.int PyData.int PyData.int) b))) D) :
    SX X [sl (dat (PyData.tuple [(PyData.int web.1), (PyData.tuple (List.map (eT PyData.int) web.2))])), un, un, un, un, un] (os) F0 sts_ D := by
  subst hst_
  unfold m_p_ways_of at hm
  refine sx_asgN (i := 1) (vi := 1) (n := ol (List.map (eP3 PyData.int PyData.int PyData.int) ([] : (List (Tri Int Int Int))))) B T rfl rfl (en_lst (ds := []) ax_nil) (fun q_found0 => ?_)
  obtain ⟨f3, h10, hm⟩ := bnd hm
  refine sx_for (c := anyOs) _ (fun (s1 : (List (Tri Int Int Int))) (_ : Unit) => [sl (dat (PyData.tuple [(PyData.int web.1), (PyData.tuple (List.map (eT PyData.int) web.2))])), sl (own q_found0), un, un, un, un]) (fun (s1 : (List (Tri Int Int Int))) (_ : Unit) => (q_found0, ol (List.map (eP3 PyData.int PyData.int PyData.int) s1)) :: os) B T (fun x2 => gx_pair B (gx_name (i := 2) (vi := 2) (φ := (dat (PyData.int x2.1))) B T rfl rfl) (gx_name (i := 3) (vi := 3) (φ := (dat (PyData.tuple (List.map PyData.int x2.2)))) B T rfl rfl)) ([] : (List (Tri Int Int Int))) () f3 h10 (ix_enumT (enc := (eT PyData.int)) (gi := 0) B rfl g_enumerate (ex_ixT rdt_dat (by rfl) (ex_v (i := 0) (j := 0) B rfl rfl rfl) ex_int) rdt_dat) ⟨.inl rfl, .inl rfl, .inl rfl, .inl rfl, .inl rfl, .inl rfl, trivial⟩ (fun _ _ => trivial) (fun F5 e4 s1 _ x2 z11 hx hm => ?_) (fun _ => ?_)
  · clear h10
    obtain ⟨t8, h8, hm⟩ := bnd hm
    obtain ⟨t9, h9, hm⟩ := bnd hm
    refine sx_expr (ex_extend (enc := (eP3 PyData.int PyData.int PyData.int)) (j := 0) (xs0 := s1) (xs := s1) (ys := t8) h9 (ex_v (i := 1) (j := 1) B rfl rfl rfl) rfl (en_lc (lc_mk2 (i := 4) (j := 5) (d1 := fun x6 => (PyData.int x6.1)) (d2 := fun x6 => (PyData.int x6.2)) (c := anyOs) (enc := (eP3 PyData.int PyData.int PyData.int)) (fun (_ : Unit) (x6 : (Int × Int)) => some (if (decide (0 ≤ x6.2)) = true then some (Tri.mk x2.1 (x6.1 + 1) x6.2) else none, ())) (fun (_ : Unit) (tl1 : Os) => (q_found0, ol (List.map (eP3 PyData.int PyData.int PyData.int) s1)) :: tl1) () (t8) () B rfl rfl (by decide) rfl rfl (by rw [B.hN, hsc]; decide +kernel) (by rw [hsc]; decide +kernel) (by rw [hsc]; decide +kernel) (by decide) (lcF_ok h8) (ix_enumT (enc := PyData.int) (gi := 0) B rfl g_enumerate (ex_v (i := 3) (j := 3) B rfl rfl rfl) rdt_dat) (fun _ _ => trivial) (fun _ _ _ => (List.Perm.swap _ _ _)) (fun _ x6 t tl1 hx hf => by (obtain rfl := som hf; exact ⟨(decide (0 ≤ x6.2)), _, fun X1 hX => by (have B1 := Bd.fam (W' := ["room", "at", "goal"]) (G' := []) B hX (by (try rw [hsc]); decide +kernel); exact ⟨.one (tx_cmp op_ge r2_ge (nomark _) (ex_v (i := 5) (j := 2) B1 rfl rfl rfl) ex_int), fun h => ⟨_, if_pos h, (ex_tup (ds := [(PyData.int x2.1), (PyData.int (x6.1 + 1)), (PyData.int x6.2)]) (hl := len_ok (n := 3) rfl) (ax_cons (ex_v (i := 2) (j := 0) B1 rfl rfl rfl) (ax_cons (ex_add (ex_v (i := 4) (j := 1) B1 rfl rfl rfl) ex_int) (ax_cons (ex_v (i := 5) (j := 2) B1 rfl rfl rfl) ax_nil))))⟩, fun h => ⟨(by first | exact if_neg (by rw [h]; exact Bool.false_ne_true) | rfl), rfl⟩⟩)⟩)))) rfl) ?_
    obtain rfl := som hm
    exact sx_nil fun σ H a => ⟨(), (a.weak ⟨.inl rfl, .inl rfl, .inr rfl, .inr rfl, .inl rfl, .inl rfl, trivial⟩)⟩
  · skip
    refine sx_frz (j := 0) (i := 1) rfl rfl ?_
    obtain rfl := som hm
    exact sx_ret (ex_v (i := 1) (j := 1) B rfl rfl rfl) (fun F H v e o c => R.rt F H v e o c)
theorem cal_p_ways_of {P : Program} {w : World} {K : PySem.W.Frag} {mg : Str → Option Value} {base : Heap} {f : Addr} {fd : FuncData} (Fn : Fun K "ways_of" "ways_of" s_p_ways_of f fd) (hmg : mg "ways_of" = some (.ref f)) (hb : Binds K fd ["web"] []) (g_enumerate : mg "enumerate" = none) : Cal P w K mg base 1 "ways_of" s_p_ways_of ["web"] (sp_p_ways_of K) := by
  obtain ⟨sts_, hst_⟩ : ∃ z_, defBody s_p_ways_of = z_ := ⟨_, rfl⟩
  exact cal_ZQ (V := V_p_ways_of) (Gs := G_p_ways_of) (nl := 5) hst_ Fn sc_p_ways_of (by decide +kernel) (by decide +kernel) hmg hb (fun _ => rfl) rfl fun _ _ _ _ _ _ _ a b F0 os D B T hm R => body_p_ways_of rfl hst_ B T g_enumerate a b F0 os D hm R
abbrev s_p_first_ways : Stmt := top 20
def N_p_first_ways : List Str := ["letters", "doors", "home", "found", "room", "step", "goal"]
def V_p_first_ways : List Str := ["letters", "doors", "home", "found", "room", "step", "goal"]
def G_p_first_ways : List Str := ["first_order", "steps_of"]
theorem sc_p_first_ways : FnScope N_p_first_ways ["letters", "doors", "home"] (defScope s_p_first_ways) := ⟨rfl, rfl, rfl, by decide +kernel, rfl, by decide +kernel, by decide +kernel⟩
abbrev sp_p_first_ways (K : PySem.W.Frag) : Sp := spZ (α := (Int × (List (List (Int × Int))) × Int)) (β := (List (Int × (List Int)))) (fun a => [(dat (PyData.int a.1)), (dat (PyData.list (List.map (eD kI PyData.int) a.2.1))), (dat (PyData.int a.2.2))]) (fun a => []) (fun a => m_p_first_ways a.1 a.2.1 a.2.2) (fun a b => (dat (Kd.pd kI (eM (eT PyData.int) b)))) (fun a b => [])
set_option maxHeartbeats 4000000 in
theorem body_p_first_ways {X : Cx} (hsc : X.env.scope = defScope s_p_first_ways) {sts_ : List Stmt} (hst_ : defBody s_p_first_ways = sts_) (B : Bd X N_p_first_ways V_p_first_ways G_p_first_ways 2) (T : Bt X V_p_first_ways) (c_p_first_order : Cal X.prog X.w X.K X.mg X.base 2 "first_order" s_p_first_order ["letters", "doors", "home"] (sp_p_first_order X.K)) (c_p_steps_of : Cal X.prog X.w X.K X.mg X.base 1 "steps_of" s_p_steps_of ["letters"] (sp_p_steps_of X.K)) (letters : Int) (doors : (List (List (Int × Int)))) (home : Int) (b : (List (Int × (List Int)))) (F0 : Hp) (os : Os) (D : Ends) (hm : m_p_first_ways letters doors home = some b) (R : RetZ F0 (os) (dat (Kd.pd kI (eM (eT PyData.int) b))) D) :
    SX X [sl (dat (PyData.int letters)), sl (dat (PyData.list (List.map (eD kI PyData.int) doors))), sl (dat (PyData.int home)), un, un, un, un] (os) F0 sts_ D := by
  subst hst_
  unfold m_p_first_ways at hm
  refine sx_asgN (i := 3) (vi := 3) (n := od kI (eM (eT PyData.int) ([(home, ([] : (List Int)))]))) B T rfl rfl (en_disp1 (f := Sum.inl) (enc := (eT PyData.int)) (k' := home) (x' := ([] : (List Int))) inj_kI (fun qd => (ex_v (i := 2) (j := 2) B rfl rfl rfl)) (fun qd => (ex_tup (ds := []) ax_nil))) (fun q_found0 => ?_)
  obtain ⟨t1, h1, hm⟩ := bnd hm
  obtain ⟨f4, h21, hm⟩ := bnd hm
  refine sx_for (c := anyOs) _ (fun (s2 : (List (Int × (List Int)))) (_ : Unit) => [sl (dat (PyData.int letters)), sl (dat (PyData.list (List.map (eD kI PyData.int) doors))), sl (dat (PyData.int home)), sl (own q_found0), un, un, un]) (fun (s2 : (List (Int × (List Int)))) (_ : Unit) => (q_found0, od kI (eM (eT PyData.int) s2)) :: os) B T (fun room3 => gx_name (i := 4) (vi := 4) (φ := (dat (PyData.int room3))) B T rfl rfl) ([(home, ([] : (List Int)))]) () f4 h21 (ix_list (enc := PyData.int) (c := anyOs) (ex_call (a := (letters, doors, home)) (b := t1) (gi := 0) (rest := (q_found0, od kI (eM (eT PyData.int) ([(home, ([] : (List Int)))]))) :: os) B rfl c_p_first_order (by decide) h1 (ax_cons (ex_v (i := 0) (j := 0) B rfl rfl rfl) (ax_cons (ex_v (i := 1) (j := 1) B rfl rfl rfl) (ax_cons (ex_v (i := 2) (j := 2) B rfl rfl rfl) ax_nil)))) (fun _ _ => rdl_dat) trivial) ⟨.inl rfl, .inl rfl, .inl rfl, .inl rfl, .inl rfl, .inl rfl, .inl rfl, trivial⟩ (fun _ _ => trivial) (fun F6 e5 s2 _ room3 z22 hx hm => ?_) (fun _ => ?_)
  · clear h21
    obtain ⟨t7, h7, hm⟩ := bnd hm
    obtain ⟨f10, h19, hm⟩ := bnd hm
    refine sx_for (c := anyOs) _ (fun (s8 : (List (Int × (List Int)))) (_ : Unit) => [sl (dat (PyData.int letters)), sl (dat (PyData.list (List.map (eD kI PyData.int) doors))), sl (dat (PyData.int home)), sl (own q_found0), sl (dat (PyData.int room3)), un, un]) (fun (s8 : (List (Int × (List Int)))) (_ : Unit) => (q_found0, od kI (eM (eT PyData.int) s8)) :: os) B T (fun step9 => gx_name (i := 5) (vi := 5) (φ := (dat (PyData.int step9))) B T rfl rfl) s2 () f10 h19 (ix_list (enc := PyData.int) (c := anyOs) (ex_call (a := letters) (b := t7) (gi := 1) (rest := (q_found0, od kI (eM (eT PyData.int) s2)) :: os) B rfl c_p_steps_of (by decide) h7 (ax_cons (ex_v (i := 0) (j := 0) B rfl rfl rfl) ax_nil)) (fun _ _ => rdl_dat) trivial) ⟨.inl rfl, .inl rfl, .inl rfl, .inl rfl, .inl rfl, .inl rfl, .inl rfl, trivial⟩ (fun _ _ => trivial) (fun F12 e11 s8 _ step9 z20 hx hm => ?_) (fun _ => ?_)
    · clear h19
      obtain ⟨t13, h13, hm⟩ := bnd hm
      refine sx_asg (i := 6) (vi := 6) (φ := (dat ((eO PyData.int) (dGet t13 step9)))) B T rfl rfl (ex_dget1 (kd := kI) (enc := PyData.int) (w := t13) (k := step9) inj_kI B rdd_dat rdd_dat (ex_idxL (enc := (eD kI PyData.int)) h13 rdl_dat (ex_v (i := 1) (j := 1) B rfl rfl rfl) (ex_v (i := 4) (j := 4) B rfl rfl rfl)) (ex_v (i := 5) (j := 5) B rfl rfl rfl)) ?_
      cases hq18 : (dGet t13 step9) with
      | none =>
        rw [hq18] at hm
        refine sx_if (WX.tx (wx_and (l := false) (tx_cmp op_notN (r2_notN (d := PyData.none) (t := false) rfl) (nomark _) (ex_v (i := 6) (j := 6) B rfl rfl rfl) ex_none) (fun hk => Bool.noConfusion hk) (fun _ => rfl) rfl)) (fun hk => Bool.noConfusion hk) (fun _ => ?_)
        refine sx_fall ?_ rfl
        obtain rfl := som hm
        exact sx_nil fun σ H a => ⟨(), (a.weak ⟨.inl rfl, .inl rfl, .inl rfl, .inl rfl, .inl rfl, .inr rfl, .inr rfl, trivial⟩)⟩
      | some goal14 =>
        rw [hq18] at hm
        obtain ⟨s18, h_s18, hm⟩ := bnd hm
        refine sx_join [sl (dat (PyData.int letters)), sl (dat (PyData.list (List.map (eD kI PyData.int) doors))), sl (dat (PyData.int home)), sl (own q_found0), sl (dat (PyData.int room3)), sl (dat (PyData.int step9)), sl (dat (PyData.int goal14))] ((q_found0, od kI (eM (eT PyData.int) s18)) :: os) (?_) (fun Q => ?_)
        · clear h_s18
          obtain rfl := som hm
          exact sx_nil fun σ H a => ⟨(), (a.weak ⟨.inl rfl, .inl rfl, .inl rfl, .inl rfl, .inl rfl, .inr rfl, .inr rfl, trivial⟩)⟩
        · have hm := h_s18
          refine sx_if (WX.tx (wx_and (tx_cmp op_notN (r2_notN (d := (PyData.int goal14)) (t := true) rfl) (nomark _) (ex_v (i := 6) (j := 6) B rfl rfl rfl) ex_none) (fun _ => (wx_and1 (tx_dnotin (kd := kI) (enc := (eT PyData.int)) (w := s8) (k := goal14) inj_kI B (rdd_own 0 rfl) (ex_v (i := 6) (j := 6) B rfl rfl rfl) (ex_v (i := 3) (j := 3) B rfl rfl rfl)))) (fun _ => rfl) rfl)) (fun hk => ?_) (fun hk => ?_)
          · have hm := ifT hm hk
            obtain ⟨t15, h15, hm⟩ := bnd hm
            obtain ⟨t16, h16, hm⟩ := bnd hm
            obtain ⟨t17, h17, hm⟩ := bnd hm
            refine sx_dput (kd := kI) (enc := (eT PyData.int)) (w := s8) (x := t16) inj_kI h17 B (ex_catT (enc := PyData.int) h16 (ex_dget (kd := kI) (enc := (eT PyData.int)) (w := s8) inj_kI h15 B (rdd_own 0 rfl) (ex_v (i := 3) (j := 3) B rfl rfl rfl) (ex_v (i := 4) (j := 4) B rfl rfl rfl)) (ex_tup (ds := [(PyData.int step9)]) (hl := len_ok (n := 1) rfl) (ax_cons (ex_v (i := 5) (j := 5) B rfl rfl rfl) ax_nil))) (ex_v (i := 3) (j := 3) B rfl rfl rfl) (ex_v (i := 6) (j := 6) B rfl rfl rfl) (wr_flat (f := (odT kI (eT PyData.int))) (d := s8) 0 rfl) ?_
            obtain rfl := som hm
            exact sx_fall Q rfl
          · have hm := ifF hm hk
            obtain rfl := som hm
            exact sx_fall Q rfl
    · skip
      obtain rfl := som hm
      exact sx_nil fun σ H a => ⟨(), (a.weak ⟨.inl rfl, .inl rfl, .inl rfl, .inl rfl, .inr rfl, .inl rfl, .inl rfl, trivial⟩)⟩
  · skip
    refine sx_frzF (j := 0) (i := 3) frb_od rfl rfl ?_
    obtain rfl := som hm
    exact sx_ret (ex_v (i := 3) (j := 3) B rfl rfl rfl) (fun F H v e o c => R.rt F H v e o c)
theorem cal_p_first_ways {P : Program} {w : World} {K : PySem.W.Frag} {mg : Str → Option Value} {base : Heap} {f : Addr} {fd : FuncData} (Fn : Fun K "first_ways" "first_ways" s_p_first_ways f fd) (hmg : mg "first_ways" = some (.ref f)) (hb : Binds K fd ["letters", "doors", "home"] []) (c_p_first_order : Cal P w K mg base 2 "first_order" s_p_first_order ["letters", "doors", "home"] (sp_p_first_order K)) (c_p_steps_of : Cal P w K mg base 1 "steps_of" s_p_steps_of ["letters"] (sp_p_steps_of K)) : Cal P w K mg base 3 "first_ways" s_p_first_ways ["letters", "doors", "home"] (sp_p_first_ways K) := by
  obtain ⟨sts_, hst_⟩ : ∃ z_, defBody s_p_first_ways = z_ := ⟨_, rfl⟩
  exact cal_ZQ (V := V_p_first_ways) (Gs := G_p_first_ways) (nl := 4) hst_ Fn sc_p_first_ways (by decide +kernel) (by decide +kernel) hmg hb (fun _ => rfl) rfl fun _ _ _ _ _ _ _ a b F0 os D B T hm R => body_p_first_ways rfl hst_ B T c_p_first_order c_p_steps_of a.1 a.2.1 a.2.2 b F0 os D hm R
abbrev s_p_way_gone : Stmt := top 22
def N_p_way_gone : List Str := ["room", "step", "goal"]
def V_p_way_gone : List Str := ["room", "step", "goal"]
def G_p_way_gone : List Str := []
theorem sc_p_way_gone : FnScope N_p_way_gone ["room", "step", "goal"] (defScope s_p_way_gone) := ⟨rfl, rfl, rfl, by decide +kernel, rfl, by decide +kernel, by decide +kernel⟩
abbrev sp_p_way_gone (K : PySem.W.Frag) : Sp := spZ (α := (Int × Int × Int)) (β := (Tri Int Int Int)) (fun a => [(dat (PyData.int a.1)), (dat (PyData.int a.2.1)), (dat (PyData.int a.2.2))]) (fun a => []) (fun a => m_p_way_gone a.1 a.2.1 a.2.2) (fun a b => (dat (PyData.tuple [(PyData.int b.a), (PyData.int b.b), (PyData.int b.c)]))) (fun a b => [])
set_option maxHeartbeats 4000000 in
theorem body_p_way_gone {X : Cx} (hsc : X.env.scope = defScope s_p_way_gone) {sts_ : List Stmt} (hst_ : defBody s_p_way_gone = sts_) (B : Bd X N_p_way_gone V_p_way_gone G_p_way_gone 0) (T : Bt X V_p_way_gone)  (room : Int) (step : Int) (goal : Int) (b : (Tri Int Int Int)) (F0 : Hp) (os : Os) (D : Ends) (hm : m_p_way_gone room step goal = some b) (R : RetZ F0 (os) (dat (PyData.tuple [(PyData.int b.a), (PyData.int b.b), (PyData.int b.c)])) D) :
    SX X [sl (dat (PyData.int room)), sl (dat (PyData.int step)), sl (dat (PyData.int goal))] (os) F0 sts_ D := by
  subst hst_
  unfold m_p_way_gone at hm
  obtain rfl := som hm
  exact sx_ret (ex_if (tx_cmp op_gt r2_gt (nomark _) (ex_v (i := 1) (j := 1) B rfl rfl rfl) ex_int) (fun hk => EX.to (ex_tup (ds := [(PyData.int room), (PyData.int step), (PyData.int goal)]) (hl := len_ok (n := 3) rfl) (ax_cons (ex_v (i := 0) (j := 0) B rfl rfl rfl) (ax_cons (ex_v (i := 1) (j := 1) B rfl rfl rfl) (ax_cons (ex_v (i := 2) (j := 2) B rfl rfl rfl) ax_nil)))) (by rw [if_pos hk] <;> rfl)) (fun hk => EX.to (ex_tup (ds := [(PyData.int goal), (PyData.int (-step)), (PyData.int room)]) (hl := len_ok (n := 3) rfl) (ax_cons (ex_v (i := 2) (j := 2) B rfl rfl rfl) (ax_cons (ex_neg (ex_v (i := 1) (j := 1) B rfl rfl rfl)) (ax_cons (ex_v (i := 0) (j := 0) B rfl rfl rfl) ax_nil)))) (by first | (rw [if_neg (by rw [hk]; exact Bool.false_ne_true)] <;> rfl) | (rw [if_neg (ne_true_of_eq_false hk)] <;> rfl)))) (fun F H v e o c => R.rt F H v e o c)
theorem cal_p_way_gone {P : Program} {w : World} {K : PySem.W.Frag} {mg : Str → Option Value} {base : Heap} {f : Addr} {fd : FuncData} (Fn : Fun K "way_gone" "way_gone" s_p_way_gone f fd) (hmg : mg "way_gone" = some (.ref f)) (hb : Binds K fd ["room", "step", "goal"] [])  : Cal P w K mg base 1 "way_gone" s_p_way_gone ["room", "step", "goal"] (sp_p_way_gone K) := by
  obtain ⟨sts_, hst_⟩ : ∃ z_, defBody s_p_way_gone = z_ := ⟨_, rfl⟩
  exact cal_ZQ (V := V_p_way_gone) (Gs := G_p_way_gone) (nl := 0) hst_ Fn sc_p_way_gone (by decide +kernel) (by decide +kernel) hmg hb (fun _ => rfl) rfl fun _ _ _ _ _ _ _ a b F0 os D B T hm R => body_p_way_gone rfl hst_ B T  a.1 a.2.1 a.2.2 b F0 os D hm R
abbrev s_p_tree_of : Stmt := top 23
def N_p_tree_of : List Str := ["doors", "firsts", "found", "room", "walk"]
def V_p_tree_of : List Str := ["doors", "firsts", "found", "room", "walk"]
def G_p_tree_of : List Str := ["way_gone", "sorted"]
theorem sc_p_tree_of : FnScope N_p_tree_of ["doors", "firsts"] (defScope s_p_tree_of) := ⟨rfl, rfl, rfl, by decide +kernel, rfl, by decide +kernel, by decide +kernel⟩
abbrev sp_p_tree_of (K : PySem.W.Frag) : Sp := spN (α := ((List (List (Int × Int))) × (List (Int × (List Int))))) (β := (List (Tri Int Int Int))) (fun a => [(dat (PyData.list (List.map (eD kI PyData.int) a.1))), (dat (Kd.pd kI (eM (eT PyData.int) a.2)))]) (fun a => []) (fun a => m_p_tree_of a.1 a.2) (fun a b => ol (List.map (eP3 PyData.int PyData.int PyData.int) b)) (fun a b => [])
set_option maxHeartbeats 4000000 in
theorem body_p_tree_of {X : Cx} (hsc : X.env.scope = defScope s_p_tree_of) {sts_ : List Stmt} (hst_ : defBody s_p_tree_of = sts_) (B : Bd X N_p_tree_of V_p_tree_of G_p_tree_of 1) (T : Bt X V_p_tree_of) (c_p_way_gone : Cal X.prog X.w X.K X.mg X.base 1 "way_gone" s_p_way_gone ["room", "step", "goal"] (sp_p_way_gone X.K)) (g_sorted : X.mg "sorted" = none) (doors : (List (List (Int × Int)))) (firsts : (List (Int × (List Int)))) (b : (List (Tri Int Int Int))) (F0 : Hp) (os : Os) (D : Ends) (hm : m_p_tree_of doors firsts = some b) (R : RetN F0 (os) (ol (List.map (eP3 PyData.int PyData.int PyData.int) b)) D) :
    SX X [sl (dat (PyData.list (List.map (eD kI PyData.int) doors))), sl (dat (Kd.pd kI (eM (eT PyData.int) firsts))), un, un, un] (os) F0 sts_ D := by
  subst hst_
  unfold m_p_tree_of at hm
  refine sx_asgN (i := 2) (vi := 2) (n := ol (List.map (eP3 PyData.int PyData.int PyData.int) ([] : (List (Tri Int Int Int))))) B T rfl rfl (en_lst (ds := []) ax_nil) (fun q_found0 => ?_)
  obtain ⟨f3, h13, hm⟩ := bnd hm
  refine sx_for (c := anyOs) _ (fun (s1 : (List (Tri Int Int Int))) (_ : Unit) => [sl (dat (PyData.list (List.map (eD kI PyData.int) doors))), sl (dat (Kd.pd kI (eM (eT PyData.int) firsts))), sl (own q_found0), un, un]) (fun (s1 : (List (Tri Int Int Int))) (_ : Unit) => (q_found0, ol (List.map (eP3 PyData.int PyData.int PyData.int) s1)) :: os) B T (fun x2 => gx_pair B (gx_name (i := 3) (vi := 3) (φ := (dat (PyData.int x2.1))) B T rfl rfl) (gx_name (i := 4) (vi := 4) (φ := (dat (PyData.tuple (List.map PyData.int x2.2)))) B T rfl rfl)) ([] : (List (Tri Int Int Int))) () f3 h13 (ix_itemsD (f := Sum.inl) (enc := (eT PyData.int)) (w := firsts) (ex_v (i := 1) (j := 1) B rfl rfl rfl)) ⟨.inl rfl, .inl rfl, .inl rfl, .inl rfl, .inl rfl, trivial⟩ (fun _ _ => trivial) (fun F5 e4 s1 _ x2 z15 hx hm => ?_) (fun _ => ?_)
  · clear h13
    obtain ⟨s12, h_s12, hm⟩ := bnd hm
    refine sx_join [sl (dat (PyData.list (List.map (eD kI PyData.int) doors))), sl (dat (Kd.pd kI (eM (eT PyData.int) firsts))), sl (own q_found0), sl (dat (PyData.int x2.1)), sl (dat (PyData.tuple (List.map PyData.int x2.2)))] ((q_found0, ol (List.map (eP3 PyData.int PyData.int PyData.int) s12)) :: os) (?_) (fun Q => ?_)
    · clear h_s12
      obtain rfl := som hm
      exact sx_nil fun σ H a => ⟨(), (a.weak ⟨.inl rfl, .inl rfl, .inl rfl, .inr rfl, .inr rfl, trivial⟩)⟩
    · have hm := h_s12
      refine sx_if (tx_cmp op_ne r2_neI (nomark _) (ex_v (i := 3) (j := 3) B rfl rfl rfl) ex_int) (fun hk => ?_) (fun hk => ?_)
      · have hm := ifT hm hk
        obtain ⟨t6, h6, hm⟩ := bnd hm
        obtain ⟨t7, h7, hm⟩ := bnd hm
        obtain ⟨t8, h8, hm⟩ := bnd hm
        obtain ⟨t9, h9, hm⟩ := bnd hm
        obtain ⟨t10, h10, hm⟩ := bnd hm
        obtain ⟨t11, h11, hm⟩ := bnd hm
        refine sx_expr (ex_app (enc := (eP3 PyData.int PyData.int PyData.int)) (j := 0) (xs0 := s1) (xs := s1) (y := t10) h11 (ex_v (i := 2) (j := 2) B rfl rfl rfl) rfl (ex_call (a := (t8, t9, x2.1)) (b := t10) (gi := 0) (rest := (q_found0, ol (List.map (eP3 PyData.int PyData.int PyData.int) s1)) :: os) B rfl c_p_way_gone (by decide) h10 (ax_cons (ex_dget (kd := kI) (enc := PyData.int) (w := t6) inj_kI h8 B rdd_dat (ex_idxL (enc := (eD kI PyData.int)) h6 rdl_dat (ex_v (i := 0) (j := 0) B rfl rfl rfl) (ex_v (i := 3) (j := 3) B rfl rfl rfl)) (ex_neg (ex_idxT (enc := PyData.int) h7 rdt_dat (ex_v (i := 4) (j := 4) B rfl rfl rfl) (ex_neg ex_int)))) (ax_cons (ex_idxT (enc := PyData.int) h9 rdt_dat (ex_v (i := 4) (j := 4) B rfl rfl rfl) (ex_neg ex_int)) (ax_cons (ex_v (i := 3) (j := 3) B rfl rfl rfl) ax_nil)))) rfl) ?_
        obtain rfl := som hm
        exact sx_fall Q rfl
      · have hm := ifF hm hk
        obtain rfl := som hm
        exact sx_fall Q rfl
  · skip
    refine sx_frz (j := 0) (i := 2) rfl rfl ?_
    obtain ⟨t14, h14, hm⟩ := bnd hm
    obtain rfl := som hm
    exact sx_retN (en_fn (j := 1) B rfl g_sorted (by decide +kernel) (cr_sortT (d := 3) (B := 1000000) (by decide)) (rc_sortT3 (xs := f3) rdl_dat h14) (ax_cons (ex_v (i := 2) (j := 2) B rfl rfl rfl) ax_nil)) (fun F H p e o => R.rt F H p e o)
theorem cal_p_tree_of {P : Program} {w : World} {K : PySem.W.Frag} {mg : Str → Option Value} {base : Heap} {f : Addr} {fd : FuncData} (Fn : Fun K "tree_of" "tree_of" s_p_tree_of f fd) (hmg : mg "tree_of" = some (.ref f)) (hb : Binds K fd ["doors", "firsts"] []) (c_p_way_gone : Cal P w K mg base 1 "way_gone" s_p_way_gone ["room", "step", "goal"] (sp_p_way_gone K)) (g_sorted : mg "sorted" = none) : Cal P w K mg base 2 "tree_of" s_p_tree_of ["doors", "firsts"] (sp_p_tree_of K) := by
  obtain ⟨sts_, hst_⟩ : ∃ z_, defBody s_p_tree_of = z_ := ⟨_, rfl⟩
  exact cal_NQ (V := V_p_tree_of) (Gs := G_p_tree_of) (nl := 3) hst_ Fn sc_p_tree_of (by decide +kernel) (by decide +kernel) hmg hb (fun _ => rfl) rfl fun _ _ _ _ _ _ _ a b F0 os D B T hm R => body_p_tree_of rfl hst_ B T c_p_way_gone g_sorted a.1 a.2 b F0 os D hm R
abbrev s_p_tree : Stmt := top 24
def N_p_tree : List Str := ["web", "doors"]
def V_p_tree : List Str := ["web", "doors"]
def G_p_tree : List Str := ["need_web", "doors_of", "tree_of", "first_ways"]
theorem sc_p_tree : FnScope N_p_tree ["web"] (defScope s_p_tree) := ⟨rfl, rfl, rfl, by decide +kernel, rfl, by decide +kernel, by decide +kernel⟩
abbrev sp_p_tree (K : PySem.W.Frag) : Sp := spN (α := (Int × (List (List Int)))) (β := (List (Tri Int Int Int))) (fun a => [(dat (PyData.tuple [(PyData.int a.1), (PyData.tuple (List.map (eT PyData.int) a.2))]))]) (fun a => []) (fun a => m_p_tree a) (fun a b => ol (List.map (eP3 PyData.int PyData.int PyData.int) b)) (fun a b => [])
set_option maxHeartbeats 4000000 in
theorem body_p_tree {X : Cx} (hsc : X.env.scope = defScope s_p_tree) {sts_ : List Stmt} (hst_ : defBody s_p_tree = sts_) (B : Bd X N_p_tree V_p_tree G_p_tree 4) (T : Bt X V_p_tree) (c_p_need_web : Cal X.prog X.w X.K X.mg X.base 4 "need_web" s_p_need_web ["web"] (sp_p_need_web X.K)) (c_p_doors_of : Cal X.prog X.w X.K X.mg X.base 1 "doors_of" s_p_doors_of ["rows"] (sp_p_doors_of X.K)) (c_p_tree_of : Cal X.prog X.w X.K X.mg X.base 2 "tree_of" s_p_tree_of ["doors", "firsts"] (sp_p_tree_of X.K)) (c_p_first_ways : Cal X.prog X.w X.K X.mg X.base 3 "first_ways" s_p_first_ways ["letters", "doors", "home"] (sp_p_first_ways X.K)) (web : (Int × (List (List Int)))) (b : (List (Tri Int Int Int))) (F0 : Hp) (os : Os) (D : Ends) (hm : m_p_tree web = some b) (R : RetN F0 (os) (ol (List.map (eP3 PyData.int PyData.int PyData.int) b)) D) :
    SX X [sl (dat (PyData.tuple [(PyData.int web.1), (PyData.tuple (List.map (eT PyData.int) web.2))])), un] (os) F0 sts_ D := by
  subst hst_
  unfold m_p_tree at hm
  obtain ⟨t1, h1, hm⟩ := bnd hm
  refine sx_expr (ex_call (a := web) (b := t1) (gi := 0) (rest := os) B rfl c_p_need_web (by decide) h1 (ax_cons (ex_v (i := 0) (j := 0) B rfl rfl rfl) ax_nil)) ?_
  obtain ⟨t2, h2, hm⟩ := bnd hm
  refine sx_asg (i := 1) (vi := 1) (φ := (dat (PyData.list (List.map (eD kI PyData.int) t2)))) B T rfl rfl (ex_call (a := web.2) (b := t2) (gi := 1) (rest := os) B rfl c_p_doors_of (by decide) h2 (ax_cons (ex_ixT rdt_dat (by rfl) (ex_v (i := 0) (j := 0) B rfl rfl rfl) ex_int) ax_nil)) ?_
  obtain ⟨t3, h3, hm⟩ := bnd hm
  obtain ⟨t4, h4, hm⟩ := bnd hm
  obtain rfl := som hm
  exact sx_retN (en_call (a := (t2, t3)) (b := t4) (gi := 2) (rest := os) B rfl c_p_tree_of (by decide) h4 (ax_cons (ex_v (i := 1) (j := 1) B rfl rfl rfl) (ax_cons (ex_call (a := (web.1, t2, 0)) (b := t3) (gi := 3) (rest := os) B rfl c_p_first_ways (by decide) h3 (ax_cons (ex_ixT rdt_dat (by rfl) (ex_v (i := 0) (j := 0) B rfl rfl rfl) ex_int) (ax_cons (ex_v (i := 1) (j := 1) B rfl rfl rfl) (ax_cons ex_int ax_nil)))) ax_nil))) (fun F H p e o => R.rt F H p e o)
theorem cal_p_tree {P : Program} {w : World} {K : PySem.W.Frag} {mg : Str → Option Value} {base : Heap} {f : Addr} {fd : FuncData} (Fn : Fun K "tree" "tree" s_p_tree f fd) (hmg : mg "tree" = some (.ref f)) (hb : Binds K fd ["web"] []) (c_p_need_web : Cal P w K mg base 4 "need_web" s_p_need_web ["web"] (sp_p_need_web K)) (c_p_doors_of : Cal P w K mg base 1 "doors_of" s_p_doors_of ["rows"] (sp_p_doors_of K)) (c_p_tree_of : Cal P w K mg base 2 "tree_of" s_p_tree_of ["doors", "firsts"] (sp_p_tree_of K)) (c_p_first_ways : Cal P w K mg base 3 "first_ways" s_p_first_ways ["letters", "doors", "home"] (sp_p_first_ways K)) : Cal P w K mg base 5 "tree" s_p_tree ["web"] (sp_p_tree K) := by
  obtain ⟨sts_, hst_⟩ : ∃ z_, defBody s_p_tree = z_ := ⟨_, rfl⟩
  exact cal_NQ (V := V_p_tree) (Gs := G_p_tree) (nl := 1) hst_ Fn sc_p_tree (by decide +kernel) (by decide +kernel) hmg hb (fun _ => rfl) rfl fun _ _ _ _ _ _ _ a b F0 os D B T hm R => body_p_tree rfl hst_ B T c_p_need_web c_p_doors_of c_p_tree_of c_p_first_ways a b F0 os D hm R
abbrev s_p_others_of : Stmt := top 25
def N_p_others_of : List Str := ["web", "known", "met", "way"]
def V_p_others_of : List Str := ["web", "known", "met"]
def G_p_others_of : List Str := ["ways_of"]
theorem sc_p_others_of : FnScope N_p_others_of ["web", "known"] (defScope s_p_others_of) := ⟨rfl, rfl, rfl, by decide +kernel, rfl, by decide +kernel, by decide +kernel⟩
abbrev sp_p_others_of (K : PySem.W.Frag) : Sp := spZ (α := ((Int × (List (List Int))) × (List (Tri Int Int Int)))) (β := (List (Tri Int Int Int))) (fun a => [(dat (PyData.tuple [(PyData.int a.1.1), (PyData.tuple (List.map (eT PyData.int) a.1.2))])), (dat (PyData.list (List.map (eP3 PyData.int PyData.int PyData.int) a.2)))]) (fun a => []) (fun a => m_p_others_of a.1 a.2) (fun a b => (dat (PyData.list (List.map (eP3 PyData.int PyData.int PyData.int) b)))) (fun a b => [])
set_option maxHeartbeats 4000000 in
theorem body_p_others_of {X : Cx} (hsc : X.env.scope = defScope s_p_others_of) {sts_ : List Stmt} (hst_ : defBody s_p_others_of = sts_) (B : Bd X N_p_others_of V_p_others_of G_p_others_of 1) (T : Bt X V_p_others_of) (c_p_ways_of : Cal X.prog X.w X.K X.mg X.base 1 "ways_of" s_p_ways_of ["web"] (sp_p_ways_of X.K)) (web : (Int × (List (List Int)))) (known : (List (Tri Int Int Int))) (b : (List (Tri Int Int Int))) (F0 : Hp) (os : Os) (D : Ends) (hm : m_p_others_of web known = some b) (R : RetZ F0 (os) (dat (PyData.list (List.map (eP3 PyData.int PyData.int PyData.int) b))) D) :
    SX X [sl (dat (PyData.tuple [(PyData.int web.1), (PyData.tuple (List.map (eT PyData.int) web.2))])), sl (dat (PyData.list (List.map (eP3 PyData.int PyData.int PyData.int) known))), un, un] (os) F0 sts_ D := by
  subst hst_
  unfold m_p_others_of at hm
  obtain ⟨z2, h3, hm⟩ := bnd hm
  obtain ⟨t4, h4, hm⟩ := bnd hm
  refine sx_asg (hs := sw_noD (by rw [hsc]; decide +kernel)) (i := 2) (vi := 2) (φ := (dat (Kd.pd kIII (eM PyData.bool t4)))) B T rfl rfl (EN.exF (en_dcT (enc := PyData.bool) (m := (fun (way1 : (Tri Int Int Int)) => (some (some (way1, true)) : Option (Option ((Tri Int Int Int) × Bool))))) B inj_kIII (cp_mk1 (j := 3) (vp := fun way1 => (dat (PyData.tuple [(PyData.int way1.a), (PyData.int way1.b), (PyData.int way1.c)]))) (c := anyOs) B rfl rfl (by rw [B.hN, hsc]; decide +kernel) (by rw [hsc]; decide +kernel) (lenO_ok h3) (ix_list (enc := (eP3 PyData.int PyData.int PyData.int)) (c := anyOs) (ex_v (i := 1) (j := 1) B rfl rfl rfl) (fun _ _ => rdl_dat) trivial) (fun _ => trivial)) (by decide) h4 (fun way1 t q1 hx hf => by (obtain rfl := som hf; exact ⟨true, fun X1 hX => by (have B1 := Bd.fam (W' := ["way"]) (G' := []) B hX (by (try rw [hsc]); decide +kernel); exact ⟨.nil, fun _ => ⟨_, rfl, (ex_v (i := 3) (j := 0) B1 rfl rfl rfl), ex_bool⟩, fun h => Bool.noConfusion h⟩)⟩))) frb_od) ?_
  obtain ⟨t5, h5, hm⟩ := bnd hm
  obtain ⟨t8, h8, hm⟩ := bnd hm
  obtain rfl := som hm
  exact sx_ret (EN.ex (en_lc (lc_mk1 (j := 3) (vp := fun way6 => (dat (PyData.tuple [(PyData.int way6.a), (PyData.int way6.b), (PyData.int way6.c)]))) (c := anyOs) (enc := (eP3 PyData.int PyData.int PyData.int)) (fun (_ : Unit) (way6 : (Tri Int Int Int)) => some (if (!(dGet t4 way6).isSome) = true then some way6 else none, ())) (fun (_ : Unit) (tl1 : Os) => tl1) () (t8) () B rfl rfl (by rw [B.hN, hsc]; decide +kernel) (by rw [hsc]; decide +kernel) (by decide) (lcF_ok h8) (ix_list (enc := (eP3 PyData.int PyData.int PyData.int)) (c := anyOs) (ex_call (a := web) (b := t5) (gi := 0) (rest := os) B rfl c_p_ways_of (by decide) h5 (ax_cons (ex_v (i := 0) (j := 0) B rfl rfl rfl) ax_nil)) (fun _ _ => rdl_dat) trivial) (fun _ _ => trivial) (fun _ _ _ => List.Perm.refl _) (fun _ way6 t tl1 hx hf => by (obtain rfl := som hf; exact ⟨(!(dGet t4 way6).isSome), _, fun X1 hX => by (have B1 := Bd.fam (W' := ["met", "way"]) (G' := []) B hX (by (try rw [hsc]); decide +kernel); exact ⟨.one (tx_dnotin (kd := kIII) (enc := PyData.bool) (w := t4) (k := way6) inj_kIII B1 rdd_dat (ex_v (i := 3) (j := 1) B1 rfl rfl rfl) (ex_v (i := 2) (j := 0) B1 rfl rfl rfl)), fun h => ⟨_, if_pos h, (ex_v (i := 3) (j := 1) B1 rfl rfl rfl)⟩, fun h => ⟨(by first | exact if_neg (by rw [h]; exact Bool.false_ne_true) | rfl), rfl⟩⟩)⟩))))) (fun F H v e o c => R.rt F H v e o c)
theorem cal_p_others_of {P : Program} {w : World} {K : PySem.W.Frag} {mg : Str → Option Value} {base : Heap} {f : Addr} {fd : FuncData} (Fn : Fun K "others_of" "others_of" s_p_others_of f fd) (hmg : mg "others_of" = some (.ref f)) (hb : Binds K fd ["web", "known"] []) (c_p_ways_of : Cal P w K mg base 1 "ways_of" s_p_ways_of ["web"] (sp_p_ways_of K)) : Cal P w K mg base 2 "others_of" s_p_others_of ["web", "known"] (sp_p_others_of K) := by
  obtain ⟨sts_, hst_⟩ : ∃ z_, defBody s_p_others_of = z_ := ⟨_, rfl⟩
  exact cal_ZQ (V := V_p_others_of) (Gs := G_p_others_of) (nl := 2) hst_ Fn sc_p_others_of (by decide +kernel) (by decide +kernel) hmg hb (fun _ => rfl) rfl fun _ _ _ _ _ _ _ a b F0 os D B T hm R => body_p_others_of rfl hst_ B T c_p_ways_of a.1 a.2 b F0 os D hm R
abbrev s_p_basis : Stmt := top 26
def N_p_basis : List Str := ["web", "doors", "firsts", "found", "room", "letter", "goal"]
def V_p_basis : List Str := ["web", "doors", "firsts", "found", "room", "letter", "goal"]
def G_p_basis : List Str := ["need_web", "doors_of", "first_ways", "others_of", "tree_of", "straightened", "turned_back"]
theorem sc_p_basis : FnScope N_p_basis ["web"] (defScope s_p_basis) := ⟨rfl, rfl, rfl, by decide +kernel, rfl, by decide +kernel, by decide +kernel⟩
abbrev sp_p_basis (K : PySem.W.Frag) : Sp := spN (α := (Int × (List (List Int)))) (β := (List (List Int))) (fun a => [(dat (PyData.tuple [(PyData.int a.1), (PyData.tuple (List.map (eT PyData.int) a.2))]))]) (fun a => []) (fun a => m_p_basis a) (fun a b => ol (List.map (eT PyData.int) b)) (fun a b => [])
set_option maxHeartbeats 4000000 in
theorem body_p_basis {X : Cx} (hsc : X.env.scope = defScope s_p_basis) {sts_ : List Stmt} (hst_ : defBody s_p_basis = sts_) (B : Bd X N_p_basis V_p_basis G_p_basis 4) (T : Bt X V_p_basis) (c_p_need_web : Cal X.prog X.w X.K X.mg X.base 4 "need_web" s_p_need_web ["web"] (sp_p_need_web X.K)) (c_p_doors_of : Cal X.prog X.w X.K X.mg X.base 1 "doors_of" s_p_doors_of ["rows"] (sp_p_doors_of X.K)) (c_p_first_ways : Cal X.prog X.w X.K X.mg X.base 3 "first_ways" s_p_first_ways ["letters", "doors", "home"] (sp_p_first_ways X.K)) (c_p_others_of : Cal X.prog X.w X.K X.mg X.base 2 "others_of" s_p_others_of ["web", "known"] (sp_p_others_of X.K)) (c_p_tree_of : Cal X.prog X.w X.K X.mg X.base 2 "tree_of" s_p_tree_of ["doors", "firsts"] (sp_p_tree_of X.K)) (c_p_straightened : Cal X.prog X.w X.K X.mg X.base 1 "straightened" s_p_straightened ["walk"] (sp_p_straightened X.K)) (c_p_turned_back : Cal X.prog X.w X.K X.mg X.base 1 "turned_back" s_p_turned_back ["walk"] (sp_p_turned_back X.K)) (web : (Int × (List (List Int)))) (b : (List (List Int))) (F0 : Hp) (os : Os) (D : Ends) (hm : m_p_basis web = some b) (R : RetN F0 (os) (ol (List.map (eT PyData.int) b)) D) :
    SX X [sl (dat (PyData.tuple [(PyData.int web.1), (PyData.tuple (List.map (eT PyData.int) web.2))])), un, un, un, un, un, un] (os) F0 sts_ D := by
  subst hst_
  unfold m_p_basis at hm
  obtain ⟨t1, h1, hm⟩ := bnd hm
  refine sx_expr (ex_call (a := web) (b := t1) (gi := 0) (rest := os) B rfl c_p_need_web (by decide) h1 (ax_cons (ex_v (i := 0) (j := 0) B rfl rfl rfl) ax_nil)) ?_
  obtain ⟨t2, h2, hm⟩ := bnd hm
  refine sx_asg (i := 1) (vi := 1) (φ := (dat (PyData.list (List.map (eD kI PyData.int) t2)))) B T rfl rfl (ex_call (a := web.2) (b := t2) (gi := 1) (rest := os) B rfl c_p_doors_of (by decide) h2 (ax_cons (ex_ixT rdt_dat (by rfl) (ex_v (i := 0) (j := 0) B rfl rfl rfl) ex_int) ax_nil)) ?_
  obtain ⟨t3, h3, hm⟩ := bnd hm
  refine sx_asg (i := 2) (vi := 2) (φ := (dat (Kd.pd kI (eM (eT PyData.int) t3)))) B T rfl rfl (ex_call (a := (web.1, t2, 0)) (b := t3) (gi := 2) (rest := os) B rfl c_p_first_ways (by decide) h3 (ax_cons (ex_ixT rdt_dat (by rfl) (ex_v (i := 0) (j := 0) B rfl rfl rfl) ex_int) (ax_cons (ex_v (i := 1) (j := 1) B rfl rfl rfl) (ax_cons ex_int ax_nil)))) ?_
  refine sx_asgN (i := 3) (vi := 3) (n := ol (List.map (eT PyData.int) ([] : (List (List Int))))) B T rfl rfl (en_lst (ds := []) ax_nil) (fun q_found3 => ?_)
  obtain ⟨t4, h4, hm⟩ := bnd hm
  obtain ⟨t5, h5, hm⟩ := bnd hm
  obtain ⟨f8, h18, hm⟩ := bnd hm
  refine sx_for (c := anyOs) _ (fun (s6 : (List (List Int))) (_ : Unit) => [sl (dat (PyData.tuple [(PyData.int web.1), (PyData.tuple (List.map (eT PyData.int) web.2))])), sl (dat (PyData.list (List.map (eD kI PyData.int) t2))), sl (dat (Kd.pd kI (eM (eT PyData.int) t3))), sl (own q_found3), un, un, un]) (fun (s6 : (List (List Int))) (_ : Unit) => (q_found3, ol (List.map (eT PyData.int) s6)) :: os) B T (fun x7 => gx_triple B (gx_name (i := 4) (vi := 4) (φ := (dat (PyData.int x7.a))) B T rfl rfl) (gx_name (i := 5) (vi := 5) (φ := (dat (PyData.int x7.b))) B T rfl rfl) (gx_name (i := 6) (vi := 6) (φ := (dat (PyData.int x7.c))) B T rfl rfl)) ([] : (List (List Int))) () f8 h18 (ix_list (enc := (eP3 PyData.int PyData.int PyData.int)) (c := anyOs) (ex_call (a := (web, t4)) (b := t5) (gi := 3) (rest := (q_found3, ol (List.map (eT PyData.int) ([] : (List (List Int))))) :: os) B rfl c_p_others_of (by decide) h5 (ax_cons (ex_v (i := 0) (j := 0) B rfl rfl rfl) (ax_cons (EN.ex (en_call (a := (t2, t3)) (b := t4) (gi := 4) (rest := (q_found3, ol (List.map (eT PyData.int) ([] : (List (List Int))))) :: os) B rfl c_p_tree_of (by decide) h4 (ax_cons (ex_v (i := 1) (j := 1) B rfl rfl rfl) (ax_cons (ex_v (i := 2) (j := 2) B rfl rfl rfl) ax_nil)))) ax_nil))) (fun _ _ => rdl_dat) trivial) ⟨.inl rfl, .inl rfl, .inl rfl, .inl rfl, .inl rfl, .inl rfl, .inl rfl, trivial⟩ (fun _ _ => trivial) (fun F10 e9 s6 _ x7 z19 hx hm => ?_) (fun _ => ?_)
  · clear h18
    obtain ⟨t11, h11, hm⟩ := bnd hm
    obtain ⟨t12, h12, hm⟩ := bnd hm
    obtain ⟨t13, h13, hm⟩ := bnd hm
    obtain ⟨t14, h14, hm⟩ := bnd hm
    obtain ⟨t15, h15, hm⟩ := bnd hm
    obtain ⟨t16, h16, hm⟩ := bnd hm
    obtain ⟨t17, h17, hm⟩ := bnd hm
    refine sx_expr (ex_app (enc := (eT PyData.int)) (j := 0) (xs0 := s6) (xs := s6) (y := t16) h17 (ex_v (i := 3) (j := 3) B rfl rfl rfl) rfl (ex_call (a := t15) (b := t16) (gi := 5) (rest := (q_found3, ol (List.map (eT PyData.int) s6)) :: os) B rfl c_p_straightened (by decide) h16 (ax_cons (ex_catT (enc := PyData.int) h15 (ex_catT (enc := PyData.int) h12 (ex_dget (kd := kI) (enc := (eT PyData.int)) (w := t3) inj_kI h11 B rdd_dat (ex_v (i := 2) (j := 2) B rfl rfl rfl) (ex_v (i := 4) (j := 4) B rfl rfl rfl)) (ex_tup (ds := [(PyData.int x7.b)]) (hl := len_ok (n := 1) rfl) (ax_cons (ex_v (i := 5) (j := 5) B rfl rfl rfl) ax_nil))) (ex_call (a := t13) (b := t14) (gi := 6) (rest := (q_found3, ol (List.map (eT PyData.int) s6)) :: os) B rfl c_p_turned_back (by decide) h14 (ax_cons (ex_dget (kd := kI) (enc := (eT PyData.int)) (w := t3) inj_kI h13 B rdd_dat (ex_v (i := 2) (j := 2) B rfl rfl rfl) (ex_v (i := 6) (j := 6) B rfl rfl rfl)) ax_nil))) ax_nil)) rfl) ?_
    obtain rfl := som hm
    exact sx_nil fun σ H a => ⟨(), (a.weak ⟨.inl rfl, .inl rfl, .inl rfl, .inl rfl, .inr rfl, .inr rfl, .inr rfl, trivial⟩)⟩
  · skip
    obtain rfl := som hm
    exact sx_retO (ex_v (i := 3) (j := 3) B rfl rfl rfl) (fun F H e o => R.rt F H q_found3 e o)
theorem cal_p_basis {P : Program} {w : World} {K : PySem.W.Frag} {mg : Str → Option Value} {base : Heap} {f : Addr} {fd : FuncData} (Fn : Fun K "basis" "basis" s_p_basis f fd) (hmg : mg "basis" = some (.ref f)) (hb : Binds K fd ["web"] []) (c_p_need_web : Cal P w K mg base 4 "need_web" s_p_need_web ["web"] (sp_p_need_web K)) (c_p_doors_of : Cal P w K mg base 1 "doors_of" s_p_doors_of ["rows"] (sp_p_doors_of K)) (c_p_first_ways : Cal P w K mg base 3 "first_ways" s_p_first_ways ["letters", "doors", "home"] (sp_p_first_ways K)) (c_p_others_of : Cal P w K mg base 2 "others_of" s_p_others_of ["web", "known"] (sp_p_others_of K)) (c_p_tree_of : Cal P w K mg base 2 "tree_of" s_p_tree_of ["doors", "firsts"] (sp_p_tree_of K)) (c_p_straightened : Cal P w K mg base 1 "straightened" s_p_straightened ["walk"] (sp_p_straightened K)) (c_p_turned_back : Cal P w K mg base 1 "turned_back" s_p_turned_back ["walk"] (sp_p_turned_back K)) : Cal P w K mg base 5 "basis" s_p_basis ["web"] (sp_p_basis K) := by
  obtain ⟨sts_, hst_⟩ : ∃ z_, defBody s_p_basis = z_ := ⟨_, rfl⟩
  exact cal_NQ (V := V_p_basis) (Gs := G_p_basis) (nl := 6) hst_ Fn sc_p_basis (by decide +kernel) (by decide +kernel) hmg hb (fun _ => rfl) rfl fun _ _ _ _ _ _ _ a b F0 os D B T hm R => body_p_basis rfl hst_ B T c_p_need_web c_p_doors_of c_p_first_ways c_p_others_of c_p_tree_of c_p_straightened c_p_turned_back a b F0 os D hm R
abbrev s_l_well : Stmt := top 28
def N_l_well : List Str := ["_law_script", "_law_k", "_law_cell", "_law_total", "_law_at", "_law_other"]
def V_l_well : List Str := ["_law_script", "_law_k", "_law_cell", "_law_total", "_law_at", "_law_other"]
def G_l_well : List Str := ["len", "enumerate", "int", "max"]
theorem sc_l_well : FnScope N_l_well ["_law_script", "_law_k"] (defScope s_l_well) := ⟨rfl, rfl, rfl, by decide +kernel, rfl, by decide +kernel, by decide +kernel⟩
abbrev sp_l_well (K : PySem.W.Frag) : Sp := spN (α := ((List Int) × Int)) (β := (List Int)) (fun a => [(scr K a.1), (dat (PyData.int a.2))]) (fun a => []) (fun a => m_l_well a.1 a.2) (fun a b => ol (List.map PyData.int b)) (fun a b => [])
set_option maxHeartbeats 4000000 in
theorem body_l_well {X : Cx} (hsc : X.env.scope = defScope s_l_well) {sts_ : List Stmt} (hst_ : defBody s_l_well = sts_) (B : Bd X N_l_well V_l_well G_l_well 0) (T : Bt X V_l_well) (g_len : X.mg "len" = none) (g_enumerate : X.mg "enumerate" = none) (g_int : X.mg "int" = none) (g_max : X.mg "max" = none) (script : (List Int)) (k_ : Int) (b : (List Int)) (F0 : Hp) (os : Os) (D : Ends) (hm : m_l_well script k_ = some b) (R : RetN F0 (os) (ol (List.map PyData.int b)) D) :
    SX X [sl (scr X.K script), sl (dat (PyData.int k_)), un, un, un, un] (os) F0 sts_ D := by
  subst hst_
  unfold m_l_well at hm
  obtain ⟨t2, h2, hm⟩ := bnd hm
  refine sx_asg (i := 2) (vi := 2) (φ := (dat (PyData.int t2))) B T rfl rfl (ex_if (tx_cmp op_lt r2_lt (nomark _) (ex_v (i := 1) (j := 1) B rfl rfl rfl) (EX.to (ex_fn (j := 0) B rfl g_len (by decide +kernel) call_len_seq (rc_lenL (ds := List.map PyData.int script) rdl_scr) (ax_cons (ex_v (i := 0) (j := 0) B rfl rfl rfl) ax_nil)) (by rw [List.length_map]))) (fun hk => by (have hm := ifT h2 hk; obtain ⟨t1, h1, hm⟩ := bnd hm; obtain rfl := som hm; exact (EX.to (ex_idxL (enc := PyData.int) h1 rdl_scr (ex_v (i := 0) (j := 0) B rfl rfl rfl) (ex_v (i := 1) (j := 1) B rfl rfl rfl)) (by rfl)))) (fun hk => by (have hm := ifF h2 hk; obtain rfl := som hm; exact (EX.to (ex_add (ex_mulL (by decide) ex_int (ex_v (i := 1) (j := 1) B rfl rfl rfl)) ex_int) (by rfl))))) ?_
  refine sx_asg (i := 3) (vi := 3) (φ := (dat (PyData.int 0))) B T rfl rfl ex_int ?_
  obtain ⟨f5, h11, hm⟩ := bnd hm
  refine sx_for (c := anyOs) _ (fun (s3 : Int) (_ : Unit) => [sl (scr X.K script), sl (dat (PyData.int k_)), sl (dat (PyData.int t2)), sl (dat (PyData.int s3)), un, un]) (fun (s3 : Int) (_ : Unit) => os) B T (fun x4 => gx_pair B (gx_name (i := 4) (vi := 4) (φ := (dat (PyData.int x4.1))) B T rfl rfl) (gx_name (i := 5) (vi := 5) (φ := (dat (PyData.int x4.2))) B T rfl rfl)) 0 () f5 h11 (ix_enum (enc := PyData.int) (gi := 1) B rfl g_enumerate (ex_v (i := 0) (j := 0) B rfl rfl rfl) (fun _ _ => rdl_scr) trivial) ⟨.inl rfl, .inl rfl, .inl rfl, .inl rfl, .inl rfl, .inl rfl, trivial⟩ (fun _ _ => trivial) (fun F7 e6 s3 _ x4 z12 hx hm => ?_) (fun _ => ?_)
  · clear h11
    obtain ⟨t8, h8, hm⟩ := bnd hm
    obtain ⟨total9, h10, hm⟩ := bnd hm
    have h10 := som h10
    refine sx_asg (i := 3) (vi := 3) (φ := (dat (PyData.int total9))) B T rfl rfl (EX.to (ex_mod (modO_lit (j := 10000000000000000000000000000000000000121) (by decide)) (ex_ty (j := 2) B rfl g_int (by decide +kernel) call_int1 rc_intI (ax_cons (ex_add (ex_mulR (by decide) (ex_v (i := 3) (j := 3) B rfl rfl rfl) ex_int) (ex_mulW h8 (ex_v (i := 5) (j := 5) B rfl rfl rfl) (ex_add (ex_v (i := 4) (j := 4) B rfl rfl rfl) ex_int))) ax_nil)) (EX.to (d' := PyData.int 10000000000000000000000000000000000000121) (ex_add (ex_pow (m := 10000000000000000000000000000000000000000) (by decide +kernel) ex_int ex_int) ex_int) (by rfl))) (congrArg (fun z_ => (PyData.int z_)) h10)) ?_
    obtain rfl := som hm
    exact sx_nil fun σ H a => ⟨(), (a.weak ⟨.inl rfl, .inl rfl, .inl rfl, .inl rfl, .inr rfl, .inr rfl, trivial⟩)⟩
  · skip
    obtain rfl := som hm
    exact sx_retN (en_lst (ds := [(PyData.int (maxI 0 (t2 - 1000000000000000000))), (PyData.int ((((t2 * 8191) + f5) + (524287 * k_)) % 100000000000000000000000000000000000000011)), (PyData.int 0)]) (hl := len_ok (n := 3) rfl) (ax_cons (ex_fn (j := 3) B rfl g_max (by decide +kernel) (call_max2 B.calm) rc_max (ax_cons ex_int (ax_cons (ex_sub (ex_v (i := 2) (j := 2) B rfl rfl rfl) (ex_pow (m := 1000000000000000000) (by decide +kernel) ex_int ex_int)) ax_nil))) (ax_cons (ex_mod (modO_lit (j := 100000000000000000000000000000000000000011) (by decide)) (ex_ty (j := 2) B rfl g_int (by decide +kernel) call_int1 rc_intI (ax_cons (ex_add (ex_add (ex_mulR (by decide) (ex_v (i := 2) (j := 2) B rfl rfl rfl) ex_int) (ex_v (i := 3) (j := 3) B rfl rfl rfl)) (ex_mulL (by decide) ex_int (ex_v (i := 1) (j := 1) B rfl rfl rfl))) ax_nil)) (EX.to (d' := PyData.int 100000000000000000000000000000000000000011) (ex_add (ex_pow (m := 100000000000000000000000000000000000000000) (by decide +kernel) ex_int ex_int) ex_int) (by rfl))) (ax_cons ex_int ax_nil)))) (fun F H p e o => R.rt F H p e o)
theorem cal_l_well {P : Program} {w : World} {K : PySem.W.Frag} {mg : Str → Option Value} {base : Heap} {f : Addr} {fd : FuncData} (Fn : Fun K "_law_well" "_law_well" s_l_well f fd) (hmg : mg "_law_well" = some (.ref f)) (hb : Binds K fd ["_law_script", "_law_k"] []) (g_len : mg "len" = none) (g_enumerate : mg "enumerate" = none) (g_int : mg "int" = none) (g_max : mg "max" = none) : Cal P w K mg base 1 "_law_well" s_l_well ["_law_script", "_law_k"] (sp_l_well K) := by
  obtain ⟨sts_, hst_⟩ : ∃ z_, defBody s_l_well = z_ := ⟨_, rfl⟩
  exact cal_NQ (V := V_l_well) (Gs := G_l_well) (nl := 4) hst_ Fn sc_l_well (by decide +kernel) (by decide +kernel) hmg hb (fun _ => rfl) rfl fun _ _ _ _ _ _ _ a b F0 os D B T hm R => body_l_well rfl hst_ B T g_len g_enumerate g_int g_max a.1 a.2 b F0 os D hm R
abbrev s_l_take : Stmt := top 29
def N_l_take : List Str := ["_law_well_here", "_law_many", "_law_found", "_law_mixed"]
def V_l_take : List Str := ["_law_well_here", "_law_many", "_law_found", "_law_mixed"]
def G_l_take : List Str := ["int"]
theorem sc_l_take : FnScope N_l_take ["_law_well_here", "_law_many"] (defScope s_l_take) := ⟨rfl, rfl, rfl, by decide +kernel, rfl, by decide +kernel, by decide +kernel⟩
abbrev sp_l_take (K : PySem.W.Frag) : Sp := spZ (α := (Addr × (List Int) × Int)) (β := (Int × (List Int))) (fun a => [own a.1, (dat (PyData.int a.2.2))]) (fun a => (a.1, ol (List.map PyData.int a.2.1)) :: []) (fun a => m_l_take a.2.1 a.2.2) (fun a b => (dat (PyData.int b.1))) (fun a b => (a.1, ol (List.map PyData.int b.2)) :: [])
set_option maxHeartbeats 4000000 in
theorem body_l_take {X : Cx} (hsc : X.env.scope = defScope s_l_take) {sts_ : List Stmt} (hst_ : defBody s_l_take = sts_) (B : Bd X N_l_take V_l_take G_l_take 0) (T : Bt X V_l_take) (g_int : X.mg "int" = none) (q_well_here : Addr) (w_well_here : (List Int)) (many : Int) (b : (Int × (List Int))) (F0 : Hp) (os : Os) (D : Ends) (hm : m_l_take w_well_here many = some b) (R : RetZ F0 ((q_well_here, ol (List.map PyData.int b.2)) :: os) (dat (PyData.int b.1)) D) :
    SX X [sl (own q_well_here), sl (dat (PyData.int many)), un, un] ((q_well_here, ol (List.map PyData.int w_well_here)) :: os) F0 sts_ D := by
  subst hst_
  unfold m_l_take at hm
  obtain ⟨t1, h1, hm⟩ := bnd hm
  refine sx_if (tx_cmp op_gt r2_gt (nomark _) (ex_idxL (enc := PyData.int) h1 (rdl_own 0 rfl) (ex_v (i := 0) (j := 0) B rfl rfl rfl) ex_int) ex_int) (fun hk => ?_) (fun hk => ?_)
  · have hm := ifT hm hk
    obtain ⟨t2, h2, hm⟩ := bnd hm
    obtain ⟨t3, h3, hm⟩ := bnd hm
    refine sx_asg (i := 2) (vi := 2) (φ := (dat (PyData.int t3))) B T rfl rfl (ex_mod h3 (ex_ty (j := 0) B rfl g_int (by decide +kernel) call_int1 rc_intI (ax_cons (ex_idxL (enc := PyData.int) h2 (rdl_own 0 rfl) (ex_v (i := 0) (j := 0) B rfl rfl rfl) ex_int) ax_nil)) (ex_v (i := 1) (j := 1) B rfl rfl rfl)) ?_
    obtain ⟨t4, h4, hm⟩ := bnd hm
    obtain ⟨t5, h5, hm⟩ := bnd hm
    obtain ⟨t6, h6, hm⟩ := bnd hm
    refine sx_setO (enc := PyData.int) (j := 0) h6 (ex_fdiv h5 (ex_idxL (enc := PyData.int) h4 (rdl_own 0 rfl) (ex_v (i := 0) (j := 0) B rfl rfl rfl) ex_int) (ex_v (i := 1) (j := 1) B rfl rfl rfl)) (ex_v (i := 0) (j := 0) B rfl rfl rfl) ex_int rfl ?_
    obtain rfl := som hm
    exact sx_ret (ex_v (i := 2) (j := 2) B rfl rfl rfl) (fun F H v e o c => R.rt F H v e o c)
  · have hm := ifF hm hk
    refine sx_fall ?_ rfl
    obtain ⟨t7, h7, hm⟩ := bnd hm
    obtain ⟨t8, h8, hm⟩ := bnd hm
    refine sx_setO (enc := PyData.int) (j := 0) h8 (ex_add (ex_idxL (enc := PyData.int) h7 (rdl_own 0 rfl) (ex_v (i := 0) (j := 0) B rfl rfl rfl) ex_int) ex_int) (ex_v (i := 0) (j := 0) B rfl rfl rfl) ex_int rfl ?_
    obtain ⟨t9, h9, hm⟩ := bnd hm
    obtain ⟨t10, h10, hm⟩ := bnd hm
    obtain ⟨t11, h11, hm⟩ := bnd hm
    refine sx_asg (i := 3) (vi := 3) (φ := (dat (PyData.int (t11 % 10000000000000000000000000000000000000000057)))) B T rfl rfl (ex_mod (modO_lit (j := 10000000000000000000000000000000000000000057) (by decide)) (ex_ty (j := 0) B rfl g_int (by decide +kernel) call_int1 rc_intI (ax_cons (ex_pow h11 (ex_add (ex_idxL (enc := PyData.int) h9 (rdl_own 0 rfl) (ex_v (i := 0) (j := 0) B rfl rfl rfl) ex_int) (ex_mulL (by decide) ex_int (ex_idxL (enc := PyData.int) h10 (rdl_own 0 rfl) (ex_v (i := 0) (j := 0) B rfl rfl rfl) ex_int))) ex_int) ax_nil)) (EX.to (d' := PyData.int 10000000000000000000000000000000000000000057) (ex_add (ex_pow (m := 10000000000000000000000000000000000000000000) (by decide +kernel) ex_int ex_int) ex_int) (by rfl))) ?_
    obtain ⟨t12, h12, hm⟩ := bnd hm
    obtain ⟨t13, h13, hm⟩ := bnd hm
    obtain ⟨mixed14, h15, hm⟩ := bnd hm
    have h15 := som h15
    refine sx_asg (i := 3) (vi := 3) (φ := (dat (PyData.int mixed14))) B T rfl rfl (EX.to (ex_mod (modO_lit (j := 1000000000000000000000000000000000000000063) (by decide)) (ex_ty (j := 0) B rfl g_int (by decide +kernel) call_int1 rc_intI (ax_cons (ex_add (ex_pow h13 (ex_add (ex_v (i := 3) (j := 3) B rfl rfl rfl) (ex_mulL (by decide) ex_int (ex_idxL (enc := PyData.int) h12 (rdl_own 0 rfl) (ex_v (i := 0) (j := 0) B rfl rfl rfl) ex_int))) ex_int) (ex_v (i := 3) (j := 3) B rfl rfl rfl)) ax_nil)) (EX.to (d' := PyData.int 1000000000000000000000000000000000000000063) (ex_add (ex_pow (m := 1000000000000000000000000000000000000000000) (by decide +kernel) ex_int ex_int) ex_int) (by rfl))) (congrArg (fun z_ => (PyData.int z_)) h15)) ?_
    obtain ⟨t16, h16, hm⟩ := bnd hm
    obtain rfl := som hm
    exact sx_ret (ex_mod h16 (ex_fdiv (fdivO_lit (j := 999983) (by decide) (by decide +kernel)) (ex_v (i := 3) (j := 3) B rfl rfl rfl) ex_int) (ex_v (i := 1) (j := 1) B rfl rfl rfl)) (fun F H v e o c => R.rt F H v e o c)
theorem cal_l_take {P : Program} {w : World} {K : PySem.W.Frag} {mg : Str → Option Value} {base : Heap} {f : Addr} {fd : FuncData} (Fn : Fun K "_law_take" "_law_take" s_l_take f fd) (hmg : mg "_law_take" = some (.ref f)) (hb : Binds K fd ["_law_well_here", "_law_many"] []) (g_int : mg "int" = none) : Cal P w K mg base 1 "_law_take" s_l_take ["_law_well_here", "_law_many"] (sp_l_take K) := by
  obtain ⟨sts_, hst_⟩ : ∃ z_, defBody s_l_take = z_ := ⟨_, rfl⟩
  exact cal_ZQ (V := V_l_take) (Gs := G_l_take) (nl := 2) hst_ Fn sc_l_take (by decide +kernel) (by decide +kernel) hmg hb (fun _ => rfl) rfl fun _ _ _ _ _ _ _ a b F0 os D B T hm R => body_l_take rfl hst_ B T g_int a.1 a.2.1 a.2.2 b F0 os D hm R
abbrev s_l_straight : Stmt := top 30
def N_l_straight : List Str := ["_law_walk", "_law_found", "_law_step"]
def V_l_straight : List Str := ["_law_walk", "_law_found", "_law_step"]
def G_l_straight : List Str := ["tuple"]
theorem sc_l_straight : FnScope N_l_straight ["_law_walk"] (defScope s_l_straight) := ⟨rfl, rfl, rfl, by decide +kernel, rfl, by decide +kernel, by decide +kernel⟩
abbrev sp_l_straight (K : PySem.W.Frag) : Sp := spZ (α := (List Int)) (β := (List Int)) (fun a => [(dat (PyData.tuple (List.map PyData.int a)))]) (fun a => []) (fun a => m_l_straight a) (fun a b => (dat (PyData.tuple (List.map PyData.int b)))) (fun a b => [])
set_option maxHeartbeats 4000000 in
theorem body_l_straight {X : Cx} (hsc : X.env.scope = defScope s_l_straight) {sts_ : List Stmt} (hst_ : defBody s_l_straight = sts_) (B : Bd X N_l_straight V_l_straight G_l_straight 0) (T : Bt X V_l_straight) (g_tuple : X.mg "tuple" = none) (walk : (List Int)) (b : (List Int)) (F0 : Hp) (os : Os) (D : Ends) (hm : m_l_straight walk = some b) (R : RetZ F0 (os) (dat (PyData.tuple (List.map PyData.int b))) D) :
    SX X [sl (dat (PyData.tuple (List.map PyData.int walk))), un, un] (os) F0 sts_ D := by
  subst hst_
  unfold m_l_straight at hm
  refine sx_asgN (i := 1) (vi := 1) (n := ol (List.map PyData.int ([] : (List Int)))) B T rfl rfl (en_lst (ds := []) ax_nil) (fun q_found0 => ?_)
  obtain ⟨f3, h11, hm⟩ := bnd hm
  refine sx_for (c := anyOs) _ (fun (s1 : (List Int)) (_ : Unit) => [sl (dat (PyData.tuple (List.map PyData.int walk))), sl (own q_found0), un]) (fun (s1 : (List Int)) (_ : Unit) => (q_found0, ol (List.map PyData.int s1)) :: os) B T (fun step2 => gx_name (i := 2) (vi := 2) (φ := (dat (PyData.int step2))) B T rfl rfl) ([] : (List Int)) () f3 h11 (ix_tup (enc := PyData.int) (ex_v (i := 0) (j := 0) B rfl rfl rfl) rdt_dat) ⟨.inl rfl, .inl rfl, .inl rfl, trivial⟩ (fun _ _ => trivial) (fun F5 e4 s1 _ step2 z12 hx hm => ?_) (fun _ => ?_)
  · clear h11
    obtain ⟨t7, h7, hm⟩ := bnd hm
    obtain ⟨s10, h_s10, hm⟩ := bnd hm
    refine sx_join [sl (dat (PyData.tuple (List.map PyData.int walk))), sl (own q_found0), sl (dat (PyData.int step2))] ((q_found0, ol (List.map PyData.int s10)) :: os) (?_) (fun Q => ?_)
    · clear h_s10
      obtain rfl := som hm
      exact sx_nil fun σ H a => ⟨(), (a.weak ⟨.inl rfl, .inl rfl, .inr rfl, trivial⟩)⟩
    · have hm := h_s10
      refine sx_if (WX.tx (wx_and (l := t7) (os2 := (q_found0, ol (List.map PyData.int s1)) :: os) (tx_neR (e := (eL PyData.int)) (x := s1) (y := ([] : (List Int))) B (eqv_list eqv_int) (sh_list sh_int) (by decide) (rdx_own (ds := List.map PyData.int s1) 0 rfl) rdx_dat (ex_v (i := 1) (j := 1) B rfl rfl rfl) (EN.ex (en_lst (ds := []) ax_nil))) (fun hk => by (have hm := ifT h7 hk; obtain ⟨t6, h6, hm⟩ := bnd hm; obtain rfl := som hm; exact (wx_and1 (tx_cmp op_eq r2_eqI (nomark _) (ex_idxL (enc := PyData.int) h6 (rdl_own 0 rfl) (ex_v (i := 1) (j := 1) B rfl rfl rfl) (ex_neg ex_int)) (ex_sub ex_int (ex_v (i := 2) (j := 2) B rfl rfl rfl)))))) (fun hk => by (have hm := ifF h7 hk; obtain rfl := som hm; rfl)) (and_fix (fun hk => by (have hm := ifF h7 hk; obtain rfl := som hm; rfl))))) (fun hk => ?_) (fun hk => ?_)
      · have hm := ifT hm hk
        obtain ⟨t8, h8, hm⟩ := bnd hm
        refine sx_expr (ex_popO (enc := PyData.int) (j := 0) h8 (ex_v (i := 1) (j := 1) B rfl rfl rfl) rfl) ?_
        obtain rfl := som hm
        exact sx_fall Q rfl
      · have hm := ifF hm hk
        obtain ⟨t9, h9, hm⟩ := bnd hm
        refine sx_expr (ex_app (enc := PyData.int) (j := 0) (xs0 := s1) (xs := s1) (y := step2) h9 (ex_v (i := 1) (j := 1) B rfl rfl rfl) rfl (ex_v (i := 2) (j := 2) B rfl rfl rfl) rfl) ?_
        obtain rfl := som hm
        exact sx_fall Q rfl
  · skip
    refine sx_frz (j := 0) (i := 1) rfl rfl ?_
    obtain rfl := som hm
    exact sx_ret (ex_ty (j := 0) B rfl g_tuple (by decide +kernel) call_tuple_of (rc_tupL (ds := List.map PyData.int f3) rdl_dat) (ax_cons (ex_v (i := 1) (j := 1) B rfl rfl rfl) ax_nil)) (fun F H v e o c => R.rt F H v e o c)
theorem cal_l_straight {P : Program} {w : World} {K : PySem.W.Frag} {mg : Str → Option Value} {base : Heap} {f : Addr} {fd : FuncData} (Fn : Fun K "_law_straight" "_law_straight" s_l_straight f fd) (hmg : mg "_law_straight" = some (.ref f)) (hb : Binds K fd ["_law_walk"] []) (g_tuple : mg "tuple" = none) : Cal P w K mg base 1 "_law_straight" s_l_straight ["_law_walk"] (sp_l_straight K) := by
  obtain ⟨sts_, hst_⟩ : ∃ z_, defBody s_l_straight = z_ := ⟨_, rfl⟩
  exact cal_ZQ (V := V_l_straight) (Gs := G_l_straight) (nl := 2) hst_ Fn sc_l_straight (by decide +kernel) (by decide +kernel) hmg hb (fun _ => rfl) rfl fun _ _ _ _ _ _ _ a b F0 os D B T hm R => body_l_straight rfl hst_ B T g_tuple a b F0 os D hm R
abbrev s_l_steps : Stmt := top 31
def N_l_steps : List Str := ["_law_letters", "_law_found", "_law_letter"]
def V_l_steps : List Str := ["_law_letters", "_law_found", "_law_letter"]
def G_l_steps : List Str := ["range"]
theorem sc_l_steps : FnScope N_l_steps ["_law_letters"] (defScope s_l_steps) := ⟨rfl, rfl, rfl, by decide +kernel, rfl, by decide +kernel, by decide +kernel⟩
abbrev sp_l_steps (K : PySem.W.Frag) : Sp := spZ (α := Int) (β := (List Int)) (fun a => [(dat (PyData.int a))]) (fun a => []) (fun a => m_l_steps a) (fun a b => (dat (PyData.list (List.map PyData.int b)))) (fun a b => [])
set_option maxHeartbeats 4000000 in
theorem body_l_steps {X : Cx} (hsc : X.env.scope = defScope s_l_steps) {sts_ : List Stmt} (hst_ : defBody s_l_steps = sts_) (B : Bd X N_l_steps V_l_steps G_l_steps 0) (T : Bt X V_l_steps) (g_range : X.mg "range" = none) (letters : Int) (b : (List Int)) (F0 : Hp) (os : Os) (D : Ends) (hm : m_l_steps letters = some b) (R : RetZ F0 (os) (dat (PyData.list (List.map PyData.int b))) D) :
    SX X [sl (dat (PyData.int letters)), un, un] (os) F0 sts_ D := by
  subst hst_
  unfold m_l_steps at hm
  refine sx_asg (i := 1) (vi := 1) (φ := (dat (PyData.list (List.map PyData.int ([] : (List Int)))))) B T rfl rfl (EN.ex (en_lst (ds := []) ax_nil)) ?_
  obtain ⟨t1, h1, hm⟩ := bnd hm
  obtain ⟨f4, h8, hm⟩ := bnd hm
  refine sx_for (c := anyOs) _ (fun (s2 : (List Int)) (_ : Unit) => [sl (dat (PyData.int letters)), sl (dat (PyData.list (List.map PyData.int s2))), un]) (fun (s2 : (List Int)) (_ : Unit) => os) B T (fun letter3 => gx_name (i := 2) (vi := 2) (φ := (dat (PyData.int letter3))) B T rfl rfl) ([] : (List Int)) () f4 h8 (ix_rng2 (gi := 0) B rfl g_range h1 ex_int (ex_add (ex_v (i := 0) (j := 0) B rfl rfl rfl) ex_int)) ⟨.inl rfl, .inl rfl, .inl rfl, trivial⟩ (fun _ _ => trivial) (fun F6 e5 s2 _ letter3 z9 hx hm => ?_) (fun _ => ?_)
  · clear h8
    obtain ⟨t7, h7, hm⟩ := bnd hm
    refine sx_asg (i := 1) (vi := 1) (φ := (dat (PyData.list (List.map PyData.int t7)))) B T rfl rfl (EN.ex (en_cat (enc := PyData.int) h7 (ex_v (i := 1) (j := 1) B rfl rfl rfl) (EN.ex (en_lst (ds := [(PyData.int letter3), (PyData.int (0 - letter3))]) (hl := len_ok (n := 2) rfl) (ax_cons (ex_v (i := 2) (j := 2) B rfl rfl rfl) (ax_cons (ex_sub ex_int (ex_v (i := 2) (j := 2) B rfl rfl rfl)) ax_nil)))))) ?_
    obtain rfl := som hm
    exact sx_nil fun σ H a => ⟨(), (a.weak ⟨.inl rfl, .inl rfl, .inr rfl, trivial⟩)⟩
  · skip
    obtain rfl := som hm
    exact sx_ret (ex_v (i := 1) (j := 1) B rfl rfl rfl) (fun F H v e o c => R.rt F H v e o c)
theorem cal_l_steps {P : Program} {w : World} {K : PySem.W.Frag} {mg : Str → Option Value} {base : Heap} {f : Addr} {fd : FuncData} (Fn : Fun K "_law_steps" "_law_steps" s_l_steps f fd) (hmg : mg "_law_steps" = some (.ref f)) (hb : Binds K fd ["_law_letters"] []) (g_range : mg "range" = none) : Cal P w K mg base 1 "_law_steps" s_l_steps ["_law_letters"] (sp_l_steps K) := by
  obtain ⟨sts_, hst_⟩ : ∃ z_, defBody s_l_steps = z_ := ⟨_, rfl⟩
  exact cal_ZQ (V := V_l_steps) (Gs := G_l_steps) (nl := 2) hst_ Fn sc_l_steps (by decide +kernel) (by decide +kernel) hmg hb (fun _ => rfl) rfl fun _ _ _ _ _ _ _ a b F0 os D B T hm R => body_l_steps rfl hst_ B T g_range a b F0 os D hm R
abbrev s_l_laid : Stmt := top 32
def N_l_laid : List Str := ["_law_doors_here", "_law_room", "_law_step", "_law_goal", "_law_here", "_law_there"]
def V_l_laid : List Str := ["_law_doors_here", "_law_room", "_law_step", "_law_goal", "_law_here", "_law_there"]
def G_l_laid : List Str := []
theorem sc_l_laid : FnScope N_l_laid ["_law_doors_here", "_law_room", "_law_step", "_law_goal"] (defScope s_l_laid) := ⟨rfl, rfl, rfl, by decide +kernel, rfl, by decide +kernel, by decide +kernel⟩
abbrev sp_l_laid (K : PySem.W.Frag) : Sp := spZ (α := (Addr × (List (List (Int × Int))) × Int × Int × Int)) (β := (Unit × (List (List (Int × Int))))) (fun a => [own a.1, (dat (PyData.int a.2.2.1)), (dat (PyData.int a.2.2.2.1)), (dat (PyData.int a.2.2.2.2))]) (fun a => (a.1, onx (List.map (odT kI PyData.int) a.2.1)) :: []) (fun a => m_l_laid a.2.1 a.2.2.1 a.2.2.2.1 a.2.2.2.2) (fun a b => (dat PyData.none)) (fun a b => (a.1, onx (List.map (odT kI PyData.int) b.2)) :: [])
set_option maxHeartbeats 4000000 in
theorem body_l_laid {X : Cx} (hsc : X.env.scope = defScope s_l_laid) {sts_ : List Stmt} (hst_ : defBody s_l_laid = sts_) (B : Bd X N_l_laid V_l_laid G_l_laid 0) (T : Bt X V_l_laid)  (q_doors_here : Addr) (w_doors_here : (List (List (Int × Int)))) (room : Int) (step : Int) (goal : Int) (b : (Unit × (List (List (Int × Int))))) (F0 : Hp) (os : Os) (D : Ends) (hm : m_l_laid w_doors_here room step goal = some b) (R : RetZ F0 ((q_doors_here, onx (List.map (odT kI PyData.int) b.2)) :: os) (dat PyData.none) D) :
    SX X [sl (own q_doors_here), sl (dat (PyData.int room)), sl (dat (PyData.int step)), sl (dat (PyData.int goal)), un, un] ((q_doors_here, onx (List.map (odT kI PyData.int) w_doors_here)) :: os) F0 sts_ D := by
  subst hst_
  unfold m_l_laid at hm
  refine sx_open 0 rfl (fun k_1 => ?_)
  obtain ⟨t2, h2, hm⟩ := bnd hm
  obtain ⟨t3, h3, hm⟩ := bnd hm
  refine sx_par2 (i := 4) (j := 5) _ hsc B rfl rfl (by decide) (by decide +kernel) (by decide +kernel) (by intro env he; cases env; cases he; first | rfl | kernel_rfl) (aq_x (ex_nst (f := (odT kI PyData.int)) (ws := w_doors_here) 0 h2 rfl (ex_v (i := 0) (j := 0) B rfl rfl rfl) (ex_v (i := 1) (j := 1) B rfl rfl rfl)) (aq_x (ex_nst (f := (odT kI PyData.int)) (ws := w_doors_here) 0 h3 rfl (ex_v (i := 0) (j := 0) B rfl rfl rfl) (ex_v (i := 3) (j := 3) B rfl rfl rfl)) aq_nil)) (fun v0 v1 os_ hr_ => ?_) (by rintro φs os_ ⟨_, rfl, _, rfl, rfl, rfl⟩; exact ⟨_, _, rfl⟩)
  obtain ⟨_, e0, _, e1, e8, e9⟩ := hr_
  cases e0; cases e1; cases e8; cases e9
  obtain ⟨t4, h4, hm⟩ := bnd hm
  obtain ⟨t5, h5, hm⟩ := bnd hm
  refine sx_dput (kd := kI) (enc := PyData.int) (w := t4) (x := goal) inj_kI h5 B (ex_v (i := 3) (j := 3) B rfl rfl rfl) (ex_v (i := 4) (j := 4) B rfl rfl rfl) (ex_v (i := 2) (j := 2) B rfl rfl rfl) (wr_nest (f := (odT kI PyData.int)) (ws := w_doors_here) 0 rfl h4) ?_
  obtain ⟨t6, h6, hm⟩ := bnd hm
  obtain ⟨t7, h7, hm⟩ := bnd hm
  refine sx_dput (kd := kI) (enc := PyData.int) (w := t6) (x := room) inj_kI h7 B (ex_v (i := 1) (j := 1) B rfl rfl rfl) (ex_v (i := 5) (j := 5) B rfl rfl rfl) (ex_sub ex_int (ex_v (i := 2) (j := 2) B rfl rfl rfl)) (wr_nest (f := (odT kI PyData.int)) (ws := (setI w_doors_here room t5)) 0 rfl h6) ?_
  obtain rfl := som hm
  exact sx_end fun F σ H e o => R.nx σ H (R.rt F H .non e (o.clos 0 rfl) (cl_dat .non))
theorem cal_l_laid {P : Program} {w : World} {K : PySem.W.Frag} {mg : Str → Option Value} {base : Heap} {f : Addr} {fd : FuncData} (Fn : Fun K "_law_laid" "_law_laid" s_l_laid f fd) (hmg : mg "_law_laid" = some (.ref f)) (hb : Binds K fd ["_law_doors_here", "_law_room", "_law_step", "_law_goal"] [])  : Cal P w K mg base 1 "_law_laid" s_l_laid ["_law_doors_here", "_law_room", "_law_step", "_law_goal"] (sp_l_laid K) := by
  obtain ⟨sts_, hst_⟩ : ∃ z_, defBody s_l_laid = z_ := ⟨_, rfl⟩
  exact cal_ZQ (V := V_l_laid) (Gs := G_l_laid) (nl := 2) hst_ Fn sc_l_laid (by decide +kernel) (by decide +kernel) hmg hb (fun _ => rfl) rfl fun _ _ _ _ _ _ _ a b F0 os D B T hm R => body_l_laid rfl hst_ B T  a.1 a.2.1 a.2.2.1 a.2.2.2.1 a.2.2.2.2 b F0 os D hm R
abbrev s_l_named : Stmt := top 33
def N_l_named : List Str := ["_law_letters", "_law_doors_here", "_law_home", "_law_turn", "_law_idle", "_law_room", "_law_here", "_law_step", "_law_there", "_law_order", "_law_at", "_law_goals", "_law_goal", "_law_rows"]
def V_l_named : List Str := ["_law_letters", "_law_doors_here", "_law_home", "_law_turn", "_law_idle", "_law_room", "_law_here", "_law_step", "_law_there", "_law_order", "_law_at", "_law_goals", "_law_goal", "_law_rows"]
def G_l_named : List Str := ["range", "len", "list", "_law_steps", "tuple"]
theorem sc_l_named : FnScope N_l_named ["_law_letters", "_law_doors_here", "_law_home"] (defScope s_l_named) := ⟨rfl, rfl, rfl, by decide +kernel, rfl, by decide +kernel, by decide +kernel⟩
abbrev sp_l_named (K : PySem.W.Frag) : Sp := spZ (α := (Int × Addr × (List (List (Int × Int))) × Int)) (β := ((Int × (List (List Int))) × (List (List (Int × Int))))) (fun a => [(dat (PyData.int a.1)), own a.2.1, (dat (PyData.int a.2.2.2))]) (fun a => (a.2.1, onx (List.map (odT kI PyData.int) a.2.2.1)) :: []) (fun a => m_l_named a.1 a.2.2.1 a.2.2.2) (fun a b => (dat (PyData.tuple [(PyData.int b.1.1), (PyData.tuple (List.map (eT PyData.int) b.1.2))]))) (fun a b => (a.2.1, onx (List.map (odT kI PyData.int) b.2)) :: [])
set_option maxHeartbeats 4000000 in
theorem body_l_named {X : Cx} (hsc : X.env.scope = defScope s_l_named) {sts_ : List Stmt} (hst_ : defBody s_l_named = sts_) (B : Bd X N_l_named V_l_named G_l_named 1) (T : Bt X V_l_named) (g_range : X.mg "range" = none) (g_len : X.mg "len" = none) (g_list : X.mg "list" = none) (c_l_steps : Cal X.prog X.w X.K X.mg X.base 1 "_law_steps" s_l_steps ["_law_letters"] (sp_l_steps X.K)) (g_tuple : X.mg "tuple" = none) (letters : Int) (q_doors_here : Addr) (w_doors_here : (List (List (Int × Int)))) (home : Int) (b : ((Int × (List (List Int))) × (List (List (Int × Int))))) (F0 : Hp) (os : Os) (D : Ends) (hm : m_l_named letters w_doors_here home = some b) (R : RetZ F0 ((q_doors_here, onx (List.map (odT kI PyData.int) b.2)) :: os) (dat (PyData.tuple [(PyData.int b.1.1), (PyData.tuple (List.map (eT PyData.int) b.1.2))])) D) :
    SX X [sl (dat (PyData.int letters)), sl (own q_doors_here), sl (dat (PyData.int home)), un, un, un, un, un, un, un, un, un, un, un] ((q_doors_here, onx (List.map (odT kI PyData.int) w_doors_here)) :: os) F0 sts_ D := by
  subst hst_
  unfold m_l_named at hm
  refine sx_open 0 rfl (fun k_1 => ?_)
  obtain ⟨t2, h2, hm⟩ := bnd hm
  obtain ⟨f5o, h36, hm⟩ := bnd hm
  refine sx_forR (c := anyOs) _ (fun (s3 : (List (List (Int × Int)))) (_ : Unit) => [sl (dat (PyData.int letters)), sl (own q_doors_here), sl (dat (PyData.int home)), un, un, un, un, un, un, un, un, un, un, un]) (fun (s3 : (List (List (Int × Int)))) (_ : Unit) => (q_doors_here, onl k_1 (List.map (odT kI PyData.int) s3)) :: os) (fun (r : ((Int × (List (List Int))) × (List (List (Int × Int))))) v H => ∃ F, Same F0 F ∧ Ow F ((q_doors_here, onx (List.map (odT kI PyData.int) r.2)) :: os) H ∧ Cl (dat (PyData.tuple [(PyData.int r.1.1), (PyData.tuple (List.map (eT PyData.int) r.1.2))])) F v) B T (fun turn4 => gx_name (i := 3) (vi := 3) (φ := (dat (PyData.int turn4))) B T rfl rfl) w_doors_here () f5o h36 (ix_rng1 (gi := 0) B rfl g_range h2 (ex_fn (j := 1) B rfl g_len (by decide +kernel) call_len_seq (rc_lenO (f := (odT kI PyData.int)) (ws := w_doors_here) 0 rfl) (ax_cons (ex_v (i := 1) (j := 1) B rfl rfl rfl) ax_nil))) ⟨.inl rfl, .inl rfl, .inl rfl, .inl rfl, .inl rfl, .inl rfl, .inl rfl, .inl rfl, .inl rfl, .inl rfl, .inl rfl, .inl rfl, .inl rfl, .inl rfl, trivial⟩ (fun _ _ => trivial) (fun F7 e6 s3 _ turn4 z83 hx hm2 => ?_) (fun f5 _ ho => ?_) (fun r82 v H ho hr => ?_)
  · clear hm h36
    have hm := hm2
    obtain ⟨t8, h8, hm⟩ := bnd hm
    obtain ⟨t13, h13, hm⟩ := bnd hm
    refine sx_asgLc (i := 4) B T rfl (by rw [hsc]; exact lcl_of (by decide +kernel)) (lc_mk1 (j := 5) (vp := fun room9 => (dat (PyData.int room9))) (c := anyOs) (enc := PyData.int) (fun (_ : Unit) (room9 : Int) => ((fun (room9 : Int) => ((if (!decide (room9 = home)) = true then ((idx s3 room9).bind fun t11 => some (decide ((t11.length : Int) = 1))) else some false).bind fun t12 => if t12 = true then some (some room9) else some none)) room9).map fun y => (y, ())) (fun (_ : Unit) (tl1 : Os) => (q_doors_here, onl k_1 (List.map (odT kI PyData.int) s3)) :: tl1) () (t13) () B rfl rfl (by rw [B.hN, hsc]; decide +kernel) (by rw [hsc]; decide +kernel) (by decide) (lcG_ok h13) (ix_rng1 (gi := 0) B rfl g_range h8 (ex_fn (j := 1) B rfl g_len (by decide +kernel) call_len_seq (rc_lenO (f := (odT kI PyData.int)) (ws := s3) 0 rfl) (ax_cons (ex_v (i := 1) (j := 1) B rfl rfl rfl) ax_nil))) (fun _ _ => trivial) (fun _ _ _ => (List.Perm.swap _ _ _)) (fun _ room9 t tl1 hx hf => by (obtain ⟨y, hy, rfl⟩ := Option.map_eq_some_iff.mp hf; obtain ⟨t12, h12, hy⟩ := bnd hy; cases hc : t12 with | true => (have hy := ifT hy hc; obtain rfl := som hy; exact ⟨true, _, fun X1 hX => by (have B1 := Bd.fam (W' := ["_law_doors_here", "_law_home", "_law_room"]) (G' := ["len"]) B hX (by (try rw [hsc]); decide +kernel); have g_len' := fam_mg hX g_len; exact ⟨.one (TX.to (WX.tx (wx_and (l := t12) (os2 := (q_doors_here, onl k_1 (List.map (odT kI PyData.int) s3)) :: tl1) (tx_cmp op_ne r2_neI (nomark _) (ex_v (i := 5) (j := 2) B1 rfl rfl rfl) (ex_v (i := 2) (j := 1) B1 rfl rfl rfl)) (fun hk => by (have hm := ifT h12 hk; obtain ⟨t11, h11, hm⟩ := bnd hm; obtain rfl := som hm; exact (wx_and1 (tx_cmp op_eq r2_eqI (nomark _) (ex_fn (j := 0) B1 rfl g_len' (by decide +kernel) call_len_d (rc_lenD (enc := PyData.int) (w := t11) (rdd_wr (wr_nest (f := (odT kI PyData.int)) (ws := s3) 0 rfl h11))) (ax_cons (ex_nst (f := (odT kI PyData.int)) (ws := s3) 0 h11 rfl (ex_v (i := 1) (j := 0) B1 rfl rfl rfl) (ex_v (i := 5) (j := 2) B1 rfl rfl rfl)) ax_nil)) ex_int)))) (fun hk => by (have hm := ifF h12 hk; obtain rfl := som hm; rfl)) (and_fix (fun hk => by (have hm := ifF h12 hk; obtain rfl := som hm; rfl))))) hc), fun _ => ⟨_, rfl, (ex_v (i := 5) (j := 2) B1 rfl rfl rfl)⟩, fun h => Bool.noConfusion h⟩)⟩) | false => (have hy := ifF hy hc; obtain rfl := som hy; exact ⟨false, _, fun X1 hX => by (have B1 := Bd.fam (W' := ["_law_doors_here", "_law_home", "_law_room"]) (G' := ["len"]) B hX (by (try rw [hsc]); decide +kernel); have g_len' := fam_mg hX g_len; exact ⟨.one (TX.to (WX.tx (wx_and (l := t12) (os2 := (q_doors_here, onl k_1 (List.map (odT kI PyData.int) s3)) :: tl1) (tx_cmp op_ne r2_neI (nomark _) (ex_v (i := 5) (j := 2) B1 rfl rfl rfl) (ex_v (i := 2) (j := 1) B1 rfl rfl rfl)) (fun hk => by (have hm := ifT h12 hk; obtain ⟨t11, h11, hm⟩ := bnd hm; obtain rfl := som hm; exact (wx_and1 (tx_cmp op_eq r2_eqI (nomark _) (ex_fn (j := 0) B1 rfl g_len' (by decide +kernel) call_len_d (rc_lenD (enc := PyData.int) (w := t11) (rdd_wr (wr_nest (f := (odT kI PyData.int)) (ws := s3) 0 rfl h11))) (ax_cons (ex_nst (f := (odT kI PyData.int)) (ws := s3) 0 h11 rfl (ex_v (i := 1) (j := 0) B1 rfl rfl rfl) (ex_v (i := 5) (j := 2) B1 rfl rfl rfl)) ax_nil)) ex_int)))) (fun hk => by (have hm := ifF h12 hk; obtain rfl := som hm; rfl)) (and_fix (fun hk => by (have hm := ifF h12 hk; obtain rfl := som hm; rfl))))) hc), fun h => Bool.noConfusion h, fun _ => ⟨rfl, rfl⟩⟩)⟩)))) (sw_ok (by rw [hsc]; decide +kernel) (by rw [hsc]; exact lcl_of (by decide +kernel)) (by decide) (by decide +kernel)) (fun q_idle13 => ?_)
    refine sx_frz (j := 0) (i := 4) rfl rfl ?_
    refine sx_if (tx_eqR (e := (eL PyData.int)) (x := t13) (y := ([] : (List Int))) B (eqv_list eqv_int) (sh_list sh_int) (by decide) rdx_dat rdx_dat (ex_v (i := 4) (j := 4) B rfl rfl rfl) (EN.ex (en_lst (ds := []) ax_nil))) (fun hk => ?_) (fun hk => ?_)
    · have hm := ifT hm hk
      exact sx_brk fun σ H a => ⟨_, (), (som hm).symm, (a.weak ⟨.inl rfl, .inl rfl, .inl rfl, .inr rfl, .inr rfl, .inl rfl, .inl rfl, .inl rfl, .inl rfl, .inl rfl, .inl rfl, .inl rfl, .inl rfl, .inl rfl, trivial⟩)⟩
    · have hm := ifF hm hk
      refine sx_fall ?_ rfl
      obtain ⟨f16, h34, hm⟩ := bnd hm
      refine sx_for (c := anyOs) _ (fun (s14 : (List (List (Int × Int)))) (_ : Unit) => [sl (dat (PyData.int letters)), sl (own q_doors_here), sl (dat (PyData.int home)), sl (dat (PyData.int turn4)), sl (dat (PyData.list (List.map PyData.int t13))), un, un, un, un, un, un, un, un, un]) (fun (s14 : (List (List (Int × Int)))) (_ : Unit) => (q_doors_here, onl k_1 (List.map (odT kI PyData.int) s14)) :: os) B T (fun room15 => gx_name (i := 5) (vi := 5) (φ := (dat (PyData.int room15))) B T rfl rfl) s3 () f16 h34 (ix_list (enc := PyData.int) (c := anyOs) (ex_v (i := 4) (j := 4) B rfl rfl rfl) (fun _ _ => rdl_dat) trivial) ⟨.inl rfl, .inl rfl, .inl rfl, .inl rfl, .inl rfl, .inl rfl, .inl rfl, .inl rfl, .inl rfl, .inl rfl, .inl rfl, .inl rfl, .inl rfl, .inl rfl, trivial⟩ (fun _ _ => trivial) (fun F18 e17 s14 _ room15 z35 hx hm => ?_) (fun _ => ?_)
      · clear h34
        obtain ⟨t19, h19, hm⟩ := bnd hm
        refine sx_asg (i := 6) (vi := 6) B T rfl rfl (ex_nst (f := (odT kI PyData.int)) (ws := s14) 0 h19 rfl (ex_v (i := 1) (j := 1) B rfl rfl rfl) (ex_v (i := 5) (j := 5) B rfl rfl rfl)) ?_
        obtain ⟨t20, h20, hm⟩ := bnd hm
        obtain ⟨f23, h31, hm⟩ := bnd hm
        refine sx_for (c := anyOs) _ (fun (s21 : (List (List (Int × Int)))) (_ : Unit) => [sl (dat (PyData.int letters)), sl (own q_doors_here), sl (dat (PyData.int home)), sl (dat (PyData.int turn4)), sl (dat (PyData.list (List.map PyData.int t13))), sl (dat (PyData.int room15)), sl (own (qa k_1 room15)), un, un, un, un, un, un, un]) (fun (s21 : (List (List (Int × Int)))) (_ : Unit) => (q_doors_here, onl k_1 (List.map (odT kI PyData.int) s21)) :: os) B T (fun step22 => gx_name (i := 7) (vi := 7) (φ := (dat (PyData.int step22))) B T rfl rfl) s14 () f23 h31 (ix_list (enc := PyData.int) (c := anyOs) (EN.ex (en_ty (j := 2) B rfl g_list (by decide +kernel) (cr_listK B.calm) (rc_listKI (enc := PyData.int) (w := t20) (rdd_wr (wr_nest (f := (odT kI PyData.int)) (ws := s14) 0 rfl h20))) (ax_cons (ex_v (i := 6) (j := 6) B rfl rfl rfl) ax_nil))) (fun _ _ => rdl_dat) trivial) ⟨.inl rfl, .inl rfl, .inl rfl, .inl rfl, .inl rfl, .inl rfl, .inl rfl, .inl rfl, .inl rfl, .inl rfl, .inl rfl, .inl rfl, .inl rfl, .inl rfl, trivial⟩ (fun _ _ => trivial) (fun F25 e24 s21 _ step22 z33 hx hm => ?_) (fun _ => ?_)
        · clear h31
          obtain ⟨t26, h26, hm⟩ := bnd hm
          obtain ⟨t27, h27, hm⟩ := bnd hm
          obtain ⟨t28, h28, hm⟩ := bnd hm
          refine sx_asg (i := 8) (vi := 8) B T rfl rfl (ex_nst (f := (odT kI PyData.int)) (ws := s21) 0 h28 rfl (ex_v (i := 1) (j := 1) B rfl rfl rfl) (ex_dget (kd := kI) (enc := PyData.int) (w := t26) inj_kI h27 B (rdd_wr (wr_nest (f := (odT kI PyData.int)) (ws := s21) 0 rfl h26)) (ex_v (i := 6) (j := 6) B rfl rfl rfl) (ex_v (i := 7) (j := 7) B rfl rfl rfl))) ?_
          obtain ⟨t29, h29, hm⟩ := bnd hm
          obtain ⟨t30, h30, hm⟩ := bnd hm
          refine sx_expr (ex_dpop (enc := PyData.int) (w := t29) inj_kI h30 (ex_v (i := 8) (j := 8) B rfl rfl rfl) (rdd_wr (wr_nest (f := (odT kI PyData.int)) (ws := s21) 0 rfl h29)) (ex_sub ex_int (ex_v (i := 7) (j := 7) B rfl rfl rfl)) (wr_nest (f := (odT kI PyData.int)) (ws := s21) 0 rfl h29)) ?_
          obtain rfl := som hm
          exact sx_nil fun σ H a => ⟨(), (a.weak ⟨.inl rfl, .inl rfl, .inl rfl, .inl rfl, .inl rfl, .inl rfl, .inl rfl, .inr rfl, .inr rfl, .inl rfl, .inl rfl, .inl rfl, .inl rfl, .inl rfl, trivial⟩)⟩
        · skip
          obtain ⟨t32, h32, hm⟩ := bnd hm
          refine sx_expr (ex_dclear (enc := PyData.int) (w := t32) (ex_v (i := 6) (j := 6) B rfl rfl rfl) (wr_nest (f := (odT kI PyData.int)) (ws := f23) 0 rfl h32)) ?_
          obtain rfl := som hm
          exact sx_nil fun σ H a => ⟨(), (a.weak ⟨.inl rfl, .inl rfl, .inl rfl, .inl rfl, .inl rfl, .inr rfl, .inr rfl, .inl rfl, .inl rfl, .inl rfl, .inl rfl, .inl rfl, .inl rfl, .inl rfl, trivial⟩)⟩
      · skip
        exact sx_nil fun σ H a => ⟨_, (), (som hm).symm, (a.weak ⟨.inl rfl, .inl rfl, .inl rfl, .inr rfl, .inr rfl, .inl rfl, .inl rfl, .inl rfl, .inl rfl, .inl rfl, .inl rfl, .inl rfl, .inl rfl, .inl rfl, trivial⟩)⟩
  · cases ho
    have hm := elimR hm
    refine sx_asgN (i := 9) (vi := 9) (n := ol (List.map PyData.int ([home]))) B T rfl rfl (en_lst (ds := [(PyData.int home)]) (hl := len_ok (n := 1) rfl) (ax_cons (ex_v (i := 2) (j := 2) B rfl rfl rfl) ax_nil)) (fun q_order36 => ?_)
    obtain ⟨t37, h37, hm⟩ := bnd hm
    obtain ⟨f40, h62, hm⟩ := bnd hm
    refine sx_for (c := anyOs) _ (fun (s38 : (List Int)) (_ : Unit) => [sl (dat (PyData.int letters)), sl (own q_doors_here), sl (dat (PyData.int home)), un, un, un, un, un, un, sl (own q_order36), un, un, un, un]) (fun (s38 : (List Int)) (_ : Unit) => (q_order36, ol (List.map PyData.int s38)) :: (q_doors_here, onl k_1 (List.map (odT kI PyData.int) f5)) :: os) B T (fun at_39 => gx_name (i := 10) (vi := 10) (φ := (dat (PyData.int at_39))) B T rfl rfl) ([home]) () f40 h62 (ix_rng1 (gi := 0) B rfl g_range h37 (ex_fn (j := 1) B rfl g_len (by decide +kernel) call_len_seq (rc_lenO (f := (odT kI PyData.int)) (ws := f5) 1 rfl) (ax_cons (ex_v (i := 1) (j := 1) B rfl rfl rfl) ax_nil))) ⟨.inl rfl, .inl rfl, .inl rfl, .inl rfl, .inl rfl, .inl rfl, .inl rfl, .inl rfl, .inl rfl, .inl rfl, .inl rfl, .inl rfl, .inl rfl, .inl rfl, trivial⟩ (fun _ _ => trivial) (fun F42 e41 s38 _ at_39 z81 hx hm => ?_) (fun _ => ?_)
    · clear h62
      obtain ⟨s61, h_s61, hm⟩ := bnd hm
      refine sx_join [sl (dat (PyData.int letters)), sl (own q_doors_here), sl (dat (PyData.int home)), un, un, un, un, un, un, sl (own q_order36), sl (dat (PyData.int at_39)), un, un, un] ((q_order36, ol (List.map PyData.int s61)) :: (q_doors_here, onl k_1 (List.map (odT kI PyData.int) f5)) :: os) (?_) (fun Q => ?_)
      · clear h_s61
        obtain rfl := som hm
        exact sx_nil fun σ H a => ⟨(), (a.weak ⟨.inl rfl, .inl rfl, .inl rfl, .inl rfl, .inl rfl, .inl rfl, .inl rfl, .inl rfl, .inl rfl, .inl rfl, .inr rfl, .inl rfl, .inl rfl, .inl rfl, trivial⟩)⟩
      · have hm := h_s61
        refine sx_if (tx_cmp op_lt r2_lt (nomark _) (ex_v (i := 10) (j := 10) B rfl rfl rfl) (EX.to (ex_fn (j := 1) B rfl g_len (by decide +kernel) call_len_seq (rc_lenL (ds := List.map PyData.int s38) (rdl_own 0 rfl)) (ax_cons (ex_v (i := 9) (j := 9) B rfl rfl rfl) ax_nil)) (by rw [List.length_map]))) (fun hk => ?_) (fun hk => ?_)
        · have hm := ifT hm hk
          obtain ⟨t43, h43, hm⟩ := bnd hm
          obtain ⟨t44, h44, hm⟩ := bnd hm
          refine sx_asg (i := 6) (vi := 6) B T rfl rfl (ex_nst (f := (odT kI PyData.int)) (ws := f5) 1 h44 rfl (ex_v (i := 1) (j := 1) B rfl rfl rfl) (ex_idxL (enc := PyData.int) h43 (rdl_own 0 rfl) (ex_v (i := 9) (j := 9) B rfl rfl rfl) (ex_v (i := 10) (j := 10) B rfl rfl rfl))) ?_
          obtain ⟨t45, h45, hm⟩ := bnd hm
          obtain ⟨t51, h51, hm⟩ := bnd hm
          refine sx_asgLc (i := 11) B T rfl (by rw [hsc]; exact lcl_of (by decide +kernel)) (lc_mk1 (j := 7) (vp := fun step46 => (dat (PyData.int step46))) (c := anyOs) (enc := PyData.int) (fun (_ : Unit) (step46 : Int) => ((fun (step46 : Int) => ((idx f5 t43).bind fun t48 => if (dGet t48 step46).isSome = true then ((idx f5 t43).bind fun t49 => (dGet t49 step46).bind fun t50 => some (some t50)) else some none)) step46).map fun y => (y, ())) (fun (_ : Unit) (tl1 : Os) => (q_order36, ol (List.map PyData.int s38)) :: (q_doors_here, onl k_1 (List.map (odT kI PyData.int) f5)) :: tl1) () (t51) () B rfl rfl (by rw [B.hN, hsc]; decide +kernel) (by rw [hsc]; decide +kernel) (by decide) (lcG_ok h51) (ix_list (enc := PyData.int) (c := anyOs) (ex_call (a := letters) (b := t45) (gi := 3) (rest := (q_order36, ol (List.map PyData.int s38)) :: (q_doors_here, onl k_1 (List.map (odT kI PyData.int) f5)) :: os) B rfl c_l_steps (by decide) h45 (ax_cons (ex_v (i := 0) (j := 0) B rfl rfl rfl) ax_nil)) (fun _ _ => rdl_dat) trivial) (fun _ _ => trivial) (fun _ _ _ => ((List.Perm.cons _ (List.Perm.swap _ _ _)).trans (List.Perm.swap _ _ _))) (fun _ step46 t tl1 hx hf => by (obtain ⟨y, hy, rfl⟩ := Option.map_eq_some_iff.mp hf; obtain ⟨t48, h48, hy⟩ := bnd hy; cases hc : ((dGet t48 step46).isSome) with | true => (have hy := ifT hy hc; obtain ⟨t49, h49, hy⟩ := bnd hy; obtain ⟨t50, h50, hy⟩ := bnd hy; obtain rfl := som hy; exact ⟨true, _, fun X1 hX => by (have B1 := Bd.fam (W' := ["_law_here", "_law_step"]) (G' := []) B hX (by (try rw [hsc]); decide +kernel); exact ⟨.one (TX.to (tx_din (kd := kI) (enc := PyData.int) (w := t48) (k := step46) inj_kI B1 (rdd_wr (wr_nest (f := (odT kI PyData.int)) (ws := f5) 1 rfl h48)) (ex_v (i := 7) (j := 1) B1 rfl rfl rfl) (ex_v (i := 6) (j := 0) B1 rfl rfl rfl)) hc), fun _ => ⟨_, rfl, (ex_dget (kd := kI) (enc := PyData.int) (w := t49) inj_kI h50 B1 (rdd_wr (wr_nest (f := (odT kI PyData.int)) (ws := f5) 1 rfl h49)) (ex_v (i := 6) (j := 0) B1 rfl rfl rfl) (ex_v (i := 7) (j := 1) B1 rfl rfl rfl))⟩, fun h => Bool.noConfusion h⟩)⟩) | false => (have hy := ifF hy hc; obtain rfl := som hy; exact ⟨false, _, fun X1 hX => by (have B1 := Bd.fam (W' := ["_law_here", "_law_step"]) (G' := []) B hX (by (try rw [hsc]); decide +kernel); exact ⟨.one (TX.to (tx_din (kd := kI) (enc := PyData.int) (w := t48) (k := step46) inj_kI B1 (rdd_wr (wr_nest (f := (odT kI PyData.int)) (ws := f5) 1 rfl h48)) (ex_v (i := 7) (j := 1) B1 rfl rfl rfl) (ex_v (i := 6) (j := 0) B1 rfl rfl rfl)) hc), fun h => Bool.noConfusion h, fun _ => ⟨rfl, rfl⟩⟩)⟩)))) (sw_ok (by rw [hsc]; decide +kernel) (by rw [hsc]; exact lcl_of (by decide +kernel)) (by decide) (by decide +kernel)) (fun q_goals51 => ?_)
          refine sx_frz (j := 0) (i := 11) rfl rfl ?_
          obtain ⟨f54, h59, hm⟩ := bnd hm
          refine sx_for (c := anyOs) _ (fun (s52 : (List Int)) (_ : Unit) => [sl (dat (PyData.int letters)), sl (own q_doors_here), sl (dat (PyData.int home)), un, un, un, sl (own (qa k_1 t43)), un, un, sl (own q_order36), sl (dat (PyData.int at_39)), sl (dat (PyData.list (List.map PyData.int t51))), un, un]) (fun (s52 : (List Int)) (_ : Unit) => (q_order36, ol (List.map PyData.int s52)) :: (q_doors_here, onl k_1 (List.map (odT kI PyData.int) f5)) :: os) B T (fun goal53 => gx_name (i := 12) (vi := 12) (φ := (dat (PyData.int goal53))) B T rfl rfl) s38 () f54 h59 (ix_list (enc := PyData.int) (c := anyOs) (ex_v (i := 11) (j := 11) B rfl rfl rfl) (fun _ _ => rdl_dat) trivial) ⟨.inl rfl, .inl rfl, .inl rfl, .inl rfl, .inl rfl, .inl rfl, .inl rfl, .inl rfl, .inl rfl, .inl rfl, .inl rfl, .inl rfl, .inl rfl, .inl rfl, trivial⟩ (fun _ _ => trivial) (fun F56 e55 s52 _ goal53 z60 hx hm => ?_) (fun _ => ?_)
          · clear h59
            obtain ⟨s58, h_s58, hm⟩ := bnd hm
            refine sx_join [sl (dat (PyData.int letters)), sl (own q_doors_here), sl (dat (PyData.int home)), un, un, un, sl (own (qa k_1 t43)), un, un, sl (own q_order36), sl (dat (PyData.int at_39)), sl (dat (PyData.list (List.map PyData.int t51))), sl (dat (PyData.int goal53)), un] ((q_order36, ol (List.map PyData.int s58)) :: (q_doors_here, onl k_1 (List.map (odT kI PyData.int) f5)) :: os) (?_) (fun Q => ?_)
            · clear h_s58
              obtain rfl := som hm
              exact sx_nil fun σ H a => ⟨(), (a.weak ⟨.inl rfl, .inl rfl, .inl rfl, .inl rfl, .inl rfl, .inl rfl, .inl rfl, .inl rfl, .inl rfl, .inl rfl, .inl rfl, .inl rfl, .inr rfl, .inl rfl, trivial⟩)⟩
            · have hm := h_s58
              refine sx_if (tx_cmp op_notIn_seq (r2_ninL (xs := s52) (rdl_own 0 rfl)) (by rfl) (ex_v (i := 12) (j := 12) B rfl rfl rfl) (ex_v (i := 9) (j := 9) B rfl rfl rfl)) (fun hk => ?_) (fun hk => ?_)
              · have hm := ifT hm hk
                obtain ⟨t57, h57, hm⟩ := bnd hm
                refine sx_expr (ex_app (enc := PyData.int) (j := 0) (xs0 := s52) (xs := s52) (y := goal53) h57 (ex_v (i := 9) (j := 9) B rfl rfl rfl) rfl (ex_v (i := 12) (j := 12) B rfl rfl rfl) rfl) ?_
                obtain rfl := som hm
                exact sx_fall Q rfl
              · have hm := ifF hm hk
                obtain rfl := som hm
                exact sx_fall Q rfl
          · skip
            obtain rfl := som hm
            exact sx_fall (SX.weak Q (by exact ⟨.inl rfl, .inl rfl, .inl rfl, .inl rfl, .inl rfl, .inl rfl, .inr rfl, .inl rfl, .inl rfl, .inl rfl, .inl rfl, .inr rfl, .inl rfl, .inl rfl, trivial⟩)) rfl
        · have hm := ifF hm hk
          obtain rfl := som hm
          exact sx_fall Q rfl
    · skip
      refine sx_frz (j := 0) (i := 9) rfl rfl ?_
      refine sx_asgN (i := 13) (vi := 13) (n := ol (List.map (eT PyData.int) ([] : (List (List Int))))) B T rfl rfl (en_lst (ds := []) ax_nil) (fun q_rows62 => ?_)
      obtain ⟨f65, h79, hm⟩ := bnd hm
      refine sx_for (c := anyOs) _ (fun (s63 : (List (List Int))) (_ : Unit) => [sl (dat (PyData.int letters)), sl (own q_doors_here), sl (dat (PyData.int home)), un, un, un, un, un, un, sl (dat (PyData.list (List.map PyData.int f40))), un, un, un, sl (own q_rows62)]) (fun (s63 : (List (List Int))) (_ : Unit) => (q_rows62, ol (List.map (eT PyData.int) s63)) :: (q_doors_here, onl k_1 (List.map (odT kI PyData.int) f5)) :: os) B T (fun room64 => gx_name (i := 5) (vi := 5) (φ := (dat (PyData.int room64))) B T rfl rfl) ([] : (List (List Int))) () f65 h79 (ix_list (enc := PyData.int) (c := anyOs) (ex_v (i := 9) (j := 9) B rfl rfl rfl) (fun _ _ => rdl_dat) trivial) ⟨.inl rfl, .inl rfl, .inl rfl, .inl rfl, .inl rfl, .inl rfl, .inl rfl, .inl rfl, .inl rfl, .inl rfl, .inl rfl, .inl rfl, .inl rfl, .inl rfl, trivial⟩ (fun _ _ => trivial) (fun F67 e66 s63 _ room64 z80 hx hm => ?_) (fun _ => ?_)
      · clear h79
        obtain ⟨t68, h68, hm⟩ := bnd hm
        refine sx_asg (i := 6) (vi := 6) B T rfl rfl (ex_nst (f := (odT kI PyData.int)) (ws := f5) 1 h68 rfl (ex_v (i := 1) (j := 1) B rfl rfl rfl) (ex_v (i := 5) (j := 5) B rfl rfl rfl)) ?_
        obtain ⟨t69, h69, hm⟩ := bnd hm
        obtain ⟨t77, h77, hm⟩ := bnd hm
        obtain ⟨t78, h78, hm⟩ := bnd hm
        refine sx_expr (ex_app (enc := (eT PyData.int)) (j := 0) (xs0 := s63) (xs := s63) (y := t77) h78 (ex_v (i := 13) (j := 13) B rfl rfl rfl) rfl (ex_ty (j := 4) B rfl g_tuple (by decide +kernel) call_tuple_of (rc_tupL (ds := List.map PyData.int t77) rdl_dat) (ax_cons (EN.ex (en_lc (lc_mk1 (j := 10) (vp := fun at_70 => (dat (PyData.int at_70))) (c := anyOs) (enc := PyData.int) (fun (_ : Unit) (at_70 : Int) => ((fun (at_70 : Int) => ((idx f5 room64).bind fun t72 => (if (dGet t72 at_70).isSome = true then ((idx f5 room64).bind fun t73 => (dGet t73 at_70).bind fun t74 => (ixOf f40 t74).bind fun t75 => some ((t75 : Nat) : Int)) else some (-1)).bind fun t76 => some t76)) at_70).map fun y => (some y, ())) (fun (_ : Unit) (tl1 : Os) => (q_rows62, ol (List.map (eT PyData.int) s63)) :: (q_doors_here, onl k_1 (List.map (odT kI PyData.int) f5)) :: tl1) () (t77) () B rfl rfl (by rw [B.hN, hsc]; decide +kernel) (by rw [hsc]; decide +kernel) (by decide) (lcO_ok h77) (ix_rng2 (gi := 0) B rfl g_range h69 ex_int (ex_add (ex_v (i := 0) (j := 0) B rfl rfl rfl) ex_int)) (fun _ _ => trivial) (fun _ _ _ => ((List.Perm.cons _ (List.Perm.swap _ _ _)).trans (List.Perm.swap _ _ _))) (fun _ at_70 t tl1 hx hf => by (obtain ⟨y, hy, rfl⟩ := Option.map_eq_some_iff.mp hf; obtain ⟨t72, h72, hy⟩ := bnd hy; obtain ⟨t76, h76, hy⟩ := bnd hy; obtain rfl := som hy; exact ⟨true, _, fun X1 hX => by (have B1 := Bd.fam (W' := ["_law_here", "_law_order", "_law_at"]) (G' := []) B hX (by (try rw [hsc]); decide +kernel); exact ⟨.nil, fun _ => ⟨_, rfl, (ex_if (tx_din (kd := kI) (enc := PyData.int) (w := t72) (k := at_70) inj_kI B1 (rdd_wr (wr_nest (f := (odT kI PyData.int)) (ws := f5) 1 rfl h72)) (ex_v (i := 10) (j := 2) B1 rfl rfl rfl) (ex_v (i := 6) (j := 0) B1 rfl rfl rfl)) (fun hk => by (have hm := ifT h76 hk; obtain ⟨t73, h73, hm⟩ := bnd hm; obtain ⟨t74, h74, hm⟩ := bnd hm; obtain ⟨t75, h75, hm⟩ := bnd hm; obtain rfl := som hm; exact (EX.to (ex_index h75 (fun _ _ => rdl_dat) (ex_v (i := 9) (j := 1) B1 rfl rfl rfl) (ex_dget (kd := kI) (enc := PyData.int) (w := t73) inj_kI h74 B1 (rdd_wr (wr_nest (f := (odT kI PyData.int)) (ws := f5) 1 rfl h73)) (ex_v (i := 6) (j := 0) B1 rfl rfl rfl) (ex_v (i := 10) (j := 2) B1 rfl rfl rfl))) (by rfl)))) (fun hk => by (have hm := ifF h76 hk; obtain rfl := som hm; exact (EX.to (EX.to (d' := PyData.int (-1)) (ex_sub ex_int ex_int) (by rfl)) (by rfl)))))⟩, fun h => Bool.noConfusion h⟩)⟩))))) ax_nil)) rfl) ?_
        obtain rfl := som hm
        exact sx_nil fun σ H a => ⟨(), (a.weak ⟨.inl rfl, .inl rfl, .inl rfl, .inl rfl, .inl rfl, .inr rfl, .inr rfl, .inl rfl, .inl rfl, .inl rfl, .inl rfl, .inl rfl, .inl rfl, .inl rfl, trivial⟩)⟩
      · skip
        refine sx_frz (j := 0) (i := 13) rfl rfl ?_
        obtain rfl := som hm
        exact sx_ret (ex_tup (ds := [(PyData.int letters), (PyData.tuple (List.map (eT PyData.int) f65))]) (hl := len_ok (n := 2) rfl) (ax_cons (ex_v (i := 0) (j := 0) B rfl rfl rfl) (ax_cons (ex_ty (j := 4) B rfl g_tuple (by decide +kernel) call_tuple_of (rc_tupL (ds := List.map (eT PyData.int) f65) rdl_dat) (ax_cons (ex_v (i := 13) (j := 13) B rfl rfl rfl) ax_nil)) ax_nil))) (fun F H v e o c => R.rt F H v e (o.clos 0 rfl) c)
  · cases ho
    have hm := elimL hm
    cases hm
theorem cal_l_named {P : Program} {w : World} {K : PySem.W.Frag} {mg : Str → Option Value} {base : Heap} {f : Addr} {fd : FuncData} (Fn : Fun K "_law_named" "_law_named" s_l_named f fd) (hmg : mg "_law_named" = some (.ref f)) (hb : Binds K fd ["_law_letters", "_law_doors_here", "_law_home"] []) (g_range : mg "range" = none) (g_len : mg "len" = none) (g_list : mg "list" = none) (c_l_steps : Cal P w K mg base 1 "_law_steps" s_l_steps ["_law_letters"] (sp_l_steps K)) (g_tuple : mg "tuple" = none) : Cal P w K mg base 2 "_law_named" s_l_named ["_law_letters", "_law_doors_here", "_law_home"] (sp_l_named K) := by
  obtain ⟨sts_, hst_⟩ : ∃ z_, defBody s_l_named = z_ := ⟨_, rfl⟩
  exact cal_ZQ (V := V_l_named) (Gs := G_l_named) (nl := 11) hst_ Fn sc_l_named (by decide +kernel) (by decide +kernel) hmg hb (fun _ => rfl) rfl fun _ _ _ _ _ _ _ a b F0 os D B T hm R => body_l_named rfl hst_ B T g_range g_len g_list c_l_steps g_tuple a.1 a.2.1 a.2.2.1 a.2.2.2 b F0 os D hm R
abbrev s_l_web : Stmt := top 34
def N_l_web : List Str := ["_law_well_here", "_law_letters", "_law_most", "_law_many", "_law_doors_here", "_law_home", "_law_room", "_law_letter", "_law_goals", "_law_few", "_law_goal", "_law_turn", "_law_gaps", "_law_step"]
def V_l_web : List Str := ["_law_well_here", "_law_letters", "_law_most", "_law_many", "_law_doors_here", "_law_home", "_law_room", "_law_letter", "_law_goals", "_law_few", "_law_goal", "_law_turn", "_law_gaps"]
def G_l_web : List Str := ["_law_take", "range", "list", "len", "_law_laid", "_law_steps", "_law_named"]
theorem sc_l_web : FnScope N_l_web ["_law_well_here", "_law_letters", "_law_most"] (defScope s_l_web) := ⟨rfl, rfl, rfl, by decide +kernel, rfl, by decide +kernel, by decide +kernel⟩
abbrev sp_l_web (K : PySem.W.Frag) : Sp := spZ (α := (Addr × (List Int) × Int × Int)) (β := ((Int × (List (List Int))) × (List Int))) (fun a => [own a.1, (dat (PyData.int a.2.2.1)), (dat (PyData.int a.2.2.2))]) (fun a => (a.1, ol (List.map PyData.int a.2.1)) :: []) (fun a => m_l_web a.2.1 a.2.2.1 a.2.2.2) (fun a b => (dat (PyData.tuple [(PyData.int b.1.1), (PyData.tuple (List.map (eT PyData.int) b.1.2))]))) (fun a b => (a.1, ol (List.map PyData.int b.2)) :: [])
set_option maxHeartbeats 4000000 in
theorem body_l_web {X : Cx} (hsc : X.env.scope = defScope s_l_web) {sts_ : List Stmt} (hst_ : defBody s_l_web = sts_) (B : Bd X N_l_web V_l_web G_l_web 2) (T : Bt X V_l_web) (c_l_take : Cal X.prog X.w X.K X.mg X.base 1 "_law_take" s_l_take ["_law_well_here", "_law_many"] (sp_l_take X.K)) (g_range : X.mg "range" = none) (g_list : X.mg "list" = none) (g_len : X.mg "len" = none) (c_l_laid : Cal X.prog X.w X.K X.mg X.base 1 "_law_laid" s_l_laid ["_law_doors_here", "_law_room", "_law_step", "_law_goal"] (sp_l_laid X.K)) (c_l_steps : Cal X.prog X.w X.K X.mg X.base 1 "_law_steps" s_l_steps ["_law_letters"] (sp_l_steps X.K)) (c_l_named : Cal X.prog X.w X.K X.mg X.base 2 "_law_named" s_l_named ["_law_letters", "_law_doors_here", "_law_home"] (sp_l_named X.K)) (q_well_here : Addr) (w_well_here : (List Int)) (letters : Int) (most : Int) (b : ((Int × (List (List Int))) × (List Int))) (F0 : Hp) (os : Os) (D : Ends) (hm : m_l_web w_well_here letters most = some b) (R : RetZ F0 ((q_well_here, ol (List.map PyData.int b.2)) :: os) (dat (PyData.tuple [(PyData.int b.1.1), (PyData.tuple (List.map (eT PyData.int) b.1.2))])) D) :
    SX X [sl (own q_well_here), sl (dat (PyData.int letters)), sl (dat (PyData.int most)), un, un, un, un, un, un, un, un, un, un, un] ((q_well_here, ol (List.map PyData.int w_well_here)) :: os) F0 sts_ D := by
  subst hst_
  unfold m_l_web at hm
  obtain ⟨t1, h1, hm⟩ := bnd hm
  refine sx_mk3 (i := 3) (j := 4) (l := 5) (vi := 3) (gi := 4) (m := 5) _ hsc B T rfl rfl rfl rfl rfl rfl (by intro env he; cases env; cases he; first | rfl | kernel_rfl) (aq_x (φ := (dat (PyData.int (1 + t1.1)))) (ex_add ex_int (ex_call (a := (q_well_here, w_well_here, most)) (b := t1) (gi := 0) (rest := os) B rfl c_l_take (by decide) h1 (ax_cons (ex_v (i := 0) (j := 0) B rfl rfl rfl) (ax_cons (ex_v (i := 2) (j := 2) B rfl rfl rfl) ax_nil)))) (aq_n (n := onx (List.map (odT kI PyData.int) ([] : (List (List (Int × Int)))))) (en_nil (f := (odT kI PyData.int))) (fun q_doors_here2 => (aq_x (φ := (dat (PyData.int 0))) ex_int aq_nil)))) (fun v0 v1 v2 os_ hr_ => ?_) (by rintro φs os_ ⟨_, rfl, q_doors_here2, _, rfl, _, rfl, rfl, rfl⟩; exact ⟨_, _, _, rfl⟩)
  obtain ⟨_, e0, q_doors_here2, _, e1, _, e2, e8, e9⟩ := hr_
  cases e0; cases e1; cases e2; cases e8; cases e9
  refine sx_open 0 rfl (fun k_3 => ?_)
  refine sx_clos 0 rfl ?_
  obtain ⟨t4, h4, hm⟩ := bnd hm
  obtain ⟨f7, h12, hm⟩ := bnd hm
  refine sx_for (c := anyOs) _ (fun (s5 : (List (List (Int × Int)))) (_ : Unit) => [sl (own q_well_here), sl (dat (PyData.int letters)), sl (dat (PyData.int most)), sl (dat (PyData.int (1 + t1.1))), sl (own q_doors_here2), sl (dat (PyData.int 0)), un, un, un, un, un, un, un, un]) (fun (s5 : (List (List (Int × Int)))) (_ : Unit) => (q_doors_here2, onx (List.map (odT kI PyData.int) s5)) :: (q_well_here, ol (List.map PyData.int t1.2)) :: os) B T (fun room6 => gx_name (i := 6) (vi := 6) (φ := (dat (PyData.int room6))) B T rfl rfl) ([] : (List (List (Int × Int)))) () f7 h12 (ix_rng1 (gi := 1) B rfl g_range h4 (ex_v (i := 3) (j := 3) B rfl rfl rfl)) ⟨.inl rfl, .inl rfl, .inl rfl, .inl rfl, .inl rfl, .inl rfl, .inl rfl, .inl rfl, .inl rfl, .inl rfl, .inl rfl, .inl rfl, .inl rfl, .inl rfl, trivial⟩ (fun _ _ => trivial) (fun F9 e8 s5 _ room6 z66 hx hm => ?_) (fun _ => ?_)
  · clear h12
    refine sx_open 0 rfl (fun k_10 => ?_)
    obtain ⟨t11, h11, hm⟩ := bnd hm
    refine sx_expr (ex_appN (f := (odT kI PyData.int)) (ws0 := s5) (ws := s5) (d0 := ([] : (List (Int × Int)))) (i := 0) (j := 0) h11 (ex_v (i := 4) (j := 4) B rfl rfl rfl) rfl (en_dnew (kd := kI)) rfl) ?_
    obtain rfl := som hm
    exact sx_nil fun σ H a => ⟨(), (a.weak ⟨.inl rfl, .inl rfl, .inl rfl, .inl rfl, .inl rfl, .inl rfl, .inr rfl, .inl rfl, .inl rfl, .inl rfl, .inl rfl, .inl rfl, .inl rfl, .inl rfl, trivial⟩)⟩
  · skip
    refine sx_open 0 rfl (fun k_13 => ?_)
    refine sx_clos 0 rfl ?_
    obtain ⟨t14, h14, hm⟩ := bnd hm
    obtain ⟨f17, h38, hm⟩ := bnd hm
    refine sx_for (c := anyOs) _ (fun (s15 : ((List (List (Int × Int))) × (List Int))) (_ : Unit) => [sl (own q_well_here), sl (dat (PyData.int letters)), sl (dat (PyData.int most)), sl (dat (PyData.int (1 + t1.1))), sl (own q_doors_here2), sl (dat (PyData.int 0)), un, un, un, un, un, un, un, un]) (fun (s15 : ((List (List (Int × Int))) × (List Int))) (_ : Unit) => (q_doors_here2, onx (List.map (odT kI PyData.int) s15.1)) :: (q_well_here, ol (List.map PyData.int s15.2)) :: os) B T (fun letter16 => gx_name (i := 7) (vi := 7) (φ := (dat (PyData.int letter16))) B T rfl rfl) (f7, t1.2) () f17 h38 (ix_rng2 (gi := 1) B rfl g_range h14 ex_int (ex_add (ex_v (i := 1) (j := 1) B rfl rfl rfl) ex_int)) ⟨.inl rfl, .inl rfl, .inl rfl, .inl rfl, .inl rfl, .inl rfl, .inl rfl, .inl rfl, .inl rfl, .inl rfl, .inl rfl, .inl rfl, .inl rfl, .inl rfl, trivial⟩ (fun _ _ => trivial) (fun F19 e18 s15 _ letter16 z65 hx hm => ?_) (fun _ => ?_)
    · clear h38
      refine sx_open 0 rfl (fun k_20 => ?_)
      obtain ⟨t21, h21, hm⟩ := bnd hm
      obtain ⟨t23, h23, hm⟩ := bnd hm
      refine sx_par2 (i := 8) (j := 9) _ hsc B rfl rfl (by decide) (by decide +kernel) (by decide +kernel) (by intro env he; cases env; cases he; first | rfl | kernel_rfl) (aq_n (n := ol (List.map PyData.int t21)) (en_rgL1 (gi := 2) (gj := 1) B rfl rfl g_list g_range h21 (ex_v (i := 3) (j := 3) B rfl rfl rfl)) (fun q_goals22 => (aq_x (φ := (dat (PyData.int t23.1))) (EX.pre (ex_call (a := (q_well_here, s15.2, 4)) (b := t23) (gi := 0) (rest := (q_goals22, ol (List.map PyData.int t21)) :: (q_doors_here2, onl k_20 (List.map (odT kI PyData.int) s15.1)) :: os) B rfl c_l_take (by decide) h23 (ax_cons (ex_v (i := 0) (j := 0) B rfl rfl rfl) (ax_cons ex_int ax_nil))) (perm_at (k := 2) rfl)) aq_nil))) (fun v0 v1 os_ hr_ => ?_) (by rintro φs os_ ⟨q_goals22, _, rfl, _, rfl, rfl, rfl⟩; exact ⟨_, _, rfl⟩)
      obtain ⟨q_goals22, _, e0, _, e1, e8, e9⟩ := hr_
      cases e0; cases e1; cases e8; cases e9
      refine sx_clos 2 rfl ?_
      obtain ⟨t24, h24, hm⟩ := bnd hm
      obtain ⟨f27, h36, hm⟩ := bnd hm
      refine sx_for (c := anyOs) _ (fun (s25 : ((List Int) × (List Int) × (List (List (Int × Int))))) (_ : Unit) => [sl (own q_well_here), sl (dat (PyData.int letters)), sl (dat (PyData.int most)), sl (dat (PyData.int (1 + t1.1))), sl (own q_doors_here2), sl (dat (PyData.int 0)), un, sl (dat (PyData.int letter16)), sl (own q_goals22), sl (dat (PyData.int t23.1)), un, un, un, un]) (fun (s25 : ((List Int) × (List Int) × (List (List (Int × Int))))) (_ : Unit) => (q_well_here, ol (List.map PyData.int s25.1)) :: (q_goals22, ol (List.map PyData.int s25.2.1)) :: (q_doors_here2, onx (List.map (odT kI PyData.int) s25.2.2)) :: os) B T (fun room26 => gx_name (i := 6) (vi := 6) (φ := (dat (PyData.int room26))) B T rfl rfl) (t23.2, t21, s15.1) () f27 h36 (ix_rng1 (gi := 1) B rfl g_range h24 (ex_v (i := 3) (j := 3) B rfl rfl rfl)) ⟨.inl rfl, .inl rfl, .inl rfl, .inl rfl, .inl rfl, .inl rfl, .inl rfl, .inl rfl, .inl rfl, .inl rfl, .inl rfl, .inl rfl, .inl rfl, .inl rfl, trivial⟩ (fun _ _ => trivial) (fun F29 e28 s25 _ room26 z37 hx hm => ?_) (fun _ => ?_)
      · clear h36
        refine sx_open 2 rfl (fun k_30 => ?_)
        obtain ⟨t31, h31, hm⟩ := bnd hm
        obtain ⟨t32, h32, hm⟩ := bnd hm
        refine sx_asg (i := 10) (vi := 10) (φ := (dat (PyData.int t32.1))) B T rfl rfl (ex_popI2 (enc := PyData.int) (m := 1) (j := 1) (xs := s25.2.1) (xs0 := s25.2.1) h32 (ex_v (i := 8) (j := 8) B rfl rfl rfl) rfl (ex_call (a := (q_well_here, s25.1, (s25.2.1.length : Int))) (b := t31) (gi := 0) (rest := (q_goals22, ol (List.map PyData.int s25.2.1)) :: (q_doors_here2, onl k_30 (List.map (odT kI PyData.int) s25.2.2)) :: os) B rfl c_l_take (by decide) h31 (ax_cons (ex_v (i := 0) (j := 0) B rfl rfl rfl) (ax_cons (EX.to (ex_fn (j := 3) B rfl g_len (by decide +kernel) call_len_seq (rc_lenL (ds := List.map PyData.int s25.2.1) (rdl_own 1 rfl)) (ax_cons (ex_v (i := 8) (j := 8) B rfl rfl rfl) ax_nil)) (by rw [List.length_map])) ax_nil))) rfl) ?_
        obtain ⟨t33, h33, hm⟩ := bnd hm
        obtain ⟨s35, h_s35, hm⟩ := bnd hm
        refine sx_join [sl (own q_well_here), sl (dat (PyData.int letters)), sl (dat (PyData.int most)), sl (dat (PyData.int (1 + t1.1))), sl (own q_doors_here2), sl (dat (PyData.int 0)), sl (dat (PyData.int room26)), sl (dat (PyData.int letter16)), sl (own q_goals22), sl (dat (PyData.int t23.1)), sl (dat (PyData.int t32.1)), un, un, un] ((q_well_here, ol (List.map PyData.int t33.2)) :: (q_goals22, ol (List.map PyData.int t32.2)) :: (q_doors_here2, onx (List.map (odT kI PyData.int) s35)) :: os) (?_) (fun Q => ?_)
        · clear h_s35
          obtain rfl := som hm
          exact sx_nil fun σ H a => ⟨(), (a.weak ⟨.inl rfl, .inl rfl, .inl rfl, .inl rfl, .inl rfl, .inl rfl, .inr rfl, .inl rfl, .inl rfl, .inl rfl, .inr rfl, .inl rfl, .inl rfl, .inl rfl, trivial⟩)⟩
        · have hm := h_s35
          refine sx_if (tx_cmp op_ge r2_ge (nomark _) (ex_call (a := (q_well_here, t31.2, 4)) (b := t33) (gi := 0) (rest := (q_goals22, ol (List.map PyData.int t32.2)) :: (q_doors_here2, onl k_30 (List.map (odT kI PyData.int) s25.2.2)) :: os) B rfl c_l_take (by decide) h33 (ax_cons (ex_v (i := 0) (j := 0) B rfl rfl rfl) (ax_cons ex_int ax_nil))) (ex_v (i := 9) (j := 9) B rfl rfl rfl)) (fun hk => ?_) (fun hk => ?_)
          · have hm := ifT hm hk
            obtain ⟨t34, h34, hm⟩ := bnd hm
            refine sx_expr (EX.clos 2 rfl (EX.pre (ex_call (a := (q_doors_here2, s25.2.2, room26, letter16, t32.1)) (b := t34) (gi := 4) (rest := (q_well_here, ol (List.map PyData.int t33.2)) :: (q_goals22, ol (List.map PyData.int t32.2)) :: os) B rfl c_l_laid (by decide) h34 (ax_cons (ex_v (i := 4) (j := 4) B rfl rfl rfl) (ax_cons (ex_v (i := 6) (j := 6) B rfl rfl rfl) (ax_cons (ex_v (i := 7) (j := 7) B rfl rfl rfl) (ax_cons (ex_v (i := 10) (j := 10) B rfl rfl rfl) ax_nil))))) (perm_at (k := 2) rfl))) ?_
            obtain rfl := som hm
            exact sx_fall ((Q.perm (perm_at (k := 2) rfl)).perm (perm_at (k := 2) rfl)) rfl
          · have hm := ifF hm hk
            obtain rfl := som hm
            exact sx_fall (Q.clos 2 rfl) rfl
      · skip
        obtain rfl := som hm
        exact sx_nil fun σ H a => ⟨(), ((((a.perm (perm_at (k := 1) rfl)).drop).perm (perm_at (k := 1) rfl)).weak ⟨.inl rfl, .inl rfl, .inl rfl, .inl rfl, .inl rfl, .inl rfl, .inl rfl, .inr rfl, .inr rfl, .inr rfl, .inl rfl, .inl rfl, .inl rfl, .inl rfl, trivial⟩)⟩
    · skip
      refine sx_open 0 rfl (fun k_39 => ?_)
      refine sx_clos 0 rfl ?_
      obtain ⟨t40, h40, hm⟩ := bnd hm
      obtain ⟨t41, h41, hm⟩ := bnd hm
      obtain ⟨t42, h42, hm⟩ := bnd hm
      obtain ⟨f45, h61, hm⟩ := bnd hm
      refine sx_for (c := anyOs) _ (fun (s43 : (Int × (List Int) × (List (List (Int × Int))))) (_ : Unit) => [sl (own q_well_here), sl (dat (PyData.int letters)), sl (dat (PyData.int most)), sl (dat (PyData.int (1 + t1.1))), sl (own q_doors_here2), sl (dat (PyData.int s43.1)), un, un, un, un, un, un, un, un]) (fun (s43 : (Int × (List Int) × (List (List (Int × Int))))) (_ : Unit) => (q_well_here, ol (List.map PyData.int s43.2.1)) :: (q_doors_here2, onx (List.map (odT kI PyData.int) s43.2.2)) :: os) B T (fun turn44 => gx_name (i := 11) (vi := 11) (φ := (dat (PyData.int turn44))) B T rfl rfl) (0, t40.2, f17.1) () f45 h61 (ix_rng1 (gi := 1) B rfl g_range h42 (ex_idxL (enc := PyData.int) h41 rdl_dat (EN.ex (en_lst (ds := [(PyData.int 0), (PyData.int 0), (PyData.int 1), (PyData.int 2)]) (hl := len_ok (n := 4) rfl) (ax_cons ex_int (ax_cons ex_int (ax_cons ex_int (ax_cons ex_int ax_nil)))))) (EX.pre (ex_call (a := (q_well_here, f17.2, 4)) (b := t40) (gi := 0) (rest := (q_doors_here2, onx (List.map (odT kI PyData.int) f17.1)) :: os) B rfl c_l_take (by decide) h40 (ax_cons (ex_v (i := 0) (j := 0) B rfl rfl rfl) (ax_cons ex_int ax_nil))) (perm_at (k := 1) rfl)))) ⟨.inl rfl, .inl rfl, .inl rfl, .inl rfl, .inl rfl, .inl rfl, .inl rfl, .inl rfl, .inl rfl, .inl rfl, .inl rfl, .inl rfl, .inl rfl, .inl rfl, trivial⟩ (fun _ _ => trivial) (fun F47 e46 s43 _ turn44 z64 hx hm => ?_) (fun _ => ?_)
      · clear h61
        refine sx_open 1 rfl (fun k_48 => ?_)
        obtain ⟨t49, h49, hm⟩ := bnd hm
        obtain ⟨t53, h53, hm⟩ := bnd hm
        refine sx_asgLc (i := 12) B T rfl (by rw [hsc]; exact lcl_of (by decide +kernel)) (lc_mk1 (j := 13) (vp := fun step50 => (dat (PyData.int step50))) (c := anyOs) (enc := PyData.int) (fun (_ : Unit) (step50 : Int) => ((fun (step50 : Int) => ((idx s43.2.2 s43.1).bind fun t52 => if (!(dGet t52 step50).isSome) = true then some (some step50) else some none)) step50).map fun y => (y, ())) (fun (_ : Unit) (tl1 : Os) => (q_well_here, ol (List.map PyData.int s43.2.1)) :: (q_doors_here2, onl k_48 (List.map (odT kI PyData.int) s43.2.2)) :: tl1) () (t53) () B rfl rfl (by rw [B.hN, hsc]; decide +kernel) (by rw [hsc]; decide +kernel) (by decide) (lcG_ok h53) (ix_list (enc := PyData.int) (c := anyOs) (ex_call (a := letters) (b := t49) (gi := 5) (rest := (q_well_here, ol (List.map PyData.int s43.2.1)) :: (q_doors_here2, onl k_48 (List.map (odT kI PyData.int) s43.2.2)) :: os) B rfl c_l_steps (by decide) h49 (ax_cons (ex_v (i := 1) (j := 1) B rfl rfl rfl) ax_nil)) (fun _ _ => rdl_dat) trivial) (fun _ _ => trivial) (fun _ _ _ => ((List.Perm.cons _ (List.Perm.swap _ _ _)).trans (List.Perm.swap _ _ _))) (fun _ step50 t tl1 hx hf => by (obtain ⟨y, hy, rfl⟩ := Option.map_eq_some_iff.mp hf; obtain ⟨t52, h52, hy⟩ := bnd hy; cases hc : (!(dGet t52 step50).isSome) with | true => (have hy := ifT hy hc; obtain rfl := som hy; exact ⟨true, _, fun X1 hX => by (have B1 := Bd.fam (W' := ["_law_doors_here", "_law_home", "_law_step"]) (G' := []) B hX (by (try rw [hsc]); decide +kernel); exact ⟨.one (TX.to (tx_dnotin (kd := kI) (enc := PyData.int) (w := t52) (k := step50) inj_kI B1 (rdd_wr (wr_nest (f := (odT kI PyData.int)) (ws := s43.2.2) 1 rfl h52)) (ex_v (i := 13) (j := 2) B1 rfl rfl rfl) (ex_nst (f := (odT kI PyData.int)) (ws := s43.2.2) 1 h52 rfl (ex_v (i := 4) (j := 0) B1 rfl rfl rfl) (ex_v (i := 5) (j := 1) B1 rfl rfl rfl))) hc), fun _ => ⟨_, rfl, (ex_v (i := 13) (j := 2) B1 rfl rfl rfl)⟩, fun h => Bool.noConfusion h⟩)⟩) | false => (have hy := ifF hy hc; obtain rfl := som hy; exact ⟨false, _, fun X1 hX => by (have B1 := Bd.fam (W' := ["_law_doors_here", "_law_home", "_law_step"]) (G' := []) B hX (by (try rw [hsc]); decide +kernel); exact ⟨.one (TX.to (tx_dnotin (kd := kI) (enc := PyData.int) (w := t52) (k := step50) inj_kI B1 (rdd_wr (wr_nest (f := (odT kI PyData.int)) (ws := s43.2.2) 1 rfl h52)) (ex_v (i := 13) (j := 2) B1 rfl rfl rfl) (ex_nst (f := (odT kI PyData.int)) (ws := s43.2.2) 1 h52 rfl (ex_v (i := 4) (j := 0) B1 rfl rfl rfl) (ex_v (i := 5) (j := 1) B1 rfl rfl rfl))) hc), fun h => Bool.noConfusion h, fun _ => ⟨rfl, rfl⟩⟩)⟩)))) (sw_ok (by rw [hsc]; decide +kernel) (by rw [hsc]; exact lcl_of (by decide +kernel)) (by decide) (by decide +kernel)) (fun q_gaps53 => ?_)
        refine sx_frz (j := 0) (i := 12) rfl rfl ?_
        obtain ⟨s60, h_s60, hm⟩ := bnd hm
        refine sx_join [sl (own q_well_here), sl (dat (PyData.int letters)), sl (dat (PyData.int most)), sl (dat (PyData.int (1 + t1.1))), sl (own q_doors_here2), sl (dat (PyData.int s60.1)), un, un, un, un, un, sl (dat (PyData.int turn44)), sl (dat (PyData.list (List.map PyData.int t53))), un] ((q_well_here, ol (List.map PyData.int s60.2.1)) :: (q_doors_here2, onx (List.map (odT kI PyData.int) s60.2.2)) :: os) (?_) (fun Q => ?_)
        · clear h_s60
          obtain rfl := som hm
          exact sx_nil fun σ H a => ⟨(), (a.weak ⟨.inl rfl, .inl rfl, .inl rfl, .inl rfl, .inl rfl, .inl rfl, .inl rfl, .inl rfl, .inl rfl, .inl rfl, .inl rfl, .inr rfl, .inr rfl, .inl rfl, trivial⟩)⟩
        · have hm := h_s60
          refine sx_if (tx_neR (e := (eL PyData.int)) (x := t53) (y := ([] : (List Int))) B (eqv_list eqv_int) (sh_list sh_int) (by decide) rdx_dat rdx_dat (ex_v (i := 12) (j := 12) B rfl rfl rfl) (EN.ex (en_lst (ds := []) ax_nil))) (fun hk => ?_) (fun hk => ?_)
          · have hm := ifT hm hk
            obtain ⟨t54, h54, hm⟩ := bnd hm
            refine sx_expr (ex_appN (f := (odT kI PyData.int)) (ws0 := s43.2.2) (ws := s43.2.2) (d0 := ([] : (List (Int × Int)))) (i := 1) (j := 1) h54 (ex_v (i := 4) (j := 4) B rfl rfl rfl) rfl (en_dnew (kd := kI)) rfl) ?_
            refine sx_open 1 rfl (fun k_55 => ?_)
            obtain ⟨t56, h56, hm⟩ := bnd hm
            obtain ⟨t57, h57, hm⟩ := bnd hm
            obtain ⟨t58, h58, hm⟩ := bnd hm
            refine sx_expr (EX.clos 1 rfl (EX.pre (ex_call (a := (q_doors_here2, t54, s43.1, t57, ((t54.length : Int) - 1))) (b := t58) (gi := 4) (rest := (q_well_here, ol (List.map PyData.int t56.2)) :: os) B rfl c_l_laid (by decide) h58 (ax_cons (ex_v (i := 4) (j := 4) B rfl rfl rfl) (ax_cons (ex_v (i := 5) (j := 5) B rfl rfl rfl) (ax_cons (ex_idxL (enc := PyData.int) h57 rdl_dat (ex_v (i := 12) (j := 12) B rfl rfl rfl) (EX.pre (ex_call (a := (q_well_here, s43.2.1, (t53.length : Int))) (b := t56) (gi := 0) (rest := (q_doors_here2, onx (List.map (odT kI PyData.int) t54)) :: os) B rfl c_l_take (by decide) h56 (ax_cons (ex_v (i := 0) (j := 0) B rfl rfl rfl) (ax_cons (EX.to (ex_fn (j := 3) B rfl g_len (by decide +kernel) call_len_seq (rc_lenL (ds := List.map PyData.int t53) rdl_dat) (ax_cons (ex_v (i := 12) (j := 12) B rfl rfl rfl) ax_nil)) (by rw [List.length_map])) ax_nil))) (perm_at (k := 1) rfl))) (ax_cons (EX.post (ex_sub (ex_fn (j := 3) B rfl g_len (by decide +kernel) call_len_seq (rc_lenOx (f := (odT kI PyData.int)) (ws := t54) 1 rfl) (ax_cons (ex_v (i := 4) (j := 4) B rfl rfl rfl) ax_nil)) ex_int) (perm_at (k := 1) rfl)) ax_nil))))) (perm_at (k := 1) rfl))) ?_
            refine sx_open 0 rfl (fun k_59 => ?_)
            refine sx_asg (i := 5) (vi := 5) (φ := (dat (PyData.int ((t58.2.length : Int) - 1)))) B T rfl rfl (ex_sub (ex_fn (j := 3) B rfl g_len (by decide +kernel) call_len_seq (rc_lenO (f := (odT kI PyData.int)) (ws := t58.2) 0 rfl) (ax_cons (ex_v (i := 4) (j := 4) B rfl rfl rfl) ax_nil)) ex_int) ?_
            obtain rfl := som hm
            exact sx_fall ((Q.perm (perm_at (k := 1) rfl)).clos 0 rfl) rfl
          · have hm := ifF hm hk
            obtain rfl := som hm
            exact sx_fall (Q.clos 1 rfl) rfl
      · skip
        refine sx_open 1 rfl (fun k_62 => ?_)
        obtain ⟨t63, h63, hm⟩ := bnd hm
        obtain rfl := som hm
        exact sx_ret (EX.clos 1 rfl (EX.pre (ex_call (a := (letters, q_doors_here2, f45.2.2, f45.1)) (b := t63) (gi := 6) (rest := (q_well_here, ol (List.map PyData.int f45.2.1)) :: os) B rfl c_l_named (by decide) h63 (ax_cons (ex_v (i := 1) (j := 1) B rfl rfl rfl) (ax_cons (ex_v (i := 4) (j := 4) B rfl rfl rfl) (ax_cons (ex_v (i := 5) (j := 5) B rfl rfl rfl) ax_nil)))) (perm_at (k := 1) rfl))) (fun F H v e o c => R.rt F H v e (o.drop) c)
theorem cal_l_web {P : Program} {w : World} {K : PySem.W.Frag} {mg : Str → Option Value} {base : Heap} {f : Addr} {fd : FuncData} (Fn : Fun K "_law_web" "_law_web" s_l_web f fd) (hmg : mg "_law_web" = some (.ref f)) (hb : Binds K fd ["_law_well_here", "_law_letters", "_law_most"] []) (c_l_take : Cal P w K mg base 1 "_law_take" s_l_take ["_law_well_here", "_law_many"] (sp_l_take K)) (g_range : mg "range" = none) (g_list : mg "list" = none) (g_len : mg "len" = none) (c_l_laid : Cal P w K mg base 1 "_law_laid" s_l_laid ["_law_doors_here", "_law_room", "_law_step", "_law_goal"] (sp_l_laid K)) (c_l_steps : Cal P w K mg base 1 "_law_steps" s_l_steps ["_law_letters"] (sp_l_steps K)) (c_l_named : Cal P w K mg base 2 "_law_named" s_l_named ["_law_letters", "_law_doors_here", "_law_home"] (sp_l_named K)) : Cal P w K mg base 3 "_law_web" s_l_web ["_law_well_here", "_law_letters", "_law_most"] (sp_l_web K) := by
  obtain ⟨sts_, hst_⟩ : ∃ z_, defBody s_l_web = z_ := ⟨_, rfl⟩
  exact cal_ZQ (V := V_l_web) (Gs := G_l_web) (nl := 11) hst_ Fn sc_l_web (by decide +kernel) (by decide +kernel) hmg hb (fun _ => rfl) rfl fun _ _ _ _ _ _ _ a b F0 os D B T hm R => body_l_web rfl hst_ B T c_l_take g_range g_list g_len c_l_laid c_l_steps c_l_named a.1 a.2.1 a.2.2.1 a.2.2.2 b F0 os D hm R
abbrev s_l_doors : Stmt := top 35
def N_l_doors : List Str := ["_law_web_here", "_law_found", "_law_room", "_law_row", "_law_at", "_law_goal"]
def V_l_doors : List Str := ["_law_web_here", "_law_found", "_law_room", "_law_row", "_law_at", "_law_goal"]
def G_l_doors : List Str := ["enumerate", "_law_laid"]
theorem sc_l_doors : FnScope N_l_doors ["_law_web_here"] (defScope s_l_doors) := ⟨rfl, rfl, rfl, by decide +kernel, rfl, by decide +kernel, by decide +kernel⟩
abbrev sp_l_doors (K : PySem.W.Frag) : Sp := spZ (α := (Int × (List (List Int)))) (β := (List (List (Int × Int)))) (fun a => [(dat (PyData.tuple [(PyData.int a.1), (PyData.tuple (List.map (eT PyData.int) a.2))]))]) (fun a => []) (fun a => m_l_doors a) (fun a b => (dat (PyData.list (List.map (eD kI PyData.int) b)))) (fun a b => [])
set_option maxHeartbeats 4000000 in
theorem body_l_doors {X : Cx} (hsc : X.env.scope = defScope s_l_doors) {sts_ : List Stmt} (hst_ : defBody s_l_doors = sts_) (B : Bd X N_l_doors V_l_doors G_l_doors 1) (T : Bt X V_l_doors) (g_enumerate : X.mg "enumerate" = none) (c_l_laid : Cal X.prog X.w X.K X.mg X.base 1 "_law_laid" s_l_laid ["_law_doors_here", "_law_room", "_law_step", "_law_goal"] (sp_l_laid X.K)) (web_here : (Int × (List (List Int)))) (b : (List (List (Int × Int)))) (F0 : Hp) (os : Os) (D : Ends) (hm : m_l_doors web_here = some b) (R : RetZ F0 (os) (dat (PyData.list (List.map (eD kI PyData.int) b))) D) :
    SX X [sl (dat (PyData.tuple [(PyData.int web_here.1), (PyData.tuple (List.map (eT PyData.int) web_here.2))])), un, un, un, un, un] (os) F0 sts_ D := by
  subst hst_
  unfold m_l_doors at hm
  obtain ⟨z2, h3, hm⟩ := bnd hm
  obtain ⟨t4, h4, hm⟩ := bnd hm
  refine sx_asgLcN (i := 1) B T rfl (by rw [hsc]; exact lcl_of (by decide +kernel)) (f := (odT kI PyData.int)) (m := (fun (row1 : (List Int)) => (some ([] : (List (Int × Int))) : Option (List (Int × Int)))))  (cp_mk1 (j := 3) (vp := fun row1 => (dat (PyData.tuple (List.map PyData.int row1)))) (c := anyOs) B rfl rfl (by rw [B.hN, hsc]; decide +kernel) (by rw [hsc]; decide +kernel) (lenO_ok h3) (ix_tup (enc := (eT PyData.int)) (ex_ixT rdt_dat (by rfl) (ex_v (i := 0) (j := 0) B rfl rfl rfl) ex_int) rdt_dat) (fun _ => trivial)) h4 (fun row1 t q1 hx hf X1 hX => by (obtain rfl := som hf; have B1 := Bd.fam (W' := []) (G' := []) B hX (by (try rw [hsc]); decide +kernel); exact (en_dnew (kd := kI)))) (sw_ok (by rw [hsc]; decide +kernel) (by rw [hsc]; exact lcl_of (by decide +kernel)) (by decide) (by decide +kernel)) (fun q_found4 => ?_)
  refine sx_open 0 rfl (fun k_5 => ?_)
  refine sx_clos 0 rfl ?_
  obtain ⟨f8, h22, hm⟩ := bnd hm
  refine sx_for (c := anyOs) _ (fun (s6 : (List (List (Int × Int)))) (_ : Unit) => [sl (dat (PyData.tuple [(PyData.int web_here.1), (PyData.tuple (List.map (eT PyData.int) web_here.2))])), sl (own q_found4), un, un, un, un]) (fun (s6 : (List (List (Int × Int)))) (_ : Unit) => (q_found4, onx (List.map (odT kI PyData.int) s6)) :: os) B T (fun x7 => gx_pair B (gx_name (i := 2) (vi := 2) (φ := (dat (PyData.int x7.1))) B T rfl rfl) (gx_name (i := 3) (vi := 3) (φ := (dat (PyData.tuple (List.map PyData.int x7.2)))) B T rfl rfl)) t4 () f8 h22 (ix_enumT (enc := (eT PyData.int)) (gi := 0) B rfl g_enumerate (ex_ixT rdt_dat (by rfl) (ex_v (i := 0) (j := 0) B rfl rfl rfl) ex_int) rdt_dat) ⟨.inl rfl, .inl rfl, .inl rfl, .inl rfl, .inl rfl, .inl rfl, trivial⟩ (fun _ _ => trivial) (fun F10 e9 s6 _ x7 z24 hx hm => ?_) (fun _ => ?_)
  · clear h22
    refine sx_open 0 rfl (fun k_11 => ?_)
    refine sx_clos 0 rfl ?_
    obtain ⟨f14, h20, hm⟩ := bnd hm
    refine sx_for (c := anyOs) _ (fun (s12 : (List (List (Int × Int)))) (_ : Unit) => [sl (dat (PyData.tuple [(PyData.int web_here.1), (PyData.tuple (List.map (eT PyData.int) web_here.2))])), sl (own q_found4), sl (dat (PyData.int x7.1)), sl (dat (PyData.tuple (List.map PyData.int x7.2))), un, un]) (fun (s12 : (List (List (Int × Int)))) (_ : Unit) => (q_found4, onx (List.map (odT kI PyData.int) s12)) :: os) B T (fun x13 => gx_pair B (gx_name (i := 4) (vi := 4) (φ := (dat (PyData.int x13.1))) B T rfl rfl) (gx_name (i := 5) (vi := 5) (φ := (dat (PyData.int x13.2))) B T rfl rfl)) s6 () f14 h20 (ix_enumT (enc := PyData.int) (gi := 0) B rfl g_enumerate (ex_v (i := 3) (j := 3) B rfl rfl rfl) rdt_dat) ⟨.inl rfl, .inl rfl, .inl rfl, .inl rfl, .inl rfl, .inl rfl, trivial⟩ (fun _ _ => trivial) (fun F16 e15 s12 _ x13 z21 hx hm => ?_) (fun _ => ?_)
    · clear h20
      refine sx_open 0 rfl (fun k_17 => ?_)
      obtain ⟨s19, h_s19, hm⟩ := bnd hm
      refine sx_join [sl (dat (PyData.tuple [(PyData.int web_here.1), (PyData.tuple (List.map (eT PyData.int) web_here.2))])), sl (own q_found4), sl (dat (PyData.int x7.1)), sl (dat (PyData.tuple (List.map PyData.int x7.2))), sl (dat (PyData.int x13.1)), sl (dat (PyData.int x13.2))] ((q_found4, onx (List.map (odT kI PyData.int) s19)) :: os) (?_) (fun Q => ?_)
      · clear h_s19
        obtain rfl := som hm
        exact sx_nil fun σ H a => ⟨(), (a.weak ⟨.inl rfl, .inl rfl, .inl rfl, .inl rfl, .inr rfl, .inr rfl, trivial⟩)⟩
      · have hm := h_s19
        refine sx_if (tx_cmp op_ge r2_ge (nomark _) (ex_v (i := 5) (j := 5) B rfl rfl rfl) ex_int) (fun hk => ?_) (fun hk => ?_)
        · have hm := ifT hm hk
          obtain ⟨t18, h18, hm⟩ := bnd hm
          refine sx_expr (EX.clos 0 rfl (ex_call (a := (q_found4, s12, x7.1, (x13.1 + 1), x13.2)) (b := t18) (gi := 1) (rest := os) B rfl c_l_laid (by decide) h18 (ax_cons (ex_v (i := 1) (j := 1) B rfl rfl rfl) (ax_cons (ex_v (i := 2) (j := 2) B rfl rfl rfl) (ax_cons (ex_add (ex_v (i := 4) (j := 4) B rfl rfl rfl) ex_int) (ax_cons (ex_v (i := 5) (j := 5) B rfl rfl rfl) ax_nil)))))) ?_
          obtain rfl := som hm
          exact sx_fall Q rfl
        · have hm := ifF hm hk
          obtain rfl := som hm
          exact sx_fall (Q.clos 0 rfl) rfl
    · skip
      obtain rfl := som hm
      exact sx_nil fun σ H a => ⟨(), (a.weak ⟨.inl rfl, .inl rfl, .inr rfl, .inr rfl, .inl rfl, .inl rfl, trivial⟩)⟩
  · skip
    refine sx_open 0 rfl (fun k_23 => ?_)
    refine sx_frzF (j := 0) (i := 1) (frb_onl (fun _ => frb_od)) rfl rfl ?_
    obtain rfl := som hm
    exact sx_ret (ex_v (i := 1) (j := 1) B rfl rfl rfl) (fun F H v e o c => R.rt F H v e o c)
theorem cal_l_doors {P : Program} {w : World} {K : PySem.W.Frag} {mg : Str → Option Value} {base : Heap} {f : Addr} {fd : FuncData} (Fn : Fun K "_law_doors" "_law_doors" s_l_doors f fd) (hmg : mg "_law_doors" = some (.ref f)) (hb : Binds K fd ["_law_web_here"] []) (g_enumerate : mg "enumerate" = none) (c_l_laid : Cal P w K mg base 1 "_law_laid" s_l_laid ["_law_doors_here", "_law_room", "_law_step", "_law_goal"] (sp_l_laid K)) : Cal P w K mg base 2 "_law_doors" s_l_doors ["_law_web_here"] (sp_l_doors K) := by
  obtain ⟨sts_, hst_⟩ : ∃ z_, defBody s_l_doors = z_ := ⟨_, rfl⟩
  exact cal_ZQ (V := V_l_doors) (Gs := G_l_doors) (nl := 5) hst_ Fn sc_l_doors (by decide +kernel) (by decide +kernel) hmg hb (fun _ => rfl) rfl fun _ _ _ _ _ _ _ a b F0 os D B T hm R => body_l_doors rfl hst_ B T g_enumerate c_l_laid a b F0 os D hm R
abbrev s_l_firsts : Stmt := top 36
def N_l_firsts : List Str := ["_law_web_here", "_law_doors_here", "_law_found", "_law_order", "_law_at", "_law_here", "_law_step"]
def V_l_firsts : List Str := ["_law_web_here", "_law_doors_here", "_law_found", "_law_order", "_law_at", "_law_here", "_law_step"]
def G_l_firsts : List Str := ["_law_doors", "range", "len", "_law_steps"]
theorem sc_l_firsts : FnScope N_l_firsts ["_law_web_here"] (defScope s_l_firsts) := ⟨rfl, rfl, rfl, by decide +kernel, rfl, by decide +kernel, by decide +kernel⟩
abbrev sp_l_firsts (K : PySem.W.Frag) : Sp := spZ (α := (Int × (List (List Int)))) (β := (List (Int × (List Int)))) (fun a => [(dat (PyData.tuple [(PyData.int a.1), (PyData.tuple (List.map (eT PyData.int) a.2))]))]) (fun a => []) (fun a => m_l_firsts a) (fun a b => (dat (Kd.pd kI (eM (eT PyData.int) b)))) (fun a b => [])
set_option maxHeartbeats 4000000 in
theorem body_l_firsts {X : Cx} (hsc : X.env.scope = defScope s_l_firsts) {sts_ : List Stmt} (hst_ : defBody s_l_firsts = sts_) (B : Bd X N_l_firsts V_l_firsts G_l_firsts 2) (T : Bt X V_l_firsts) (c_l_doors : Cal X.prog X.w X.K X.mg X.base 2 "_law_doors" s_l_doors ["_law_web_here"] (sp_l_doors X.K)) (g_range : X.mg "range" = none) (g_len : X.mg "len" = none) (c_l_steps : Cal X.prog X.w X.K X.mg X.base 1 "_law_steps" s_l_steps ["_law_letters"] (sp_l_steps X.K)) (web_here : (Int × (List (List Int)))) (b : (List (Int × (List Int)))) (F0 : Hp) (os : Os) (D : Ends) (hm : m_l_firsts web_here = some b) (R : RetZ F0 (os) (dat (Kd.pd kI (eM (eT PyData.int) b))) D) :
    SX X [sl (dat (PyData.tuple [(PyData.int web_here.1), (PyData.tuple (List.map (eT PyData.int) web_here.2))])), un, un, un, un, un, un] (os) F0 sts_ D := by
  subst hst_
  unfold m_l_firsts at hm
  obtain ⟨t1, h1, hm⟩ := bnd hm
  refine sx_par3 (i := 1) (j := 2) (l := 3) _ hsc B rfl rfl rfl (by decide) (by decide) (by decide) (by decide +kernel) (by decide +kernel) (by decide +kernel) (by intro env he; cases env; cases he; first | rfl | kernel_rfl) (aq_x (φ := (dat (PyData.list (List.map (eD kI PyData.int) t1)))) (ex_call (a := web_here) (b := t1) (gi := 0) (rest := os) B rfl c_l_doors (by decide) h1 (ax_cons (ex_v (i := 0) (j := 0) B rfl rfl rfl) ax_nil)) (aq_n (n := od kI (eM (eT PyData.int) ([(0, ([] : (List Int)))]))) (en_disp1 (f := Sum.inl) (enc := (eT PyData.int)) (k' := 0) (x' := ([] : (List Int))) inj_kI (fun qd => ex_int) (fun qd => (ex_tup (ds := []) ax_nil))) (fun q_found2 => (aq_n (n := ol (List.map PyData.int ([0]))) (en_lst (ds := [(PyData.int 0)]) (hl := len_ok (n := 1) rfl) (ax_cons ex_int ax_nil)) (fun q_order3 => aq_nil))))) (fun v0 v1 v2 os_ hr_ => ?_) (by rintro φs os_ ⟨_, rfl, q_found2, _, rfl, q_order3, _, rfl, rfl, rfl⟩; exact ⟨_, _, _, rfl⟩)
  obtain ⟨_, e0, q_found2, _, e1, q_order3, _, e2, e8, e9⟩ := hr_
  cases e0; cases e1; cases e2; cases e8; cases e9
  obtain ⟨t4, h4, hm⟩ := bnd hm
  obtain ⟨f7, h30, hm⟩ := bnd hm
  refine sx_for (c := anyOs) _ (fun (s5 : ((List Int) × (List (Int × (List Int))))) (_ : Unit) => [sl (dat (PyData.tuple [(PyData.int web_here.1), (PyData.tuple (List.map (eT PyData.int) web_here.2))])), sl (dat (PyData.list (List.map (eD kI PyData.int) t1))), sl (own q_found2), sl (own q_order3), un, un, un]) (fun (s5 : ((List Int) × (List (Int × (List Int))))) (_ : Unit) => (q_order3, ol (List.map PyData.int s5.1)) :: (q_found2, od kI (eM (eT PyData.int) s5.2)) :: os) B T (fun at_6 => gx_name (i := 4) (vi := 4) (φ := (dat (PyData.int at_6))) B T rfl rfl) ([0], [(0, ([] : (List Int)))]) () f7 h30 (ix_rng1 (gi := 1) B rfl g_range h4 (EX.to (ex_fn (j := 2) B rfl g_len (by decide +kernel) call_len_seq (rc_lenT (ds := List.map (eT PyData.int) web_here.2) rdt_dat) (ax_cons (ex_ixT rdt_dat (by rfl) (ex_v (i := 0) (j := 0) B rfl rfl rfl) ex_int) ax_nil)) (by rw [List.length_map]))) ⟨.inl rfl, .inl rfl, .inl rfl, .inl rfl, .inl rfl, .inl rfl, .inl rfl, trivial⟩ (fun _ _ => trivial) (fun F9 e8 s5 _ at_6 z31 hx hm => ?_) (fun _ => ?_)
  · clear h30
    obtain ⟨t10, h10, hm⟩ := bnd hm
    obtain ⟨t11, h11, hm⟩ := bnd hm
    refine sx_asg (i := 5) (vi := 5) (φ := (dat (Kd.pd kI (eM PyData.int t11)))) B T rfl rfl (ex_idxL (enc := (eD kI PyData.int)) h11 rdl_dat (ex_v (i := 1) (j := 1) B rfl rfl rfl) (ex_idxL (enc := PyData.int) h10 (rdl_own 0 rfl) (ex_v (i := 3) (j := 3) B rfl rfl rfl) (ex_v (i := 4) (j := 4) B rfl rfl rfl))) ?_
    obtain ⟨t12, h12, hm⟩ := bnd hm
    obtain ⟨f15, h28, hm⟩ := bnd hm
    refine sx_for (c := anyOs) _ (fun (s13 : ((List Int) × (List (Int × (List Int))))) (_ : Unit) => [sl (dat (PyData.tuple [(PyData.int web_here.1), (PyData.tuple (List.map (eT PyData.int) web_here.2))])), sl (dat (PyData.list (List.map (eD kI PyData.int) t1))), sl (own q_found2), sl (own q_order3), sl (dat (PyData.int at_6)), sl (dat (Kd.pd kI (eM PyData.int t11))), un]) (fun (s13 : ((List Int) × (List (Int × (List Int))))) (_ : Unit) => (q_order3, ol (List.map PyData.int s13.1)) :: (q_found2, od kI (eM (eT PyData.int) s13.2)) :: os) B T (fun step14 => gx_name (i := 6) (vi := 6) (φ := (dat (PyData.int step14))) B T rfl rfl) (s5.1, s5.2) () f15 h28 (ix_list (enc := PyData.int) (c := anyOs) (ex_call (a := web_here.1) (b := t12) (gi := 3) (rest := (q_order3, ol (List.map PyData.int s5.1)) :: (q_found2, od kI (eM (eT PyData.int) s5.2)) :: os) B rfl c_l_steps (by decide) h12 (ax_cons (ex_ixT rdt_dat (by rfl) (ex_v (i := 0) (j := 0) B rfl rfl rfl) ex_int) ax_nil)) (fun _ _ => rdl_dat) trivial) ⟨.inl rfl, .inl rfl, .inl rfl, .inl rfl, .inl rfl, .inl rfl, .inl rfl, trivial⟩ (fun _ _ => trivial) (fun F17 e16 s13 _ step14 z29 hx hm => ?_) (fun _ => ?_)
    · clear h28
      obtain ⟨t19, h19, hm⟩ := bnd hm
      obtain ⟨s27, h_s27, hm⟩ := bnd hm
      refine sx_join [sl (dat (PyData.tuple [(PyData.int web_here.1), (PyData.tuple (List.map (eT PyData.int) web_here.2))])), sl (dat (PyData.list (List.map (eD kI PyData.int) t1))), sl (own q_found2), sl (own q_order3), sl (dat (PyData.int at_6)), sl (dat (Kd.pd kI (eM PyData.int t11))), sl (dat (PyData.int step14))] ((q_order3, ol (List.map PyData.int s27.1)) :: (q_found2, od kI (eM (eT PyData.int) s27.2)) :: os) (?_) (fun Q => ?_)
      · clear h_s27
        obtain rfl := som hm
        exact sx_nil fun σ H a => ⟨(), (a.weak ⟨.inl rfl, .inl rfl, .inl rfl, .inl rfl, .inl rfl, .inl rfl, .inr rfl, trivial⟩)⟩
      · have hm := h_s27
        refine sx_if (WX.tx (wx_and (l := t19) (os2 := (q_order3, ol (List.map PyData.int s13.1)) :: (q_found2, od kI (eM (eT PyData.int) s13.2)) :: os) (tx_din (kd := kI) (enc := PyData.int) (w := t11) (k := step14) inj_kI B rdd_dat (ex_v (i := 6) (j := 6) B rfl rfl rfl) (ex_v (i := 5) (j := 5) B rfl rfl rfl)) (fun hk => by (have hm := ifT h19 hk; obtain ⟨t18, h18, hm⟩ := bnd hm; obtain rfl := som hm; exact (wx_and1 (tx_dnotin (kd := kI) (enc := (eT PyData.int)) (w := s13.2) (k := t18) inj_kI B (rdd_own 1 rfl) (ex_dget (kd := kI) (enc := PyData.int) (w := t11) inj_kI h18 B rdd_dat (ex_v (i := 5) (j := 5) B rfl rfl rfl) (ex_v (i := 6) (j := 6) B rfl rfl rfl)) (ex_v (i := 2) (j := 2) B rfl rfl rfl))))) (fun hk => by (have hm := ifF h19 hk; obtain rfl := som hm; rfl)) (and_fix (fun hk => by (have hm := ifF h19 hk; obtain rfl := som hm; rfl))))) (fun hk => ?_) (fun hk => ?_)
        · have hm := ifT hm hk
          obtain ⟨t20, h20, hm⟩ := bnd hm
          obtain ⟨t21, h21, hm⟩ := bnd hm
          obtain ⟨t22, h22, hm⟩ := bnd hm
          obtain ⟨t23, h23, hm⟩ := bnd hm
          obtain ⟨t24, h24, hm⟩ := bnd hm
          refine sx_dput (kd := kI) (enc := (eT PyData.int)) (w := s13.2) (x := t22) inj_kI h24 B (ex_catT (enc := PyData.int) h22 (ex_dget (kd := kI) (enc := (eT PyData.int)) (w := s13.2) inj_kI h21 B (rdd_own 1 rfl) (ex_v (i := 2) (j := 2) B rfl rfl rfl) (ex_idxL (enc := PyData.int) h20 (rdl_own 0 rfl) (ex_v (i := 3) (j := 3) B rfl rfl rfl) (ex_v (i := 4) (j := 4) B rfl rfl rfl))) (ex_tup (ds := [(PyData.int step14)]) (hl := len_ok (n := 1) rfl) (ax_cons (ex_v (i := 6) (j := 6) B rfl rfl rfl) ax_nil))) (ex_v (i := 2) (j := 2) B rfl rfl rfl) (ex_dget (kd := kI) (enc := PyData.int) (w := t11) inj_kI h23 B rdd_dat (ex_v (i := 5) (j := 5) B rfl rfl rfl) (ex_v (i := 6) (j := 6) B rfl rfl rfl)) (wr_flat (f := (odT kI (eT PyData.int))) (d := s13.2) 1 rfl) ?_
          obtain ⟨t25, h25, hm⟩ := bnd hm
          obtain ⟨t26, h26, hm⟩ := bnd hm
          refine sx_expr (ex_app (enc := PyData.int) (j := 0) (xs0 := s13.1) (xs := s13.1) (y := t25) h26 (ex_v (i := 3) (j := 3) B rfl rfl rfl) rfl (ex_dget (kd := kI) (enc := PyData.int) (w := t11) inj_kI h25 B rdd_dat (ex_v (i := 5) (j := 5) B rfl rfl rfl) (ex_v (i := 6) (j := 6) B rfl rfl rfl)) rfl) ?_
          obtain rfl := som hm
          exact sx_fall Q rfl
        · have hm := ifF hm hk
          obtain rfl := som hm
          exact sx_fall Q rfl
    · skip
      obtain rfl := som hm
      exact sx_nil fun σ H a => ⟨(), (a.weak ⟨.inl rfl, .inl rfl, .inl rfl, .inl rfl, .inr rfl, .inr rfl, .inl rfl, trivial⟩)⟩
  · skip
    refine sx_frzF (j := 1) (i := 2) frb_od rfl rfl ?_
    obtain rfl := som hm
    exact sx_ret (ex_v (i := 2) (j := 2) B rfl rfl rfl) (fun F H v e o c => R.rt F H v e (o.drop) c)
theorem cal_l_firsts {P : Program} {w : World} {K : PySem.W.Frag} {mg : Str → Option Value} {base : Heap} {f : Addr} {fd : FuncData} (Fn : Fun K "_law_firsts" "_law_firsts" s_l_firsts f fd) (hmg : mg "_law_firsts" = some (.ref f)) (hb : Binds K fd ["_law_web_here"] []) (c_l_doors : Cal P w K mg base 2 "_law_doors" s_l_doors ["_law_web_here"] (sp_l_doors K)) (g_range : mg "range" = none) (g_len : mg "len" = none) (c_l_steps : Cal P w K mg base 1 "_law_steps" s_l_steps ["_law_letters"] (sp_l_steps K)) : Cal P w K mg base 3 "_law_firsts" s_l_firsts ["_law_web_here"] (sp_l_firsts K) := by
  obtain ⟨sts_, hst_⟩ : ∃ z_, defBody s_l_firsts = z_ := ⟨_, rfl⟩
  exact cal_ZQ (V := V_l_firsts) (Gs := G_l_firsts) (nl := 6) hst_ Fn sc_l_firsts (by decide +kernel) (by decide +kernel) hmg hb (fun _ => rfl) rfl fun _ _ _ _ _ _ _ a b F0 os D B T hm R => body_l_firsts rfl hst_ B T c_l_doors g_range g_len c_l_steps a b F0 os D hm R
abbrev s_l_back : Stmt := top 37
def N_l_back : List Str := ["_law_walk", "_law_step"]
def V_l_back : List Str := ["_law_walk"]
def G_l_back : List Str := ["tuple"]
theorem sc_l_back : FnScope N_l_back ["_law_walk"] (defScope s_l_back) := ⟨rfl, rfl, rfl, by decide +kernel, rfl, by decide +kernel, by decide +kernel⟩
abbrev sp_l_back (K : PySem.W.Frag) : Sp := spZ (α := (List Int)) (β := (List Int)) (fun a => [(dat (PyData.tuple (List.map PyData.int a)))]) (fun a => []) (fun a => m_l_back a) (fun a b => (dat (PyData.tuple (List.map PyData.int b)))) (fun a b => [])
set_option maxHeartbeats 4000000 in
theorem body_l_back {X : Cx} (hsc : X.env.scope = defScope s_l_back) {sts_ : List Stmt} (hst_ : defBody s_l_back = sts_) (B : Bd X N_l_back V_l_back G_l_back 0) (T : Bt X V_l_back) (g_tuple : X.mg "tuple" = none) (walk : (List Int)) (b : (List Int)) (F0 : Hp) (os : Os) (D : Ends) (hm : m_l_back walk = some b) (R : RetZ F0 (os) (dat (PyData.tuple (List.map PyData.int b))) D) :
    SX X [sl (dat (PyData.tuple (List.map PyData.int walk))), un] (os) F0 sts_ D := by
  subst hst_
  unfold m_l_back at hm
  obtain ⟨t3, h3, hm⟩ := bnd hm
  obtain rfl := som hm
  exact sx_ret (ex_ty (j := 0) B rfl g_tuple (by decide +kernel) call_tuple_of (rc_tupL (ds := List.map PyData.int t3) rdl_dat) (ax_cons (EN.ex (en_lc (lc_mk1 (j := 1) (vp := fun step1 => (dat (PyData.int step1))) (c := anyOs) (enc := PyData.int) (fun (_ : Unit) (step1 : Int) => some (some (0 - step1), ())) (fun (_ : Unit) (tl1 : Os) => tl1) () (t3) () B rfl rfl (by rw [B.hN, hsc]; decide +kernel) (by rw [hsc]; decide +kernel) (by decide) (lcT_ok h3) (ix_tup (enc := PyData.int) (ex_revT (enc := PyData.int) rdt_dat (ex_v (i := 0) (j := 0) B rfl rfl rfl)) rdt_dat) (fun _ _ => trivial) (fun _ _ _ => List.Perm.refl _) (fun _ step1 t tl1 hx hf => by (obtain rfl := som hf; exact ⟨true, _, fun X1 hX => by (have B1 := Bd.fam (W' := ["_law_step"]) (G' := []) B hX (by (try rw [hsc]); decide +kernel); exact ⟨.nil, fun _ => ⟨_, rfl, (ex_sub ex_int (ex_v (i := 1) (j := 0) B1 rfl rfl rfl))⟩, fun h => Bool.noConfusion h⟩)⟩))))) ax_nil)) (fun F H v e o c => R.rt F H v e o c)
theorem cal_l_back {P : Program} {w : World} {K : PySem.W.Frag} {mg : Str → Option Value} {base : Heap} {f : Addr} {fd : FuncData} (Fn : Fun K "_law_back" "_law_back" s_l_back f fd) (hmg : mg "_law_back" = some (.ref f)) (hb : Binds K fd ["_law_walk"] []) (g_tuple : mg "tuple" = none) : Cal P w K mg base 1 "_law_back" s_l_back ["_law_walk"] (sp_l_back K) := by
  obtain ⟨sts_, hst_⟩ : ∃ z_, defBody s_l_back = z_ := ⟨_, rfl⟩
  exact cal_ZQ (V := V_l_back) (Gs := G_l_back) (nl := 1) hst_ Fn sc_l_back (by decide +kernel) (by decide +kernel) hmg hb (fun _ => rfl) rfl fun _ _ _ _ _ _ _ a b F0 os D B T hm R => body_l_back rfl hst_ B T g_tuple a b F0 os D hm R
abbrev s_l_ways : Stmt := top 38
def N_l_ways : List Str := ["_law_web_here", "_law_found", "_law_room", "_law_row", "_law_at", "_law_goal"]
def V_l_ways : List Str := ["_law_web_here", "_law_found", "_law_room", "_law_row"]
def G_l_ways : List Str := ["enumerate"]
theorem sc_l_ways : FnScope N_l_ways ["_law_web_here"] (defScope s_l_ways) := ⟨rfl, rfl, rfl, by decide +kernel, rfl, by decide +kernel, by decide +kernel⟩
abbrev sp_l_ways (K : PySem.W.Frag) : Sp := spZ (α := (Int × (List (List Int)))) (β := (List (Tri Int Int Int))) (fun a => [(dat (PyData.tuple [(PyData.int a.1), (PyData.tuple (List.map (eT PyData.int) a.2))]))]) (fun a => []) (fun a => m_l_ways a) (fun a b => (dat (PyData.list (List.map (eP3 PyData.int PyData.int PyData.int) b)))) (fun a b => [])
set_option maxHeartbeats 4000000 in
theorem body_l_ways {X : Cx} (hsc : X.env.scope = defScope s_l_ways) {sts_ : List Stmt} (hst_ : defBody s_l_ways = sts_) (B : Bd X N_l_ways V_l_ways G_l_ways 0) (T : Bt X V_l_ways) (g_enumerate : X.mg "enumerate" = none) (web_here : (Int × (List (List Int)))) (b : (List (Tri Int Int Int))) (F0 : Hp) (os : Os) (D : Ends) (hm : m_l_ways web_here = some b) (R : RetZ F0 (os) (dat (PyData.list (List.map (eP3 PyData.int PyData.int PyData.int) b))) D) :
    SX X [sl (dat (PyData.tuple [(PyData.int web_here.1), (PyData.tuple (List.map (eT PyData.int) web_here.2))])), un, un, un, un, un] (os) F0 sts_ D := by
  subst hst_
  unfold m_l_ways at hm
  refine sx_asg (i := 1) (vi := 1) (φ := (dat (PyData.list (List.map (eP3 PyData.int PyData.int PyData.int) ([] : (List (Tri Int Int Int))))))) B T rfl rfl (EN.ex (en_lst (ds := []) ax_nil)) ?_
  obtain ⟨f3, h10, hm⟩ := bnd hm
  refine sx_for (c := anyOs) _ (fun (s1 : (List (Tri Int Int Int))) (_ : Unit) => [sl (dat (PyData.tuple [(PyData.int web_here.1), (PyData.tuple (List.map (eT PyData.int) web_here.2))])), sl (dat (PyData.list (List.map (eP3 PyData.int PyData.int PyData.int) s1))), un, un, un, un]) (fun (s1 : (List (Tri Int Int Int))) (_ : Unit) => os) B T (fun x2 => gx_pair B (gx_name (i := 2) (vi := 2) (φ := (dat (PyData.int x2.1))) B T rfl rfl) (gx_name (i := 3) (vi := 3) (φ := (dat (PyData.tuple (List.map PyData.int x2.2)))) B T rfl rfl)) ([] : (List (Tri Int Int Int))) () f3 h10 (ix_enumT (enc := (eT PyData.int)) (gi := 0) B rfl g_enumerate (ex_ixT rdt_dat (by rfl) (ex_v (i := 0) (j := 0) B rfl rfl rfl) ex_int) rdt_dat) ⟨.inl rfl, .inl rfl, .inl rfl, .inl rfl, .inl rfl, .inl rfl, trivial⟩ (fun _ _ => trivial) (fun F5 e4 s1 _ x2 z11 hx hm => ?_) (fun _ => ?_)
  · clear h10
    obtain ⟨t8, h8, hm⟩ := bnd hm
    obtain ⟨t9, h9, hm⟩ := bnd hm
    refine sx_asg (i := 1) (vi := 1) (φ := (dat (PyData.list (List.map (eP3 PyData.int PyData.int PyData.int) t9)))) B T rfl rfl (EN.ex (en_cat (enc := (eP3 PyData.int PyData.int PyData.int)) h9 (ex_v (i := 1) (j := 1) B rfl rfl rfl) (EN.ex (en_lc (lc_mk2 (i := 4) (j := 5) (d1 := fun x6 => (PyData.int x6.1)) (d2 := fun x6 => (PyData.int x6.2)) (c := anyOs) (enc := (eP3 PyData.int PyData.int PyData.int)) (fun (_ : Unit) (x6 : (Int × Int)) => some (if (decide (0 ≤ x6.2)) = true then some (Tri.mk x2.1 (x6.1 + 1) x6.2) else none, ())) (fun (_ : Unit) (tl1 : Os) => tl1) () (t8) () B rfl rfl (by decide) rfl rfl (by rw [B.hN, hsc]; decide +kernel) (by rw [hsc]; decide +kernel) (by rw [hsc]; decide +kernel) (by decide) (lcF_ok h8) (ix_enumT (enc := PyData.int) (gi := 0) B rfl g_enumerate (ex_v (i := 3) (j := 3) B rfl rfl rfl) rdt_dat) (fun _ _ => trivial) (fun _ _ _ => List.Perm.refl _) (fun _ x6 t tl1 hx hf => by (obtain rfl := som hf; exact ⟨(decide (0 ≤ x6.2)), _, fun X1 hX => by (have B1 := Bd.fam (W' := ["_law_room", "_law_at", "_law_goal"]) (G' := []) B hX (by (try rw [hsc]); decide +kernel); exact ⟨.one (tx_cmp op_ge r2_ge (nomark _) (ex_v (i := 5) (j := 2) B1 rfl rfl rfl) ex_int), fun h => ⟨_, if_pos h, (ex_tup (ds := [(PyData.int x2.1), (PyData.int (x6.1 + 1)), (PyData.int x6.2)]) (hl := len_ok (n := 3) rfl) (ax_cons (ex_v (i := 2) (j := 0) B1 rfl rfl rfl) (ax_cons (ex_add (ex_v (i := 4) (j := 1) B1 rfl rfl rfl) ex_int) (ax_cons (ex_v (i := 5) (j := 2) B1 rfl rfl rfl) ax_nil))))⟩, fun h => ⟨(by first | exact if_neg (by rw [h]; exact Bool.false_ne_true) | rfl), rfl⟩⟩)⟩))))))) ?_
    obtain rfl := som hm
    exact sx_nil fun σ H a => ⟨(), (a.weak ⟨.inl rfl, .inl rfl, .inr rfl, .inr rfl, .inl rfl, .inl rfl, trivial⟩)⟩
  · skip
    obtain rfl := som hm
    exact sx_ret (ex_v (i := 1) (j := 1) B rfl rfl rfl) (fun F H v e o c => R.rt F H v e o c)
theorem cal_l_ways {P : Program} {w : World} {K : PySem.W.Frag} {mg : Str → Option Value} {base : Heap} {f : Addr} {fd : FuncData} (Fn : Fun K "_law_ways" "_law_ways" s_l_ways f fd) (hmg : mg "_law_ways" = some (.ref f)) (hb : Binds K fd ["_law_web_here"] []) (g_enumerate : mg "enumerate" = none) : Cal P w K mg base 1 "_law_ways" s_l_ways ["_law_web_here"] (sp_l_ways K) := by
  obtain ⟨sts_, hst_⟩ : ∃ z_, defBody s_l_ways = z_ := ⟨_, rfl⟩
  exact cal_ZQ (V := V_l_ways) (Gs := G_l_ways) (nl := 5) hst_ Fn sc_l_ways (by decide +kernel) (by decide +kernel) hmg hb (fun _ => rfl) rfl fun _ _ _ _ _ _ _ a b F0 os D B T hm R => body_l_ways rfl hst_ B T g_enumerate a b F0 os D hm R
abbrev s_l_tree : Stmt := top 39
def N_l_tree : List Str := ["_law_web_here", "_law_firsts_here", "_law_found", "_law_room", "_law_letter", "_law_goal"]
def V_l_tree : List Str := ["_law_web_here", "_law_firsts_here", "_law_found", "_law_room", "_law_letter", "_law_goal"]
def G_l_tree : List Str := ["_law_firsts", "_law_ways"]
theorem sc_l_tree : FnScope N_l_tree ["_law_web_here"] (defScope s_l_tree) := ⟨rfl, rfl, rfl, by decide +kernel, rfl, by decide +kernel, by decide +kernel⟩
abbrev sp_l_tree (K : PySem.W.Frag) : Sp := spZ (α := (Int × (List (List Int)))) (β := (List (Tri Int Int Int))) (fun a => [(dat (PyData.tuple [(PyData.int a.1), (PyData.tuple (List.map (eT PyData.int) a.2))]))]) (fun a => []) (fun a => m_l_tree a) (fun a b => (dat (PyData.list (List.map (eP3 PyData.int PyData.int PyData.int) b)))) (fun a b => [])
set_option maxHeartbeats 4000000 in
theorem body_l_tree {X : Cx} (hsc : X.env.scope = defScope s_l_tree) {sts_ : List Stmt} (hst_ : defBody s_l_tree = sts_) (B : Bd X N_l_tree V_l_tree G_l_tree 3) (T : Bt X V_l_tree) (c_l_firsts : Cal X.prog X.w X.K X.mg X.base 3 "_law_firsts" s_l_firsts ["_law_web_here"] (sp_l_firsts X.K)) (c_l_ways : Cal X.prog X.w X.K X.mg X.base 1 "_law_ways" s_l_ways ["_law_web_here"] (sp_l_ways X.K)) (web_here : (Int × (List (List Int)))) (b : (List (Tri Int Int Int))) (F0 : Hp) (os : Os) (D : Ends) (hm : m_l_tree web_here = some b) (R : RetZ F0 (os) (dat (PyData.list (List.map (eP3 PyData.int PyData.int PyData.int) b))) D) :
    SX X [sl (dat (PyData.tuple [(PyData.int web_here.1), (PyData.tuple (List.map (eT PyData.int) web_here.2))])), un, un, un, un, un] (os) F0 sts_ D := by
  subst hst_
  unfold m_l_tree at hm
  obtain ⟨t1, h1, hm⟩ := bnd hm
  refine sx_par2 (i := 1) (j := 2) _ hsc B rfl rfl (by decide) (by decide +kernel) (by decide +kernel) (by intro env he; cases env; cases he; first | rfl | kernel_rfl) (aq_x (φ := (dat (Kd.pd kI (eM (eT PyData.int) t1)))) (ex_call (a := web_here) (b := t1) (gi := 0) (rest := os) B rfl c_l_firsts (by decide) h1 (ax_cons (ex_v (i := 0) (j := 0) B rfl rfl rfl) ax_nil)) (aq_n (n := ol (List.map (eP3 PyData.int PyData.int PyData.int) ([] : (List (Tri Int Int Int))))) (en_lst (ds := []) ax_nil) (fun q_found2 => aq_nil))) (fun v0 v1 os_ hr_ => ?_) (by rintro φs os_ ⟨_, rfl, q_found2, _, rfl, rfl, rfl⟩; exact ⟨_, _, rfl⟩)
  obtain ⟨_, e0, q_found2, _, e1, e8, e9⟩ := hr_
  cases e0; cases e1; cases e8; cases e9
  obtain ⟨t3, h3, hm⟩ := bnd hm
  obtain ⟨f6, h18, hm⟩ := bnd hm
  refine sx_for (c := anyOs) _ (fun (s4 : (List (Tri Int Int Int))) (_ : Unit) => [sl (dat (PyData.tuple [(PyData.int web_here.1), (PyData.tuple (List.map (eT PyData.int) web_here.2))])), sl (dat (Kd.pd kI (eM (eT PyData.int) t1))), sl (own q_found2), un, un, un]) (fun (s4 : (List (Tri Int Int Int))) (_ : Unit) => (q_found2, ol (List.map (eP3 PyData.int PyData.int PyData.int) s4)) :: os) B T (fun x5 => gx_triple B (gx_name (i := 3) (vi := 3) (φ := (dat (PyData.int x5.a))) B T rfl rfl) (gx_name (i := 4) (vi := 4) (φ := (dat (PyData.int x5.b))) B T rfl rfl) (gx_name (i := 5) (vi := 5) (φ := (dat (PyData.int x5.c))) B T rfl rfl)) ([] : (List (Tri Int Int Int))) () f6 h18 (ix_list (enc := (eP3 PyData.int PyData.int PyData.int)) (c := anyOs) (ex_call (a := web_here) (b := t3) (gi := 1) (rest := (q_found2, ol (List.map (eP3 PyData.int PyData.int PyData.int) ([] : (List (Tri Int Int Int))))) :: os) B rfl c_l_ways (by decide) h3 (ax_cons (ex_v (i := 0) (j := 0) B rfl rfl rfl) ax_nil)) (fun _ _ => rdl_dat) trivial) ⟨.inl rfl, .inl rfl, .inl rfl, .inl rfl, .inl rfl, .inl rfl, trivial⟩ (fun _ _ => trivial) (fun F8 e7 s4 _ x5 z19 hx hm => ?_) (fun _ => ?_)
  · clear h18
    obtain ⟨t9, h9, hm⟩ := bnd hm
    obtain ⟨t10, h10, hm⟩ := bnd hm
    obtain ⟨t11, h11, hm⟩ := bnd hm
    obtain ⟨t15, h15, hm⟩ := bnd hm
    obtain ⟨s17, h_s17, hm⟩ := bnd hm
    refine sx_join [sl (dat (PyData.tuple [(PyData.int web_here.1), (PyData.tuple (List.map (eT PyData.int) web_here.2))])), sl (dat (Kd.pd kI (eM (eT PyData.int) t1))), sl (own q_found2), sl (dat (PyData.int x5.a)), sl (dat (PyData.int x5.b)), sl (dat (PyData.int x5.c))] ((q_found2, ol (List.map (eP3 PyData.int PyData.int PyData.int) s17)) :: os) (?_) (fun Q => ?_)
    · clear h_s17
      obtain rfl := som hm
      exact sx_nil fun σ H a => ⟨(), (a.weak ⟨.inl rfl, .inl rfl, .inl rfl, .inr rfl, .inr rfl, .inr rfl, trivial⟩)⟩
    · have hm := h_s17
      refine sx_if (WX.tx (wx_or (l := t15) (os2 := (q_found2, ol (List.map (eP3 PyData.int PyData.int PyData.int) s4)) :: os) (tx_eqR (e := (eT PyData.int)) (x := t9) (y := t11) B (eqv_tup eqv_int) (sh_tup sh_int) (by decide) rdx_dat rdx_dat (ex_dget (kd := kI) (enc := (eT PyData.int)) (w := t1) inj_kI h9 B rdd_dat (ex_v (i := 1) (j := 1) B rfl rfl rfl) (ex_v (i := 5) (j := 5) B rfl rfl rfl)) (ex_catT (enc := PyData.int) h11 (ex_dget (kd := kI) (enc := (eT PyData.int)) (w := t1) inj_kI h10 B rdd_dat (ex_v (i := 1) (j := 1) B rfl rfl rfl) (ex_v (i := 3) (j := 3) B rfl rfl rfl)) (ex_tup (ds := [(PyData.int x5.b)]) (hl := len_ok (n := 1) rfl) (ax_cons (ex_v (i := 4) (j := 4) B rfl rfl rfl) ax_nil)))) (fun hk => by (have hm := ifF h15 hk; obtain ⟨t12, h12, hm⟩ := bnd hm; obtain ⟨t13, h13, hm⟩ := bnd hm; obtain ⟨t14, h14, hm⟩ := bnd hm; obtain rfl := som hm; exact (wx_or1 (tx_eqR (e := (eT PyData.int)) (x := t12) (y := t14) B (eqv_tup eqv_int) (sh_tup sh_int) (by decide) rdx_dat rdx_dat (ex_dget (kd := kI) (enc := (eT PyData.int)) (w := t1) inj_kI h12 B rdd_dat (ex_v (i := 1) (j := 1) B rfl rfl rfl) (ex_v (i := 3) (j := 3) B rfl rfl rfl)) (ex_catT (enc := PyData.int) h14 (ex_dget (kd := kI) (enc := (eT PyData.int)) (w := t1) inj_kI h13 B rdd_dat (ex_v (i := 1) (j := 1) B rfl rfl rfl) (ex_v (i := 5) (j := 5) B rfl rfl rfl)) (ex_tup (ds := [(PyData.int (0 - x5.b))]) (hl := len_ok (n := 1) rfl) (ax_cons (ex_sub ex_int (ex_v (i := 4) (j := 4) B rfl rfl rfl)) ax_nil))))))) (fun hk => by (have hm := ifT h15 hk; obtain rfl := som hm; rfl)) (or_fix (fun hk => by (have hm := ifT h15 hk; obtain rfl := som hm; rfl))))) (fun hk => ?_) (fun hk => ?_)
      · have hm := ifT hm hk
        obtain ⟨t16, h16, hm⟩ := bnd hm
        refine sx_expr (ex_app (enc := (eP3 PyData.int PyData.int PyData.int)) (j := 0) (xs0 := s4) (xs := s4) (y := (Tri.mk x5.a x5.b x5.c)) h16 (ex_v (i := 2) (j := 2) B rfl rfl rfl) rfl (ex_tup (ds := [(PyData.int x5.a), (PyData.int x5.b), (PyData.int x5.c)]) (hl := len_ok (n := 3) rfl) (ax_cons (ex_v (i := 3) (j := 3) B rfl rfl rfl) (ax_cons (ex_v (i := 4) (j := 4) B rfl rfl rfl) (ax_cons (ex_v (i := 5) (j := 5) B rfl rfl rfl) ax_nil)))) rfl) ?_
        obtain rfl := som hm
        exact sx_fall Q rfl
      · have hm := ifF hm hk
        obtain rfl := som hm
        exact sx_fall Q rfl
  · skip
    refine sx_frz (j := 0) (i := 2) rfl rfl ?_
    obtain rfl := som hm
    exact sx_ret (ex_v (i := 2) (j := 2) B rfl rfl rfl) (fun F H v e o c => R.rt F H v e o c)
theorem cal_l_tree {P : Program} {w : World} {K : PySem.W.Frag} {mg : Str → Option Value} {base : Heap} {f : Addr} {fd : FuncData} (Fn : Fun K "_law_tree" "_law_tree" s_l_tree f fd) (hmg : mg "_law_tree" = some (.ref f)) (hb : Binds K fd ["_law_web_here"] []) (c_l_firsts : Cal P w K mg base 3 "_law_firsts" s_l_firsts ["_law_web_here"] (sp_l_firsts K)) (c_l_ways : Cal P w K mg base 1 "_law_ways" s_l_ways ["_law_web_here"] (sp_l_ways K)) : Cal P w K mg base 4 "_law_tree" s_l_tree ["_law_web_here"] (sp_l_tree K) := by
  obtain ⟨sts_, hst_⟩ : ∃ z_, defBody s_l_tree = z_ := ⟨_, rfl⟩
  exact cal_ZQ (V := V_l_tree) (Gs := G_l_tree) (nl := 5) hst_ Fn sc_l_tree (by decide +kernel) (by decide +kernel) hmg hb (fun _ => rfl) rfl fun _ _ _ _ _ _ _ a b F0 os D B T hm R => body_l_tree rfl hst_ B T c_l_firsts c_l_ways a b F0 os D hm R
abbrev s_l_others : Stmt := top 40
def N_l_others : List Str := ["_law_web_here", "_law_known", "_law_way"]
def V_l_others : List Str := ["_law_web_here", "_law_known"]
def G_l_others : List Str := ["_law_tree", "_law_ways"]
theorem sc_l_others : FnScope N_l_others ["_law_web_here"] (defScope s_l_others) := ⟨rfl, rfl, rfl, by decide +kernel, rfl, by decide +kernel, by decide +kernel⟩
abbrev sp_l_others (K : PySem.W.Frag) : Sp := spZ (α := (Int × (List (List Int)))) (β := (List (Tri Int Int Int))) (fun a => [(dat (PyData.tuple [(PyData.int a.1), (PyData.tuple (List.map (eT PyData.int) a.2))]))]) (fun a => []) (fun a => m_l_others a) (fun a b => (dat (PyData.list (List.map (eP3 PyData.int PyData.int PyData.int) b)))) (fun a b => [])
set_option maxHeartbeats 4000000 in
theorem body_l_others {X : Cx} (hsc : X.env.scope = defScope s_l_others) {sts_ : List Stmt} (hst_ : defBody s_l_others = sts_) (B : Bd X N_l_others V_l_others G_l_others 4) (T : Bt X V_l_others) (c_l_tree : Cal X.prog X.w X.K X.mg X.base 4 "_law_tree" s_l_tree ["_law_web_here"] (sp_l_tree X.K)) (c_l_ways : Cal X.prog X.w X.K X.mg X.base 1 "_law_ways" s_l_ways ["_law_web_here"] (sp_l_ways X.K)) (web_here : (Int × (List (List Int)))) (b : (List (Tri Int Int Int))) (F0 : Hp) (os : Os) (D : Ends) (hm : m_l_others web_here = some b) (R : RetZ F0 (os) (dat (PyData.list (List.map (eP3 PyData.int PyData.int PyData.int) b))) D) :
    SX X [sl (dat (PyData.tuple [(PyData.int web_here.1), (PyData.tuple (List.map (eT PyData.int) web_here.2))])), un, un] (os) F0 sts_ D := by
  subst hst_
  unfold m_l_others at hm
  obtain ⟨t1, h1, hm⟩ := bnd hm
  refine sx_asg (i := 1) (vi := 1) (φ := (dat (PyData.list (List.map (eP3 PyData.int PyData.int PyData.int) t1)))) B T rfl rfl (ex_call (a := web_here) (b := t1) (gi := 0) (rest := os) B rfl c_l_tree (by decide) h1 (ax_cons (ex_v (i := 0) (j := 0) B rfl rfl rfl) ax_nil)) ?_
  obtain ⟨t2, h2, hm⟩ := bnd hm
  obtain ⟨t5, h5, hm⟩ := bnd hm
  obtain rfl := som hm
  exact sx_ret (EN.ex (en_lc (lc_mk1 (j := 2) (vp := fun way3 => (dat (PyData.tuple [(PyData.int way3.a), (PyData.int way3.b), (PyData.int way3.c)]))) (c := anyOs) (enc := (eP3 PyData.int PyData.int PyData.int)) (fun (_ : Unit) (way3 : (Tri Int Int Int)) => some (if (!hasD t1 way3) = true then some way3 else none, ())) (fun (_ : Unit) (tl1 : Os) => tl1) () (t5) () B rfl rfl (by rw [B.hN, hsc]; decide +kernel) (by rw [hsc]; decide +kernel) (by decide) (lcF_ok h5) (ix_list (enc := (eP3 PyData.int PyData.int PyData.int)) (c := anyOs) (ex_call (a := web_here) (b := t2) (gi := 1) (rest := os) B rfl c_l_ways (by decide) h2 (ax_cons (ex_v (i := 0) (j := 0) B rfl rfl rfl) ax_nil)) (fun _ _ => rdl_dat) trivial) (fun _ _ => trivial) (fun _ _ _ => List.Perm.refl _) (fun _ way3 t tl1 hx hf => by (obtain rfl := som hf; exact ⟨(!hasD t1 way3), _, fun X1 hX => by (have B1 := Bd.fam (W' := ["_law_known", "_law_way"]) (G' := []) B hX (by (try rw [hsc]); decide +kernel); exact ⟨.one (tx_ninD (e := (eP3 PyData.int PyData.int PyData.int)) (x := way3) (xs := t1) B1 (eqv_tri eqv_int eqv_int eqv_int) (sh_tri sh_int sh_int sh_int) (by decide) rdx_dat rdx_dat (by rfl) (ex_v (i := 2) (j := 1) B1 rfl rfl rfl) (ex_v (i := 1) (j := 0) B1 rfl rfl rfl)), fun h => ⟨_, if_pos h, (ex_v (i := 2) (j := 1) B1 rfl rfl rfl)⟩, fun h => ⟨(by first | exact if_neg (by rw [h]; exact Bool.false_ne_true) | rfl), rfl⟩⟩)⟩))))) (fun F H v e o c => R.rt F H v e o c)
theorem cal_l_others {P : Program} {w : World} {K : PySem.W.Frag} {mg : Str → Option Value} {base : Heap} {f : Addr} {fd : FuncData} (Fn : Fun K "_law_others" "_law_others" s_l_others f fd) (hmg : mg "_law_others" = some (.ref f)) (hb : Binds K fd ["_law_web_here"] []) (c_l_tree : Cal P w K mg base 4 "_law_tree" s_l_tree ["_law_web_here"] (sp_l_tree K)) (c_l_ways : Cal P w K mg base 1 "_law_ways" s_l_ways ["_law_web_here"] (sp_l_ways K)) : Cal P w K mg base 5 "_law_others" s_l_others ["_law_web_here"] (sp_l_others K) := by
  obtain ⟨sts_, hst_⟩ : ∃ z_, defBody s_l_others = z_ := ⟨_, rfl⟩
  exact cal_ZQ (V := V_l_others) (Gs := G_l_others) (nl := 2) hst_ Fn sc_l_others (by decide +kernel) (by decide +kernel) hmg hb (fun _ => rfl) rfl fun _ _ _ _ _ _ _ a b F0 os D B T hm R => body_l_others rfl hst_ B T c_l_tree c_l_ways a b F0 os D hm R
abbrev s_l_basis : Stmt := top 41
def N_l_basis : List Str := ["_law_web_here", "_law_firsts_here", "_law_a", "_law_s", "_law_b"]
def V_l_basis : List Str := ["_law_web_here", "_law_firsts_here"]
def G_l_basis : List Str := ["_law_firsts", "_law_others"]
theorem sc_l_basis : FnScope N_l_basis ["_law_web_here"] (defScope s_l_basis) := ⟨rfl, rfl, rfl, by decide +kernel, rfl, by decide +kernel, by decide +kernel⟩
abbrev sp_l_basis (K : PySem.W.Frag) : Sp := spZ (α := (Int × (List (List Int)))) (β := (List (List Int))) (fun a => [(dat (PyData.tuple [(PyData.int a.1), (PyData.tuple (List.map (eT PyData.int) a.2))]))]) (fun a => []) (fun a => m_l_basis a) (fun a b => (dat (PyData.list (List.map (eT PyData.int) b)))) (fun a b => [])
set_option maxHeartbeats 4000000 in
theorem body_l_basis {X : Cx} (hsc : X.env.scope = defScope s_l_basis) {sts_ : List Stmt} (hst_ : defBody s_l_basis = sts_) (B : Bd X N_l_basis V_l_basis G_l_basis 5) (T : Bt X V_l_basis) (c_l_firsts : Cal X.prog X.w X.K X.mg X.base 3 "_law_firsts" s_l_firsts ["_law_web_here"] (sp_l_firsts X.K)) (c_l_others : Cal X.prog X.w X.K X.mg X.base 5 "_law_others" s_l_others ["_law_web_here"] (sp_l_others X.K)) (c_l_straight : Cal X.prog X.w X.K X.mg X.base 1 "_law_straight" s_l_straight ["_law_walk"] (sp_l_straight X.K)) (c_l_back : Cal X.prog X.w X.K X.mg X.base 1 "_law_back" s_l_back ["_law_walk"] (sp_l_back X.K)) (web_here : (Int × (List (List Int)))) (b : (List (List Int))) (F0 : Hp) (os : Os) (D : Ends) (hm : m_l_basis web_here = some b) (R : RetZ F0 (os) (dat (PyData.list (List.map (eT PyData.int) b))) D) :
    SX X [sl (dat (PyData.tuple [(PyData.int web_here.1), (PyData.tuple (List.map (eT PyData.int) web_here.2))])), un, un, un, un] (os) F0 sts_ D := by
  subst hst_
  unfold m_l_basis at hm
  obtain ⟨t1, h1, hm⟩ := bnd hm
  refine sx_asg (i := 1) (vi := 1) (φ := (dat (Kd.pd kI (eM (eT PyData.int) t1)))) B T rfl rfl (ex_call (a := web_here) (b := t1) (gi := 0) (rest := os) B rfl c_l_firsts (by decide) h1 (ax_cons (ex_v (i := 0) (j := 0) B rfl rfl rfl) ax_nil)) ?_
  obtain ⟨t2, h2, hm⟩ := bnd hm
  obtain ⟨t11, h11, hm⟩ := bnd hm
  obtain rfl := som hm
  exact sx_ret (EN.ex (en_lc (lc_mk3 (i := 2) (j := 3) (m := 4) (d1 := fun x3 => (PyData.int x3.a)) (d2 := fun x3 => (PyData.int x3.b)) (d3 := fun x3 => (PyData.int x3.c)) (c := anyOs) (enc := (eT PyData.int)) (fun (_ : Unit) (x3 : (Tri Int Int Int)) => ((fun (x3 : (Tri Int Int Int)) => ((dGet t1 x3.a).bind fun t5 => (catO (α := Int) t5 ([x3.b])).bind fun t6 => (dGet t1 x3.c).bind fun t7 => (m_l_back t7).bind fun t8 => (catO (α := Int) t6 t8).bind fun t9 => (m_l_straight t9).bind fun t10 => some t10)) x3).map fun y => (some y, ())) (fun (_ : Unit) (tl1 : Os) => tl1) () (t11) () B rfl rfl rfl rfl rfl rfl (by rw [B.hN, hsc]; decide +kernel) (by rw [hsc]; decide +kernel) (by rw [hsc]; decide +kernel) (by rw [hsc]; decide +kernel) (by decide) (lcO_ok h11) (ix_list (enc := (eP3 PyData.int PyData.int PyData.int)) (c := anyOs) (ex_call (a := web_here) (b := t2) (gi := 1) (rest := os) B rfl c_l_others (by decide) h2 (ax_cons (ex_v (i := 0) (j := 0) B rfl rfl rfl) ax_nil)) (fun _ _ => rdl_dat) trivial) (fun _ _ => trivial) (fun _ _ _ => List.Perm.refl _) (fun _ x3 t tl1 hx hf => by (obtain ⟨y, hy, rfl⟩ := Option.map_eq_some_iff.mp hf; obtain ⟨t5, h5, hy⟩ := bnd hy; obtain ⟨t6, h6, hy⟩ := bnd hy; obtain ⟨t7, h7, hy⟩ := bnd hy; obtain ⟨t8, h8, hy⟩ := bnd hy; obtain ⟨t9, h9, hy⟩ := bnd hy; obtain ⟨t10, h10, hy⟩ := bnd hy; obtain rfl := som hy; exact ⟨true, _, fun X1 hX => by (have B1 := Bd.fam (W' := ["_law_firsts_here", "_law_a", "_law_s", "_law_b"]) (G' := ["_law_straight", "_law_back"]) B hX (by (try rw [hsc]); decide +kernel); have c_l_straight' := fam_cal hX c_l_straight; have c_l_back' := fam_cal hX c_l_back; exact ⟨.nil, fun _ => ⟨_, rfl, (ex_call (a := t9) (b := t10) (gi := 0) (rest := tl1) B1 rfl c_l_straight' (by decide) h10 (ax_cons (ex_catT (enc := PyData.int) h9 (ex_catT (enc := PyData.int) h6 (ex_dget (kd := kI) (enc := (eT PyData.int)) (w := t1) inj_kI h5 B1 rdd_dat (ex_v (i := 1) (j := 0) B1 rfl rfl rfl) (ex_v (i := 2) (j := 1) B1 rfl rfl rfl)) (ex_tup (ds := [(PyData.int x3.b)]) (hl := len_ok (n := 1) rfl) (ax_cons (ex_v (i := 3) (j := 2) B1 rfl rfl rfl) ax_nil))) (ex_call (a := t7) (b := t8) (gi := 1) (rest := tl1) B1 rfl c_l_back' (by decide) h8 (ax_cons (ex_dget (kd := kI) (enc := (eT PyData.int)) (w := t1) inj_kI h7 B1 rdd_dat (ex_v (i := 1) (j := 0) B1 rfl rfl rfl) (ex_v (i := 4) (j := 3) B1 rfl rfl rfl)) ax_nil))) ax_nil))⟩, fun h => Bool.noConfusion h⟩)⟩))))) (fun F H v e o c => R.rt F H v e o c)
theorem cal_l_basis {P : Program} {w : World} {K : PySem.W.Frag} {mg : Str → Option Value} {base : Heap} {f : Addr} {fd : FuncData} (Fn : Fun K "_law_basis" "_law_basis" s_l_basis f fd) (hmg : mg "_law_basis" = some (.ref f)) (hb : Binds K fd ["_law_web_here"] []) (c_l_firsts : Cal P w K mg base 3 "_law_firsts" s_l_firsts ["_law_web_here"] (sp_l_firsts K)) (c_l_others : Cal P w K mg base 5 "_law_others" s_l_others ["_law_web_here"] (sp_l_others K)) (c_l_straight : Cal P w K mg base 1 "_law_straight" s_l_straight ["_law_walk"] (sp_l_straight K)) (c_l_back : Cal P w K mg base 1 "_law_back" s_l_back ["_law_walk"] (sp_l_back K)) : Cal P w K mg base 6 "_law_basis" s_l_basis ["_law_web_here"] (sp_l_basis K) := by
  obtain ⟨sts_, hst_⟩ : ∃ z_, defBody s_l_basis = z_ := ⟨_, rfl⟩
  exact cal_ZQ (V := V_l_basis) (Gs := G_l_basis) (nl := 4) hst_ Fn sc_l_basis (by decide +kernel) (by decide +kernel) hmg hb (fun _ => rfl) rfl fun _ _ _ _ _ _ _ a b F0 os D B T hm R => body_l_basis rfl hst_ B T c_l_firsts c_l_others c_l_straight c_l_back a b F0 os D hm R
abbrev s_l_right : Stmt := top 42
def N_l_right : List Str := ["_law_web_here", "_law_first", "_law_others_here", "_law_told", "_law_some"]
def V_l_right : List Str := ["_law_web_here", "_law_first", "_law_others_here", "_law_told", "_law_some"]
def G_l_right : List Str := ["repr", "_law_tree", "_law_basis", "tree", "basis"]
theorem sc_l_right : FnScope N_l_right ["_law_web_here"] (defScope s_l_right) := ⟨rfl, rfl, rfl, by decide +kernel, rfl, by decide +kernel, by decide +kernel⟩
theorem kw_tree_0_web : KwOk "tree" s_p_tree ["web"] ["web"] 0 [0] := fun _ _ _ _ _ _ us ws h1 h2 => match us, ws, h1, h2 with | [], [_], _, _ => rfl
theorem kw_basis_0_web : KwOk "basis" s_p_basis ["web"] ["web"] 0 [0] := fun _ _ _ _ _ _ us ws h1 h2 => match us, ws, h1, h2 with | [], [_], _, _ => rfl
abbrev sp_l_right (K : PySem.W.Frag) : Sp := spZ (α := (Int × (List (List Int)))) (β := Bool) (fun a => [(dat (PyData.tuple [(PyData.int a.1), (PyData.tuple (List.map (eT PyData.int) a.2))]))]) (fun a => []) (fun a => m_l_right a) (fun a b => (dat (PyData.bool b))) (fun a b => [])
set_option maxHeartbeats 4000000 in
theorem body_l_right {X : Cx} (hsc : X.env.scope = defScope s_l_right) {sts_ : List Stmt} (hst_ : defBody s_l_right = sts_) (B : Bd X N_l_right V_l_right G_l_right 6) (T : Bt X V_l_right) (g_repr : X.mg "repr" = none) (c_l_tree : Cal X.prog X.w X.K X.mg X.base 4 "_law_tree" s_l_tree ["_law_web_here"] (sp_l_tree X.K)) (c_l_basis : Cal X.prog X.w X.K X.mg X.base 6 "_law_basis" s_l_basis ["_law_web_here"] (sp_l_basis X.K)) (c_p_tree : Cal X.prog X.w X.K X.mg X.base 5 "tree" s_p_tree ["web"] (sp_p_tree X.K)) (c_p_basis : Cal X.prog X.w X.K X.mg X.base 5 "basis" s_p_basis ["web"] (sp_p_basis X.K)) (web_here : (Int × (List (List Int)))) (b : Bool) (F0 : Hp) (os : Os) (D : Ends) (hm : m_l_right web_here = some b) (R : RetZ F0 (os) (dat (PyData.bool b)) D) :
    SX X [sl (dat (PyData.tuple [(PyData.int web_here.1), (PyData.tuple (List.map (eT PyData.int) web_here.2))])), un, un, un, un] (os) F0 sts_ D := by
  subst hst_
  unfold m_l_right at hm
  obtain ⟨t1, h1, hm⟩ := bnd hm
  obtain ⟨t2, h2, hm⟩ := bnd hm
  obtain ⟨t3, h3, hm⟩ := bnd hm
  obtain ⟨t4, h4, hm⟩ := bnd hm
  refine sx_par2 (i := 1) (j := 2) _ hsc B rfl rfl (by decide) (by decide +kernel) (by decide +kernel) (by intro env he; cases env; cases he; first | rfl | kernel_rfl) (aq_x (φ := (dat (PyData.str t2))) (ex_fn (j := 0) B rfl g_repr (by decide +kernel) (call_repr B.gd B.room) (rc_repr h2) (ax_cons (ex_call (a := web_here) (b := t1) (gi := 1) (rest := os) B rfl c_l_tree (by decide) h1 (ax_cons (ex_v (i := 0) (j := 0) B rfl rfl rfl) ax_nil)) ax_nil)) (aq_x (φ := (dat (PyData.str t4))) (ex_fn (j := 0) B rfl g_repr (by decide +kernel) (call_repr B.gd B.room) (rc_repr h4) (ax_cons (ex_call (a := web_here) (b := t3) (gi := 2) (rest := os) B rfl c_l_basis (by decide) h3 (ax_cons (ex_v (i := 0) (j := 0) B rfl rfl rfl) ax_nil)) ax_nil)) aq_nil)) (fun v0 v1 os_ hr_ => ?_) (by rintro φs os_ ⟨_, rfl, _, rfl, rfl, rfl⟩; exact ⟨_, _, rfl⟩)
  obtain ⟨_, e0, _, e1, e8, e9⟩ := hr_
  cases e0; cases e1; cases e8; cases e9
  obtain ⟨t5, h5, hm⟩ := bnd hm
  refine sx_asgN (i := 3) (vi := 3) (n := ol (List.map (eP3 PyData.int PyData.int PyData.int) t5)) B T rfl rfl (en_call (a := web_here) (b := t5) (gi := 3) (rest := os) B rfl c_p_tree (by decide) h5 (ax_cons (ex_v (i := 0) (j := 0) B rfl rfl rfl) ax_nil)) (fun q_told5 => ?_)
  obtain ⟨t6, h6, hm⟩ := bnd hm
  refine sx_if (tx_cmp op_ne r2_neS (nomark _) (ex_fn (j := 0) B rfl g_repr (by decide +kernel) (call_repr B.gd B.room) (rc_reprX (rdx_own (ds := List.map (eP3 PyData.int PyData.int PyData.int) t5) 0 rfl) h6) (ax_cons (ex_v (i := 3) (j := 3) B rfl rfl rfl) ax_nil)) (ex_v (i := 1) (j := 1) B rfl rfl rfl)) (fun hk => ?_) (fun hk => ?_)
  · have hm := ifT hm hk
    obtain rfl := som hm
    exact sx_ret ex_bool (fun F H v e o c => R.rt F H v e (o.drop) c)
  · have hm := ifF hm hk
    refine sx_fall ?_ rfl
    obtain ⟨t7, h7, hm⟩ := bnd hm
    refine sx_expr (ex_app (enc := (eP3 PyData.int PyData.int PyData.int)) (j := 0) (xs0 := t5) (xs := t5) (y := (Tri.mk 0 1 0)) h7 (ex_v (i := 3) (j := 3) B rfl rfl rfl) rfl (ex_tup (ds := [(PyData.int 0), (PyData.int 1), (PyData.int 0)]) (hl := len_ok (n := 3) rfl) (ax_cons ex_int (ax_cons ex_int (ax_cons ex_int ax_nil)))) rfl) ?_
    obtain ⟨t8, h8, hm⟩ := bnd hm
    refine sx_asgN (i := 4) (vi := 4) (n := ol (List.map (eT PyData.int) t8)) B T rfl rfl (en_call (a := web_here) (b := t8) (gi := 4) (rest := (q_told5, ol (List.map (eP3 PyData.int PyData.int PyData.int) t7)) :: os) B rfl c_p_basis (by decide) h8 (ax_cons (ex_v (i := 0) (j := 0) B rfl rfl rfl) ax_nil)) (fun q_some_8 => ?_)
    obtain ⟨t9, h9, hm⟩ := bnd hm
    refine sx_if (tx_cmp op_ne r2_neS (nomark _) (ex_fn (j := 0) B rfl g_repr (by decide +kernel) (call_repr B.gd B.room) (rc_reprX (rdx_own (ds := List.map (eT PyData.int) t8) 0 rfl) h9) (ax_cons (ex_v (i := 4) (j := 4) B rfl rfl rfl) ax_nil)) (ex_v (i := 2) (j := 2) B rfl rfl rfl)) (fun hk => ?_) (fun hk => ?_)
    · have hm := ifT hm hk
      obtain rfl := som hm
      exact sx_ret ex_bool (fun F H v e o c => R.rt F H v e ((o.drop).drop) c)
    · have hm := ifF hm hk
      refine sx_fall ?_ rfl
      refine sx_expr (ex_reverse (enc := (eT PyData.int)) (j := 0) (ex_v (i := 4) (j := 4) B rfl rfl rfl) rfl) ?_
      obtain ⟨t10, h10, hm⟩ := bnd hm
      refine sx_expr (ex_app (enc := (eT PyData.int)) (j := 0) (xs0 := (List.reverse t8)) (xs := (List.reverse t8)) (y := ([] : (List Int))) h10 (ex_v (i := 4) (j := 4) B rfl rfl rfl) rfl (ex_tup (ds := []) ax_nil) rfl) ?_
      obtain ⟨t11, h11, hm⟩ := bnd hm
      obtain ⟨t12, h12, hm⟩ := bnd hm
      obtain ⟨t15, h15, hm⟩ := bnd hm
      obtain rfl := som hm
      exact sx_ret (ex_and (l := t15) (os2 := (q_some_8, ol (List.map (eT PyData.int) t10)) :: (q_told5, ol (List.map (eP3 PyData.int PyData.int PyData.int) t7)) :: os) (ex_cmp op_eq r2_eqS (nomark _) (ex_fn (j := 0) B rfl g_repr (by decide +kernel) (call_repr B.gd B.room) (rc_repr h12) (ax_cons (EN.ex (en_callk0 (a := web_here) (b := t11) (gi := 3) (rest := (q_some_8, ol (List.map (eT PyData.int) t10)) :: (q_told5, ol (List.map (eP3 PyData.int PyData.int PyData.int) t7)) :: os) B rfl c_p_tree (by decide) kw_tree_0_web (by decide) h11 (kx_cons (ex_v (i := 0) (j := 0) B rfl rfl rfl) kx_nil) rfl)) ax_nil)) (ex_v (i := 1) (j := 1) B rfl rfl rfl)) (fun hk => by (have hm := ifT h15 hk; obtain ⟨t13, h13, hm⟩ := bnd hm; obtain ⟨t14, h14, hm⟩ := bnd hm; obtain rfl := som hm; exact (ex_one (ex_cmp op_eq r2_eqS (nomark _) (ex_fn (j := 0) B rfl g_repr (by decide +kernel) (call_repr B.gd B.room) (rc_repr h14) (ax_cons (EN.ex (en_callk0 (a := web_here) (b := t13) (gi := 4) (rest := (q_some_8, ol (List.map (eT PyData.int) t10)) :: (q_told5, ol (List.map (eP3 PyData.int PyData.int PyData.int) t7)) :: os) B rfl c_p_basis (by decide) kw_basis_0_web (by decide) h13 (kx_cons (ex_v (i := 0) (j := 0) B rfl rfl rfl) kx_nil) rfl)) ax_nil)) (ex_v (i := 2) (j := 2) B rfl rfl rfl))))) (fun hk => by (have hm := ifF h15 hk; obtain rfl := som hm; rfl)) (and_fix (fun hk => by (have hm := ifF h15 hk; obtain rfl := som hm; rfl)))) (fun F H v e o c => R.rt F H v e ((o.drop).drop) c)
theorem cal_l_right {P : Program} {w : World} {K : PySem.W.Frag} {mg : Str → Option Value} {base : Heap} {f : Addr} {fd : FuncData} (Fn : Fun K "_law_right" "_law_right" s_l_right f fd) (hmg : mg "_law_right" = some (.ref f)) (hb : Binds K fd ["_law_web_here"] []) (g_repr : mg "repr" = none) (c_l_tree : Cal P w K mg base 4 "_law_tree" s_l_tree ["_law_web_here"] (sp_l_tree K)) (c_l_basis : Cal P w K mg base 6 "_law_basis" s_l_basis ["_law_web_here"] (sp_l_basis K)) (c_p_tree : Cal P w K mg base 5 "tree" s_p_tree ["web"] (sp_p_tree K)) (c_p_basis : Cal P w K mg base 5 "basis" s_p_basis ["web"] (sp_p_basis K)) : Cal P w K mg base 7 "_law_right" s_l_right ["_law_web_here"] (sp_l_right K) := by
  obtain ⟨sts_, hst_⟩ : ∃ z_, defBody s_l_right = z_ := ⟨_, rfl⟩
  exact cal_ZQ (V := V_l_right) (Gs := G_l_right) (nl := 4) hst_ Fn sc_l_right (by decide +kernel) (by decide +kernel) hmg hb (fun _ => rfl) rfl fun _ _ _ _ _ _ _ a b F0 os D B T hm R => body_l_right rfl hst_ B T g_repr c_l_tree c_l_basis c_p_tree c_p_basis a b F0 os D hm R
abbrev s_l_law : Stmt := top 43
def N_l_law : List Str := ["_law_script", "_law_k", "_law_well_here", "_law_letters", "_law_web_here", "_law_other"]
def V_l_law : List Str := ["_law_script", "_law_k", "_law_well_here", "_law_letters", "_law_web_here", "_law_other"]
def G_l_law : List Str := ["range", "max", "min", "len", "_law_well", "_law_take", "_law_web", "_law_right"]
theorem sc_l_law : FnScope N_l_law ["_law_script"] (defScope s_l_law) := ⟨rfl, rfl, rfl, by decide +kernel, rfl, by decide +kernel, by decide +kernel⟩
abbrev sp_l_law (K : PySem.W.Frag) : Sp := spZ (α := (List Int)) (β := Bool) (fun a => [(scr K a)]) (fun a => []) (fun a => m_l_law a) (fun a b => (dat (PyData.bool b))) (fun a b => [])
set_option maxHeartbeats 4000000 in
theorem body_l_law {X : Cx} (hsc : X.env.scope = defScope s_l_law) {sts_ : List Stmt} (hst_ : defBody s_l_law = sts_) (B : Bd X N_l_law V_l_law G_l_law 7) (T : Bt X V_l_law) (g_range : X.mg "range" = none) (g_max : X.mg "max" = none) (g_min : X.mg "min" = none) (g_len : X.mg "len" = none) (c_l_well : Cal X.prog X.w X.K X.mg X.base 1 "_law_well" s_l_well ["_law_script", "_law_k"] (sp_l_well X.K)) (c_l_take : Cal X.prog X.w X.K X.mg X.base 1 "_law_take" s_l_take ["_law_well_here", "_law_many"] (sp_l_take X.K)) (c_l_web : Cal X.prog X.w X.K X.mg X.base 3 "_law_web" s_l_web ["_law_well_here", "_law_letters", "_law_most"] (sp_l_web X.K)) (c_l_right : Cal X.prog X.w X.K X.mg X.base 7 "_law_right" s_l_right ["_law_web_here"] (sp_l_right X.K)) (script : (List Int)) (b : Bool) (F0 : Hp) (os : Os) (D : Ends) (hm : m_l_law script = some b) (R : RetZ F0 (os) (dat (PyData.bool b)) D) :
    SX X [sl (scr X.K script), un, un, un, un, un] (os) F0 sts_ D := by
  subst hst_
  unfold m_l_law at hm
  obtain ⟨t1, h1, hm⟩ := bnd hm
  obtain ⟨f4o, h24, hm⟩ := bnd hm
  refine sx_forR (c := anyOs) _ (fun (s2 : Unit) (_ : Unit) => [sl (scr X.K script), un, un, un, un, un]) (fun (s2 : Unit) (_ : Unit) => os) (fun (r : Bool) v H => ∃ F, Same F0 F ∧ Ow F (os) H ∧ Cl (dat (PyData.bool r)) F v) B T (fun k_3 => gx_name (i := 1) (vi := 1) (φ := (dat (PyData.int k_3))) B T rfl rfl) () () f4o h24 (ix_rng1 (gi := 0) B rfl g_range h1 (ex_fn (j := 1) B rfl g_max (by decide +kernel) (call_max2 B.calm) rc_max (ax_cons ex_int (ax_cons (ex_fn (j := 2) B rfl g_min (by decide +kernel) (call_min2 B.calm) rc_min (ax_cons ex_int (ax_cons (EX.to (ex_fn (j := 3) B rfl g_len (by decide +kernel) call_len_seq (rc_lenL (ds := List.map PyData.int script) rdl_scr) (ax_cons (ex_v (i := 0) (j := 0) B rfl rfl rfl) ax_nil)) (by rw [List.length_map])) ax_nil))) ax_nil)))) ⟨.inl rfl, .inl rfl, .inl rfl, .inl rfl, .inl rfl, .inl rfl, trivial⟩ (fun _ _ => trivial) (fun F6 e5 s2 _ k_3 z26 hx hm2 => ?_) (fun f4 _ ho => ?_) (fun r25 v H ho hr => ?_)
  · clear hm h24
    have hm := hm2
    obtain ⟨t7, h7, hm⟩ := bnd hm
    refine sx_asgN (i := 2) (vi := 2) (n := ol (List.map PyData.int t7)) B T rfl rfl (en_call (a := (script, k_3)) (b := t7) (gi := 4) (rest := os) B rfl c_l_well (by decide) h7 (ax_cons (ex_v (i := 0) (j := 0) B rfl rfl rfl) (ax_cons (ex_v (i := 1) (j := 1) B rfl rfl rfl) ax_nil))) (fun q_well_here7 => ?_)
    obtain ⟨t8, h8, hm⟩ := bnd hm
    refine sx_asg (i := 3) (vi := 3) (φ := (dat (PyData.int (1 + t8.1)))) B T rfl rfl (ex_add ex_int (ex_call (a := (q_well_here7, t7, 4)) (b := t8) (gi := 5) (rest := os) B rfl c_l_take (by decide) h8 (ax_cons (ex_v (i := 2) (j := 2) B rfl rfl rfl) (ax_cons ex_int ax_nil)))) ?_
    obtain ⟨t9, h9, hm⟩ := bnd hm
    obtain ⟨t10, h10, hm⟩ := bnd hm
    obtain ⟨t11, h11, hm⟩ := bnd hm
    refine sx_asg (i := 4) (vi := 4) (φ := (dat (PyData.tuple [(PyData.int t11.1.1), (PyData.tuple (List.map (eT PyData.int) t11.1.2))]))) B T rfl rfl (ex_call (a := (q_well_here7, t9.2, (1 + t8.1), t10)) (b := t11) (gi := 6) (rest := os) B rfl c_l_web (by decide) h11 (ax_cons (ex_v (i := 2) (j := 2) B rfl rfl rfl) (ax_cons (ex_v (i := 3) (j := 3) B rfl rfl rfl) (ax_cons (ex_idxL (enc := PyData.int) h10 rdl_dat (EN.ex (en_lst (ds := [(PyData.int 2), (PyData.int 5), (PyData.int 10)]) (hl := len_ok (n := 3) rfl) (ax_cons ex_int (ax_cons ex_int (ax_cons ex_int ax_nil))))) (ex_call (a := (q_well_here7, t8.2, 3)) (b := t9) (gi := 5) (rest := os) B rfl c_l_take (by decide) h9 (ax_cons (ex_v (i := 2) (j := 2) B rfl rfl rfl) (ax_cons ex_int ax_nil)))) ax_nil)))) ?_
    obtain ⟨t12, h12, hm⟩ := bnd hm
    obtain ⟨t13, h13, hm⟩ := bnd hm
    refine sx_asg (i := 5) (vi := 5) (φ := (dat (PyData.tuple [(PyData.int t13.1.1), (PyData.tuple (List.map (eT PyData.int) t13.1.2))]))) B T rfl rfl (ex_call (a := (q_well_here7, t12.2, (1 + t12.1), 4)) (b := t13) (gi := 6) (rest := os) B rfl c_l_web (by decide) h13 (ax_cons (ex_v (i := 2) (j := 2) B rfl rfl rfl) (ax_cons (ex_add ex_int (ex_call (a := (q_well_here7, t11.2, 4)) (b := t12) (gi := 5) (rest := os) B rfl c_l_take (by decide) h12 (ax_cons (ex_v (i := 2) (j := 2) B rfl rfl rfl) (ax_cons ex_int ax_nil)))) (ax_cons ex_int ax_nil)))) ?_
    obtain ⟨t14, h14, hm⟩ := bnd hm
    obtain ⟨t18, h18, hm⟩ := bnd hm
    refine sx_if (WX.tx (wx_or (l := t18) (os2 := (q_well_here7, ol (List.map PyData.int t13.2)) :: os) (tx_not (tx_val (ex_call (a := t11.1) (b := t14) (gi := 7) (rest := (q_well_here7, ol (List.map PyData.int t13.2)) :: os) B rfl c_l_right (by decide) h14 (ax_cons (ex_v (i := 4) (j := 4) B rfl rfl rfl) ax_nil)) (by intro _; rfl))) (fun hk => by (have hm := ifF h18 hk; obtain ⟨t15, h15, hm⟩ := bnd hm; obtain ⟨t17, h17, hm⟩ := bnd hm; obtain rfl := som hm; exact (wx_or (l := t17) (os2 := (q_well_here7, ol (List.map PyData.int t13.2)) :: os) (tx_not (tx_val (ex_call (a := t13.1) (b := t15) (gi := 7) (rest := (q_well_here7, ol (List.map PyData.int t13.2)) :: os) B rfl c_l_right (by decide) h15 (ax_cons (ex_v (i := 5) (j := 5) B rfl rfl rfl) ax_nil)) (by intro _; rfl))) (fun hk => by (have hm := ifF h17 hk; obtain ⟨t16, h16, hm⟩ := bnd hm; obtain rfl := som hm; exact (wx_or1 (tx_not (tx_val (ex_call (a := t11.1) (b := t16) (gi := 7) (rest := (q_well_here7, ol (List.map PyData.int t13.2)) :: os) B rfl c_l_right (by decide) h16 (ax_cons (ex_v (i := 4) (j := 4) B rfl rfl rfl) ax_nil)) (by intro _; rfl)))))) (fun hk => by (have hm := ifT h17 hk; obtain rfl := som hm; rfl)) (or_fix (fun hk => by (have hm := ifT h17 hk; obtain rfl := som hm; rfl)))))) (fun hk => by (have hm := ifT h18 hk; obtain rfl := som hm; rfl)) (or_fix (fun hk => by (have hm := ifT h18 hk; obtain rfl := som hm; rfl))))) (fun hk => ?_) (fun hk => ?_)
    · have hm := ifT hm hk
      exact sx_ret ex_bool (fun F H v e o c => ⟨_, (som hm).symm, F, (e5.trans e), (o.drop), c⟩)
    · have hm := ifF hm hk
      refine sx_fall ?_ rfl
      obtain ⟨t19, h19, hm⟩ := bnd hm
      obtain ⟨t20, h20, hm⟩ := bnd hm
      obtain ⟨t23, h23, hm⟩ := bnd hm
      refine sx_if (WX.tx (wx_or (l := t23) (os2 := (q_well_here7, ol (List.map PyData.int t13.2)) :: os) (tx_not (tx_val (ex_call (a := ((1 + t8.1), [t19])) (b := t20) (gi := 7) (rest := (q_well_here7, ol (List.map PyData.int t13.2)) :: os) B rfl c_l_right (by decide) h20 (ax_cons (ex_tup (ds := [(PyData.int (1 + t8.1)), (PyData.tuple (List.map (eT PyData.int) ([t19])))]) (hl := len_ok (n := 2) rfl) (ax_cons (ex_v (i := 3) (j := 3) B rfl rfl rfl) (ax_cons (ex_tup (ds := [(PyData.tuple (List.map PyData.int t19))]) (hl := len_ok (n := 1) rfl) (ax_cons (ex_repT (enc := PyData.int) h19 (ex_tup (ds := [(PyData.int (-1))]) (hl := len_ok (n := 1) rfl) (ax_cons (EX.to (d' := PyData.int (-1)) (ex_sub ex_int ex_int) (by rfl)) ax_nil)) (ex_v (i := 3) (j := 3) B rfl rfl rfl)) ax_nil)) ax_nil))) ax_nil)) (by intro _; rfl))) (fun hk => by (have hm := ifF h23 hk; obtain ⟨t21, h21, hm⟩ := bnd hm; obtain ⟨t22, h22, hm⟩ := bnd hm; obtain rfl := som hm; exact (wx_or1 (tx_not (tx_val (ex_call (a := ((1 + t8.1), [t21])) (b := t22) (gi := 7) (rest := (q_well_here7, ol (List.map PyData.int t13.2)) :: os) B rfl c_l_right (by decide) h22 (ax_cons (ex_tup (ds := [(PyData.int (1 + t8.1)), (PyData.tuple (List.map (eT PyData.int) ([t21])))]) (hl := len_ok (n := 2) rfl) (ax_cons (ex_v (i := 3) (j := 3) B rfl rfl rfl) (ax_cons (ex_tup (ds := [(PyData.tuple (List.map PyData.int t21))]) (hl := len_ok (n := 1) rfl) (ax_cons (ex_repT (enc := PyData.int) h21 (ex_tup (ds := [(PyData.int 0)]) (hl := len_ok (n := 1) rfl) (ax_cons ex_int ax_nil)) (ex_v (i := 3) (j := 3) B rfl rfl rfl)) ax_nil)) ax_nil))) ax_nil)) (by intro _; rfl)))))) (fun hk => by (have hm := ifT h23 hk; obtain rfl := som hm; rfl)) (or_fix (fun hk => by (have hm := ifT h23 hk; obtain rfl := som hm; rfl))))) (fun hk => ?_) (fun hk => ?_)
      · have hm := ifT hm hk
        exact sx_ret ex_bool (fun F H v e o c => ⟨_, (som hm).symm, F, (e5.trans e), (o.drop), c⟩)
      · have hm := ifF hm hk
        refine sx_fall ?_ rfl
        exact sx_nil fun σ H a => ⟨_, (), (som hm).symm, ((a.drop).weak ⟨.inl rfl, .inr rfl, .inr rfl, .inr rfl, .inr rfl, .inr rfl, trivial⟩)⟩
  · cases ho
    have hm := elimR hm
    obtain rfl := som hm
    exact sx_ret ex_bool (fun F H v e o c => R.rt F H v e o c)
  · cases ho
    have hm := elimL hm
    obtain rfl := som hm
    obtain ⟨F, e, o, c⟩ := hr
    exact R.rt F H v e o c
theorem cal_l_law {P : Program} {w : World} {K : PySem.W.Frag} {mg : Str → Option Value} {base : Heap} {f : Addr} {fd : FuncData} (Fn : Fun K "law" "law" s_l_law f fd) (hmg : mg "law" = some (.ref f)) (hb : Binds K fd ["_law_script"] []) (g_range : mg "range" = none) (g_max : mg "max" = none) (g_min : mg "min" = none) (g_len : mg "len" = none) (c_l_well : Cal P w K mg base 1 "_law_well" s_l_well ["_law_script", "_law_k"] (sp_l_well K)) (c_l_take : Cal P w K mg base 1 "_law_take" s_l_take ["_law_well_here", "_law_many"] (sp_l_take K)) (c_l_web : Cal P w K mg base 3 "_law_web" s_l_web ["_law_well_here", "_law_letters", "_law_most"] (sp_l_web K)) (c_l_right : Cal P w K mg base 7 "_law_right" s_l_right ["_law_web_here"] (sp_l_right K)) : Cal P w K mg base 8 "law" s_l_law ["_law_script"] (sp_l_law K) := by
  obtain ⟨sts_, hst_⟩ : ∃ z_, defBody s_l_law = z_ := ⟨_, rfl⟩
  exact cal_ZQ (V := V_l_law) (Gs := G_l_law) (nl := 5) hst_ Fn sc_l_law (by decide +kernel) (by decide +kernel) hmg hb (fun _ => rfl) rfl fun _ _ _ _ _ _ _ a b F0 os D B T hm R => body_l_law rfl hst_ B T g_range g_max g_min g_len c_l_well c_l_take c_l_web c_l_right a b F0 os D hm R
end L13
namespace Z
open PySem PySem.Spec L2
theorem log2_small {n k : Nat} (h : n < 2 ^ k) (hk : 0 < k) : n.log2 < k := by
  by_cases h0 : n = 0
  · subst h0
    simpa using hk
  · exact (Nat.log2_lt h0).mpr h
theorem log2_int {i : Int} {k : Nat} (h0 : 0 ≤ i) (h : i < 2 ^ k) (hk : 0 < k) : i.natAbs.log2 < k := by
  refine log2_small ?_ hk
  have e : ((2 ^ k : Nat) : Int) = (2 : Int) ^ k := by norm_cast
  omega
theorem idx_of {α : Type} {xs : List α} {i : Int} {v : α} (h0 : 0 ≤ i) (h : xs[i.toNat]? = some v) : idx xs i = some v := by
  have hl := (List.getElem?_eq_some_iff.mp h).1
  unfold idx atI ixN
  rw [if_pos h0, if_pos (by omega)]
  exact h
theorem idx_last {α : Type} {xs : List α} {v : α} (h : xs[xs.length - 1]? = some v) : idx xs (-1) = some v := by
  have hl := (List.getElem?_eq_some_iff.mp h).1
  unfold idx atI ixN
  rw [if_neg (by omega), if_pos (by omega)]
  have e : ((-1 : Int) + (xs.length : Int)).toNat = xs.length - 1 := by omega
  show xs[((-1 : Int) + (xs.length : Int)).toNat]? = _
  rw [e]
  exact h
theorem rngO_ok {a b : Int} (h : -(2 ^ 62) ≤ a ∧ a < 2 ^ 62 ∧ -(2 ^ 62) ≤ b ∧ b < 2 ^ 62) : rngO a b = some (range' a b) := if_pos h
theorem mem_rng {a b x : Int} (h : x ∈ range' a b) : a ≤ x ∧ x < b := by
  unfold range' at h
  obtain ⟨i, hi, rfl⟩ := List.mem_map.mp h
  have := List.mem_range.mp hi
  omega
theorem lpR_goN {α R S : Type} {f : S → α → Option (Step R S)} : ∀ {xs : List α} (P : Nat → S → Prop), (∀ (i : Nat) (x : α) (s : S), xs[i]? = some x → P i s → ∃ s', f s x = some (.go s') ∧ P (i + 1) s') → ∀ {s0 : S}, P 0 s0 → ∃ s', lpR f xs s0 = some (.inr s') ∧ P xs.length s'
  | [], P, _, s0, h0 => ⟨s0, rfl, h0⟩
  | x :: xs, P, h, s0, h0 => by
    obtain ⟨s1, e, h1⟩ := h 0 x s0 rfl h0
    obtain ⟨s2, e2, h2⟩ := lpR_goN (xs := xs) (fun i => P (i + 1)) (fun i y s hy hs => h (i + 1) y s (by simpa using hy) hs) h1
    refine ⟨s2, ?_, h2⟩
    unfold lpR
    rw [e]
    exact e2
theorem lp_goN {α S : Type} {f : S → α → Option S} : ∀ {xs : List α} (P : Nat → S → Prop), (∀ (i : Nat) (x : α) (s : S), xs[i]? = some x → P i s → ∃ s', f s x = some s' ∧ P (i + 1) s') → ∀ {s0 : S}, P 0 s0 → ∃ s', lp f xs s0 = some s' ∧ P xs.length s'
  | [], P, _, s0, h0 => ⟨s0, rfl, h0⟩
  | x :: xs, P, h, s0, h0 => by
    obtain ⟨s1, e, h1⟩ := h 0 x s0 rfl h0
    obtain ⟨s2, e2, h2⟩ := lp_goN (xs := xs) (fun i => P (i + 1)) (fun i y s hy hs => h (i + 1) y s (by simpa using hy) hs) h1
    refine ⟨s2, ?_, h2⟩
    unfold lp
    rw [e]
    exact e2
/-- three cells, of which so many draws were made at most -/
def SpOk (n : Nat) (w : List Int) : Prop := ∃ a b c : Int, w = [a, b, c] ∧ 0 ≤ a ∧ 0 ≤ b ∧ b < 2 ^ 101 ∧ 0 ≤ c ∧ c ≤ n
theorem SpOk.mono {n m : Nat} {w : List Int} (h : SpOk n w) (hm : n ≤ m) : SpOk m w := by
  obtain ⟨a, b, c, e, h1, h2, h3, h4, h5⟩ := h
  exact ⟨a, b, c, e, h1, h2, h3, h4, by omega⟩
end Z
namespace Z
open PySem PySem.Spec L2
/-- a step put on a pile -/
def psh : List Int → Int → List Int
  | [], x => [x]
  | y :: t, x => if y = -x then t else x :: y :: t
/-- no two opposite steps beside one another -/
def Gd : List Int → Prop
  | x :: y :: t => y ≠ -x ∧ Gd (y :: t)
  | _ => True
theorem gd_nil : Gd [] := trivial
def fl (s w : List Int) : List Int := w.foldl psh s
def red (w : List Int) : List Int := (fl [] w).reverse
def iv (w : List Int) : List Int := w.reverse.map fun x => -x
theorem gd_tail {x : Int} : ∀ {t : List Int}, Gd (x :: t) → Gd t
  | [], _ => trivial
  | _ :: _, h => h.2
theorem psh_gd {s : List Int} {x : Int} (h : Gd s) : Gd (psh s x) := by
  cases s with
  | nil => trivial
  | cons y t =>
    by_cases hy : y = -x
    · rw [show psh (y :: t) x = t from if_pos hy]
      exact gd_tail h
    · rw [show psh (y :: t) x = x :: y :: t from if_neg hy]
      exact ⟨hy, h⟩
theorem fl_gd : ∀ {w s : List Int}, Gd s → Gd (fl s w)
  | [], _, h => h
  | _ :: w, _, h => fl_gd (w := w) (psh_gd h)
theorem gd_suf : ∀ {a b : List Int}, Gd (a ++ b) → Gd b
  | [], _, h => h
  | _ :: a, _, h => gd_suf (a := a) (gd_tail h)
theorem gd_join {x y : Int} {t : List Int} (hxy : x ≠ -y) (h2 : Gd (x :: t)) : ∀ {a : List Int}, Gd (a ++ [y]) → Gd (a ++ y :: x :: t)
  | [], _ => ⟨hxy, h2⟩
  | [_], h => ⟨h.1, hxy, h2⟩
  | _ :: b :: a, h => ⟨h.1, gd_join (a := b :: a) hxy h2 h.2⟩
theorem gd_rev : ∀ {w : List Int}, Gd w → Gd w.reverse
  | [], _ => trivial
  | [_], _ => trivial
  | x :: y :: t, h => by
    have ih := gd_rev (w := y :: t) h.2
    rw [List.reverse_cons] at ih
    rw [List.reverse_cons, List.reverse_cons, List.append_assoc]
    have := h.1
    exact gd_join (t := []) (by omega) trivial ih
theorem red_gd (w : List Int) : Gd (red w) := gd_rev (fl_gd gd_nil)
theorem psh_mem {P : Int → Prop} {s : List Int} {x : Int} (h : ∀ y ∈ s, P y) (hx : P x) : ∀ y ∈ psh s x, P y := by
  cases s with
  | nil =>
    intro y hy
    have : y = x := by simpa [psh] using hy
    exact this ▸ hx
  | cons z t =>
    by_cases hz : z = -x
    · rw [show psh (z :: t) x = t from if_pos hz]
      exact fun y hy => h y (List.mem_cons_of_mem _ hy)
    · rw [show psh (z :: t) x = x :: z :: t from if_neg hz]
      intro y hy
      rcases List.mem_cons.mp hy with rfl | hy
      · exact hx
      · exact h y hy
theorem fl_mem {P : Int → Prop} : ∀ {w s : List Int}, (∀ y ∈ s, P y) → (∀ y ∈ w, P y) → ∀ y ∈ fl s w, P y
  | [], _, h, _ => h
  | x :: w, _, h, h2 => fl_mem (w := w) (psh_mem h (h2 x List.mem_cons_self)) fun y hy => h2 y (List.mem_cons_of_mem _ hy)
theorem red_mem {P : Int → Prop} {w : List Int} (h : ∀ y ∈ w, P y) : ∀ y ∈ red w, P y := fun y hy =>
  fl_mem (s := []) (fun _ z => nomatch z) h y (List.mem_reverse.mp hy)
theorem psh_len (s : List Int) (x : Int) : (psh s x).length ≤ s.length + 1 := by
  cases s with
  | nil => exact Nat.le_refl _
  | cons y t =>
    by_cases hy : y = -x
    · rw [show psh (y :: t) x = t from if_pos hy, List.length_cons]
      omega
    · rw [show psh (y :: t) x = x :: y :: t from if_neg hy, List.length_cons, List.length_cons]
      exact Nat.le_refl _
theorem fl_len : ∀ (w s : List Int), (fl s w).length ≤ s.length + w.length
  | [], s => Nat.le_refl _
  | x :: w, s => by
    have h1 := fl_len w (psh s x)
    have h2 := psh_len s x
    show (fl (psh s x) w).length ≤ _
    rw [List.length_cons]
    omega
theorem red_len (w : List Int) : (red w).length ≤ w.length := by
  have := fl_len w []
  unfold red
  rw [List.length_reverse]
  simpa using this
theorem iv_len (w : List Int) : (iv w).length = w.length := by
  unfold iv
  rw [List.length_map, List.length_reverse]
theorem cut_from {α : Type} (xs : List α) {i : Int} (h : 0 ≤ i) : cut xs (some i) none = xs.drop i.toNat := by
  obtain ⟨n, rfl⟩ := Int.eq_ofNat_of_zero_le h
  unfold cut
  show (xs.drop (HT.sIx xs.length 0 (some (n : Int)))).take (xs.length - HT.sIx xs.length 0 (some (n : Int))) = _
  rw [HT.sIx_nat, Int.toNat_natCast]
  by_cases hn : n ≤ xs.length
  · rw [Nat.min_eq_left hn, List.take_of_length_le (by rw [List.length_drop]; omega)]
  · rw [Nat.min_eq_right (by omega), List.drop_length, List.take_nil, List.drop_of_length_le (by omega)]
def straightM (walk : List Int) : Option (List Int) :=
  ((lp (fun (s1 : (List Int)) (step2 : Int) => ((if (decide (0 < (s1.length : Int))) = true then ((idx s1 (-1)).bind fun t6 => some (decide (t6 = (-step2)))) else some false).bind fun t7 => ((if t7 = true then ((popO s1).bind fun t8 => some t8.2) else ((appO s1 step2).bind fun t9 => some t9) : Option (List Int)).bind fun s10 => some s10))) walk ([])).bind fun f3 => some f3)
theorem last_rev {α : Type} (y : α) (t : List α) : idx (y :: t).reverse (-1) = some y := by
  refine idx_last ?_
  rw [List.length_reverse, List.reverse_cons, List.length_cons, Nat.add_sub_cancel, List.getElem?_append_right (by rw [List.length_reverse]; exact Nat.le_refl _), List.length_reverse, Nat.sub_self]
  rfl
theorem pop_rev {α : Type} (y : α) (t : List α) : popO (y :: t).reverse = some (y, t.reverse) := by
  unfold popO
  rw [List.reverse_cons, List.getLast?_append]
  simp
theorem app_ok {α : Type} {s : List α} {x : α} (h : s.length < sizeLine) : appO s x = some (s ++ [x]) := if_pos h
theorem straight_lp : ∀ (w t : List Int), t.length + w.length ≤ sizeLine → lp (fun (s1 : (List Int)) (step2 : Int) => ((if (decide (0 < (s1.length : Int))) = true then ((idx s1 (-1)).bind fun t6 => some (decide (t6 = (-step2)))) else some false).bind fun t7 => ((if t7 = true then ((popO s1).bind fun t8 => some t8.2) else ((appO s1 step2).bind fun t9 => some t9) : Option (List Int)).bind fun s10 => some s10))) w t.reverse = some (fl t w).reverse
  | [], _, _ => rfl
  | x :: w, t, h => by
    rw [List.length_cons] at h
    have h2 := psh_len t x
    have ih := straight_lp w (psh t x) (by omega)
    unfold lp
    refine Eq.trans (congrArg (fun z => Option.bind z _) (?_ : _ = some (psh t x).reverse)) ih
    cases t with
    | nil =>
      have : appO ([] : List Int) x = some [x] := app_ok (by decide)
      simp [this, psh]
    | cons y t =>
      have hpos : decide (0 < ((y :: t).reverse.length : Int)) = true := by
        rw [List.length_reverse, List.length_cons]
        exact decide_eq_true (by omega)
      rw [hpos, if_pos rfl, last_rev]
      by_cases hy : y = -x
      · have e : psh (y :: t) x = t := if_pos hy
        simp only [Option.bind_some, hy, decide_true, if_true]
        rw [← hy, pop_rev, e]
        rfl
      · have e : psh (y :: t) x = x :: y :: t := if_neg hy
        simp only [Option.bind_some, hy, decide_false, Bool.false_eq_true, if_false]
        rw [app_ok (by rw [List.length_reverse]; omega), e]
        simp
theorem straight_ok {w : List Int} (h : w.length ≤ sizeLine) : straightM w = some (red w) := by
  unfold straightM
  rw [show ([] : List Int) = ([] : List Int).reverse from rfl, straight_lp w [] (by simpa using h)]
  rfl
theorem lcT_some {α β : Type} (f : α → β) {xs : List α} (h : xs.length < sizeLine) : lcT f xs = some (xs.map f) := if_pos h
theorem mapO_some {α β : Type} {f : α → Option β} {g : α → β} : ∀ {xs : List α}, (∀ x ∈ xs, f x = some (g x)) → mapO f xs = some (xs.map g)
  | [], _ => rfl
  | x :: xs, h => by
    unfold mapO
    rw [h x List.mem_cons_self, mapO_some (xs := xs) fun y hy => h y (List.mem_cons_of_mem _ hy)]
    rfl
theorem lcO_some {α β : Type} {f : α → Option β} (g : α → β) {xs : List α} (hl : xs.length < sizeLine) (h : ∀ x ∈ xs, f x = some (g x)) : lcO f xs = some (xs.map g) := by
  unfold lcO
  rw [if_pos hl, mapO_some h]
theorem cat_ok {α : Type} {xs ys : List α} (h : xs.length + ys.length ≤ sizeLine) : catO xs ys = some (xs ++ ys) := if_pos h
def kk : List Int → List Int → Nat
  | x :: u, y :: v => if x = -y then kk u v + 1 else 0
  | _, _ => 0
end Z
namespace Z
open PySem PySem.Spec L2
/-- three cells, of which so many draws were made at most -/
def WeOk (n : Nat) (w : List Int) : Prop := ∃ a b c : Int, w = [a, b, c] ∧ 0 ≤ a ∧ 0 ≤ b ∧ b < 2 ^ 104 ∧ 0 ≤ c ∧ c ≤ n
theorem WeOk.mono {n m : Nat} {w : List Int} (h : WeOk n w) (hm : n ≤ m) : WeOk m w := by
  obtain ⟨a, b, c, e, h1, h2, h3, h4, h5⟩ := h
  exact ⟨a, b, c, e, h1, h2, h3, h4, by omega⟩
theorem pow_three {i : Int} (h0 : 0 ≤ i) (h : i < 2 ^ 200) : powO i 3 = some (i ^ 3) := by
  unfold powO
  rw [if_pos]
  · rfl
  refine ⟨by decide, ?_⟩
  have hb : Builtin.Int.intBits i ≤ 200 := by
    unfold Builtin.Int.intBits
    split
    · omega
    · have := log2_int h0 h (by decide)
      omega
  omega
theorem rng_len (a b : Int) : (range' a b).length = (b - a).toNat := by
  unfold range'
  rw [List.length_map, List.length_range]
def Sok (L x : Int) : Prop := x ≠ 0 ∧ -L ≤ x ∧ x ≤ L
theorem Sok.mono {L M x : Int} (h : Sok L x) (hm : L ≤ M) : Sok M x := ⟨h.1, by have := h.2.1; omega, by have := h.2.2; omega⟩
theorem Sok.neg {L x : Int} (h : Sok L x) : Sok L (-x) := ⟨by have := h.1; omega, by have := h.2.2; omega, by have := h.2.1; omega⟩
end Z
namespace Z
open PySem PySem.Spec L2
theorem bindS {α β : Type} {m : Option α} {k : α → Option β} {a : α} {r : Option β} (h : m = some a) (h2 : k a = r) : m.bind k = r := by
  rw [h]
  exact h2
def wellC (script : (List Int)) (k_ : Int) : Option (List Int) :=
  ((if (decide (k_ < (script.length : Int))) = true then ((idx script k_).bind fun t1 => some t1) else some ((7 * k_) + 3)).bind fun t2 => ((lp (fun (s3 : Int) (x4 : (Int × Int)) => ((mulW x4.2 (x4.1 + 3)).bind fun t8 => (some (((s3 * 31) + t8) % 10000000000000000000000000000000000000121)).bind fun total9 => some total9)) (enum script) 0).bind fun f5 => some [(maxI 0 (t2 - 1000000000000000000)), ((((t2 * 8191) + f5) + (524287 * k_)) % 100000000000000000000000000000000000000011), 0]))
def takeC (w_well_here : (List Int)) (many : Int) : Option (Int × (List Int)) :=
  ((idx w_well_here 0).bind fun t1 => (if (decide (0 < t1)) = true then ((idx w_well_here 0).bind fun t2 => (modO t2 many).bind fun t3 => ((idx w_well_here 0).bind fun t4 => (fdivO t4 many).bind fun t5 => (setO w_well_here 0 t5).bind fun t6 => some (t3, t6))) else ((idx w_well_here 2).bind fun t7 => (setO w_well_here 2 (t7 + 1)).bind fun t8 => ((idx t8 1).bind fun t9 => (idx t8 2).bind fun t10 => (powO (t9 + (86028121 * t10)) 3).bind fun t11 => ((idx t8 2).bind fun t12 => (powO ((t11 % 10000000000000000000000000000000000000000057) + (6700417 * t12)) 2).bind fun t13 => (some ((t13 + (t11 % 10000000000000000000000000000000000000000057)) % 1000000000000000000000000000000000000000063)).bind fun mixed14 => ((modO (mixed14 / 999983) many).bind fun t16 => some (t16, t8)))))))
def straightC (walk_here : (List Int)) : Option (List Int) :=
  ((lp (fun (s1 : (List Int)) (step2 : Int) => ((if (!decide (s1 = ([] : (List Int)))) = true then ((idx s1 (-1)).bind fun t6 => some (decide (t6 = (0 - step2)))) else some false).bind fun t7 => ((if t7 = true then ((popO s1).bind fun t8 => some t8.2) else ((appO s1 step2).bind fun t9 => some t9) : Option (List Int)).bind fun s10 => some s10))) walk_here ([] : (List Int))).bind fun f3 => some f3)
/-- three cells, of which so many draws were made at most -/
def WeC (n : Nat) (w : List Int) : Prop := ∃ a b c : Int, w = [a, b, c] ∧ 0 ≤ a ∧ 0 ≤ b ∧ b < 2 ^ 140 ∧ 0 ≤ c ∧ c ≤ n
theorem WeC.mono {n m : Nat} {w : List Int} (h : WeC n w) (hm : n ≤ m) : WeC m w := by
  obtain ⟨a, b, c, e, h1, h2, h3, h4, h5⟩ := h
  exact ⟨a, b, c, e, h1, h2, h3, h4, by omega⟩
theorem enum_get {α : Type} {xs : List α} {i : Nat} {x : Int × α} (h : (enum xs)[i]? = some x) : x.1 = (i : Int) ∧ xs[i]? = some x.2 := by
  unfold enum at h
  rw [List.getElem?_map, List.getElem?_zipIdx] at h
  cases e : xs[i]? with
  | none => rw [e] at h; cases h
  | some y =>
    rw [e] at h
    simp only [Option.map_some, Option.some.injEq] at h
    subst h
    exact ⟨by simp, rfl⟩
theorem mulW_small {i j : Int} (h : -(2 ^ 64) < j ∧ j < 2 ^ 64) : mulW i j = some (i * j) := if_pos (.inr (.inl h))
theorem cell_ok {ns : List Int} {k d : Int} (h0 : 0 ≤ k) : ∃ s, (if (decide (k < (ns.length : Int))) = true then ((idx ns k).bind fun t1 => some t1) else some d : Option Int) = some s := by
  by_cases hk : k < (ns.length : Int)
  · rw [if_pos (decide_eq_true hk)]
    have hk2 : k.toNat < ns.length := by omega
    exact ⟨ns[k.toNat], by rw [idx_of h0 (List.getElem?_eq_getElem hk2)]; rfl⟩
  · rw [if_neg (by simpa using hk)]
    exact ⟨_, rfl⟩
theorem wellC_ok {ns : List Int} {k : Int} (hl : ns.length < 2 ^ 62) (h0 : 0 ≤ k) : ∃ w, wellC ns k = some w ∧ WeC 0 w := by
  unfold wellC
  obtain ⟨s, e⟩ := cell_ok (ns := ns) (d := (7 * k) + 3) h0
  obtain ⟨f, e2, _⟩ := lp_goN (f := fun (s3 : Int) (x4 : (Int × Int)) => ((mulW x4.2 (x4.1 + 3)).bind fun t8 => (some (((s3 * 31) + t8) % 10000000000000000000000000000000000000121)).bind fun total9 => some total9)) (xs := enum ns) (fun _ _ => True) (fun i x s hx _ => by
    have h1 := (enum_get hx).1
    have h2 := (List.getElem?_eq_some_iff.mp (enum_get hx).2).1
    exact ⟨_, bindS (mulW_small (by omega)) rfl, trivial⟩) (s0 := 0) trivial
  refine ⟨_, bindS e (bindS e2 rfl), _, _, _, rfl, ?_, Int.emod_nonneg _ (by decide), ?_, Int.le_refl 0, Int.le_refl 0⟩
  · unfold maxI
    split <;> omega
  · exact Int.lt_trans (Int.emod_lt_of_pos _ (by decide)) (by decide)
theorem pow_two {i : Int} (h0 : 0 ≤ i) (h : i < 2 ^ 200) : powO i 2 = some (i ^ 2) := by
  unfold powO
  rw [if_pos]
  · rfl
  refine ⟨by decide, ?_⟩
  have hb : Builtin.Int.intBits i ≤ 200 := by
    unfold Builtin.Int.intBits
    split
    · omega
    · have := log2_int h0 h (by decide)
      omega
  omega
theorem takeC_big {n : Nat} (hn : n < 2 ^ 60) {w : List Int} (h : WeC n w) {many : Int} (h0 : 0 < many) (hbl : many.natAbs.log2 < 9000) : ∃ v w', takeC w many = some (v, w') ∧ 0 ≤ v ∧ v < many ∧ WeC (n + 1) w' := by
  obtain ⟨a, b, c, rfl, ha, hb0, hb1, hc0, hc1⟩ := h
  unfold takeC
  have i0 : idx [a, b, c] 0 = some a := rfl
  have i2 : idx [a, b, c] 2 = some c := rfl
  have j1 : idx [a, b, c + 1] 1 = some b := rfl
  have j2 : idx [a, b, c + 1] 2 = some (c + 1) := rfl
  have m0 : setO [a, b, c] 2 (c + 1) = some [a, b, c + 1] := rfl
  have m1 : modO a many = some (a % many) := if_pos h0
  have m2 : fdivO a many = some (a / many) := if_pos ⟨h0, hbl⟩
  have m3 : setO [a, b, c] 0 (a / many) = some [a / many, b, c] := rfl
  have m4 : powO (b + (86028121 * (c + 1))) 3 = some ((b + (86028121 * (c + 1))) ^ 3) := pow_three (by omega) (by omega)
  simp only [i0, i2, j1, j2, m0, m1, m2, m3, m4, Option.bind_some]
  by_cases hp : 0 < a
  · rw [if_pos (decide_eq_true hp)]
    exact ⟨a % many, [a / many, b, c], rfl, Int.emod_nonneg _ (by omega), Int.emod_lt_of_pos _ h0, _, _, _, rfl, Int.ediv_nonneg ha (by omega), hb0, hb1, hc0, by omega⟩
  · rw [if_neg (by simpa using hp)]
    generalize (b + (86028121 * (c + 1))) ^ 3 = t11
    have q0 : 0 ≤ t11 % 10000000000000000000000000000000000000000057 := Int.emod_nonneg _ (by decide)
    have q1 : t11 % 10000000000000000000000000000000000000000057 < 10000000000000000000000000000000000000000057 := Int.emod_lt_of_pos _ (by decide)
    generalize t11 % 10000000000000000000000000000000000000000057 = x at q0 q1
    have m5 : powO (x + (6700417 * (c + 1))) 2 = some ((x + (6700417 * (c + 1))) ^ 2) := pow_two (by omega) (by omega)
    have m6 : modO (((x + (6700417 * (c + 1))) ^ 2 + x) % 1000000000000000000000000000000000000000063 / 999983) many = some (((x + (6700417 * (c + 1))) ^ 2 + x) % 1000000000000000000000000000000000000000063 / 999983 % many) := if_pos h0
    simp only [m5, m6, Option.bind_some]
    exact ⟨_, _, rfl, Int.emod_nonneg _ (by omega), Int.emod_lt_of_pos _ h0, _, _, _, rfl, ha, hb0, hb1, by omega, by omega⟩
theorem takeC_ok {n : Nat} (hn : n < 2 ^ 60) {w : List Int} (h : WeC n w) {many : Int} (h0 : 0 < many) (hb : many < 2 ^ 64) : ∃ v w', takeC w many = some (v, w') ∧ 0 ≤ v ∧ v < many ∧ WeC (n + 1) w' :=
  takeC_big hn h h0 (Nat.lt_trans (log2_int (by omega) hb (by decide)) (by decide))
theorem idx_mem {α : Type} {xs : List α} {i : Int} (h0 : 0 ≤ i) (h : i < xs.length) : ∃ x, idx xs i = some x ∧ x ∈ xs := by
  have hl : i.toNat < xs.length := by omega
  exact ⟨xs[i.toNat], idx_of h0 (List.getElem?_eq_getElem hl), List.getElem_mem hl⟩
theorem straightC_lp : ∀ (w t : List Int), t.length + w.length ≤ sizeLine → lp (fun (s1 : (List Int)) (step2 : Int) => ((if (!decide (s1 = ([] : (List Int)))) = true then ((idx s1 (-1)).bind fun t6 => some (decide (t6 = (0 - step2)))) else some false).bind fun t7 => ((if t7 = true then ((popO s1).bind fun t8 => some t8.2) else ((appO s1 step2).bind fun t9 => some t9) : Option (List Int)).bind fun s10 => some s10))) w t.reverse = some (fl t w).reverse
  | [], _, _ => rfl
  | x :: w, t, h => by
    rw [List.length_cons] at h
    have h2 := psh_len t x
    have ih := straightC_lp w (psh t x) (by omega)
    unfold lp
    refine Eq.trans (congrArg (fun z => Option.bind z _) (?_ : _ = some (psh t x).reverse)) ih
    cases t with
    | nil =>
      have : appO ([] : List Int) x = some [x] := app_ok (by decide)
      simp [this, psh]
    | cons y t =>
      have hpos : (!decide ((y :: t).reverse = [])) = true := by simp
      rw [hpos, if_pos rfl, last_rev]
      by_cases hy : y = -x
      · have e : psh (y :: t) x = t := if_pos hy
        simp only [Option.bind_some, hy, show (-x : Int) = 0 - x by omega, decide_true, if_true]
        rw [show (0 : Int) - x = y by omega, pop_rev, e]
        rfl
      · have e : psh (y :: t) x = x :: y :: t := if_neg hy
        have hy' : ¬ y = 0 - x := by omega
        simp only [Option.bind_some, hy', decide_false, Bool.false_eq_true, if_false]
        rw [app_ok (by rw [List.length_reverse]; omega), e]
        simp
theorem straightC_ok {w : List Int} (h : w.length ≤ sizeLine) : straightC w = some (red w) := by
  unfold straightC
  exact bindS (straightC_lp w [] (by simpa using h)) rfl
theorem listText_le (ts : List Str) : (listText ts).length ≤ piled ts + 2 := by
  cases ts with
  | nil => decide
  | cons t r =>
    have h := textFrom_length_pos r 1 (("[" : Str) ++ (if (0 : Nat) > 0 then ", " else "" : String) ++ t) (Nat.succ_pos 0)
    have e : ((("[" : Str) ++ (if (0 : Nat) > 0 then ", " else "" : String) ++ t)).length = 1 + t.length := by
      rw [strLen_append, strLen_append]; rfl
    have hX : (listText (t :: r)).length = (textFrom 0 "[" (t :: r)).length + 1 := by
      show (textFrom 0 "[" (t :: r) ++ "]").length = _
      rw [strLen_append]; rfl
    have hY : (textFrom 0 "[" (t :: r)).length = (textFrom 1 (("[" : Str) ++ (if (0 : Nat) > 0 then ", " else "" : String) ++ t) r).length := rfl
    rw [hX, hY, h, e, piled_cons]; omega
theorem tupleText_le (ts : List Str) : (tupleText ts).length ≤ piled ts + 3 := by
  unfold tupleText
  rw [strLen_append, strLen_append]
  have e1 : ((("(" : String) : Str)).length = 1 := rfl
  have e3 : (((if ts.length == 1 then ",)" else ")" : String) : Str)).length ≤ 2 := by split <;> decide
  rw [e1]
  by_cases h : ts = []
  · subst h
    have : (Str.join ", " ([] : List Str)).length = 0 := rfl
    omega
  · have := join_length_add ts h
    omega
/-- what a datum needs so that its text can be asked for: no deeper than k, no longer than n -/
def Txt (k n : Nat) (d : PyData) : Prop := d.showable = true ∧ d.hasDict = false ∧ d.depth ≤ k ∧ d.shown.length ≤ n
theorem Txt.mono {k n k' n' : Nat} {d : PyData} (h : Txt k n d) (hk : k ≤ k') (hn : n ≤ n') : Txt k' n' d := ⟨h.1, h.2.1, Nat.le_trans h.2.2.1 hk, Nat.le_trans h.2.2.2 hn⟩
theorem Txt.repr {k n : Nat} {d : PyData} (h : Txt k n d) (hk : k ≤ 60) (hn : n ≤ sizeLine) : reprO d = some d.shown := if_pos ⟨h.1, h.2.1, Nat.le_trans h.2.2.1 hk, by
  unfold shortO
  rw [decide_eq_true (Nat.le_trans h.2.2.2 hn), Bool.or_true]⟩
theorem txt_int {i : Int} {k : Nat} (hk : 0 < k) (hk2 : k ≤ 1900) (h : i.natAbs < 2 ^ k) : Txt 0 (k + 1) (.int i) := by
  have hl := log2_small h hk
  refine ⟨by simp only [PyData.showable]; exact decide_eq_true (by omega), by simp only [PyData.hasDict], by simp only [PyData.depth]; omega, ?_⟩
  simp only [PyData.shown]
  have := int_text_length_le hk hl
  show (Str.ofString (toString i)).length ≤ k + 1
  rw [ofString_length]
  exact this
theorem txt_all {k n : Nat} : ∀ {ds : List PyData}, (∀ d ∈ ds, Txt k n d) → PyData.showableAll ds = true ∧ PyData.hasDictAll ds = false ∧ PyData.depthAll ds ≤ k ∧ piled (PyData.shownAll ds) ≤ ds.length * (n + 2)
  | [], _ => ⟨by simp only [PyData.showableAll], by simp only [PyData.hasDictAll], by simp only [PyData.depthAll]; omega, by simp [PyData.shownAll, piled]⟩
  | d :: ds, h => by
    obtain ⟨a1, a2, a3, a4⟩ := h d List.mem_cons_self
    obtain ⟨b1, b2, b3, b4⟩ := txt_all fun x hx => h x (List.mem_cons_of_mem _ hx)
    refine ⟨by simp only [PyData.showableAll, a1, b1, Bool.and_self], by simp only [PyData.hasDictAll, a2, b2, Bool.or_self], by simp only [PyData.depthAll]; omega, ?_⟩
    simp only [PyData.shownAll]
    rw [piled_cons, List.length_cons, Nat.add_mul]
    omega
theorem txt_list {k n : Nat} {ds : List PyData} (h : ∀ d ∈ ds, Txt k n d) : Txt (k + 1) (ds.length * (n + 2) + 2) (.list ds) := by
  obtain ⟨b1, b2, b3, b4⟩ := txt_all h
  refine ⟨by simp only [PyData.showable, b1], by simp only [PyData.hasDict, b2], by simp only [PyData.depth]; omega, ?_⟩
  simp only [PyData.shown]
  have := listText_le (PyData.shownAll ds)
  omega
theorem txt_tup {k n : Nat} {ds : List PyData} (h : ∀ d ∈ ds, Txt k n d) : Txt (k + 1) (ds.length * (n + 2) + 3) (.tuple ds) := by
  obtain ⟨b1, b2, b3, b4⟩ := txt_all h
  refine ⟨by simp only [PyData.showable, b1], by simp only [PyData.hasDict, b2], by simp only [PyData.depth]; omega, ?_⟩
  simp only [PyData.shown]
  have := tupleText_le (PyData.shownAll ds)
  omega
end Z
namespace Z
open PySem PySem.Spec L2
def Q_steps_of (letters : Int) : Option (List Int) :=
  ((rngO 1 (letters + 1)).bind fun t1 => ((lp (fun (s2 : (List Int)) (letter3 : Int) => ((catO (α := Int) s2 ([letter3, (-letter3)])).bind fun t7 => some t7)) t1 ([] : (List Int))).bind fun f4 => some f4))
def Q_is_integer (value : Int) : Option Bool :=
  some (true && true)
def Q_is_letters (value : Int) : Option Bool :=
  ((Q_is_integer value).bind fun t1 => some (t1 && (decide (1 ≤ value) && decide (value ≤ 4))))
def Q_is_a_row (value : (List Int)) (letters : Int) (rooms : Int) : Option Bool :=
  (if (false || (!decide ((value.length : Int) = letters))) = true then some false else ((lcO (β := Bool) (fun (room1 : Int) => ((Q_is_integer room1).bind fun t3 => some (t3 && (decide ((-1) ≤ room1) && decide (room1 < rooms))))) value).bind fun t4 => some (t4.all id)))
def Q_doors_of (rows : (List (List Int))) : Option (List (List (Int × Int))) :=
  ((lenO rows).bind fun z2 => (mapO (fun (row1 : (List Int)) => (some ([] : (List (Int × Int))) : Option (List (Int × Int)))) rows).bind fun t4 => ((lp (fun (s6 : (List (List (Int × Int)))) (x7 : (Int × (List Int))) => ((lp (fun (s11 : (List (List (Int × Int)))) (x12 : (Int × Int)) => ((if (decide (0 ≤ x12.2)) = true then ((idx s11 x7.1).bind fun t16 => (dPutO t16 (x12.1 + 1) x12.2).bind fun t17 => ((idx (setI s11 x7.1 t17) x12.2).bind fun t18 => (dPutO t18 ((-x12.1) - 1) x7.1).bind fun t19 => some (setI (setI s11 x7.1 t17) x12.2 t19))) else some s11 : Option (List (List (Int × Int)))).bind fun s20 => some s20)) (enum x7.2) s6).bind fun f13 => some f13)) (enum rows) t4).bind fun f8 => some f8))
def Q_is_one_way (rows : (List (List Int))) (letters : Int) : Option Bool :=
  ((rngO 0 letters).bind fun t1 => ((lpR (fun (s2 : Unit) (at_3 : Int) => (((lcG (β := Int) (fun (row7 : (List Int)) => ((idx row7 at_3).bind fun t9 => if (decide (0 ≤ t9)) = true then ((idx row7 at_3).bind fun t10 => some (some t10)) else some none)) rows).bind fun t11 => ((lenSetO t11).bind fun t12 => (if (decide (t12 < (t11.length : Int))) = true then some (Step.ret false) else some (Step.go ())))) : Option (Step Bool Unit))) t1 ()).bind fun f4o => Sum.elim (fun r14 => some r14) (fun f4 => some true) f4o))
def Q_first_order (letters : Int) (doors : (List (List (Int × Int)))) (home : Int) : Option (List Int) :=
  ((wh (fun (s3 : (Int × (List (Int × Bool)) × (List Int))) => some (decide (s3.1 < (s3.2.2.length : Int)))) (fun (s3 : (Int × (List (Int × Bool)) × (List Int))) => (((Q_steps_of letters).bind fun t7 => ((lp (fun (s8 : ((List (Int × Bool)) × (List Int))) (step9 : Int) => ((idx s8.2 s3.1).bind fun t13 => (idx doors t13).bind fun t14 => (match (dGet t14 step9) with | none => (some (s8.1, s8.2)) | some goal15 => ((if (true && (!(dGet s8.1 goal15).isSome)) = true then ((dPutO s8.1 goal15 true).bind fun t16 => ((appO s8.2 goal15).bind fun t17 => some (t16, t17))) else some (s8.1, s8.2) : Option ((List (Int × Bool)) × (List Int))).bind fun s18 => some (s18.1, s18.2))))) t7 (s3.2.1, s3.2.2)).bind fun f10 => some (Step.go ((s3.1 + 1), f10.1, f10.2)))) : Option (Step (List Int) (Int × (List (Int × Bool)) × (List Int))))) 1000 (0, [(home, true)], [home])).bind fun f4o => Sum.elim (fun r21 => none) (fun f4 => some f4.2.2) f4o)
def Q_is_a_web (value : (Int × (List (List Int)))) : Option Bool :=
  ((if false = true then some true else ((if (!decide (2 = 2)) = true then some true else ((Q_is_letters value.1).bind fun t1 => some (!t1))).bind fun t2 => some t2)).bind fun t3 => (if t3 = true then some false else (if (false || (decide ((value.2.length : Int) = 0))) = true then some false else ((lcO (β := Bool) (fun (row4 : (List Int)) => ((Q_is_a_row row4 value.1 (value.2.length : Int)).bind fun t6 => some t6)) value.2).bind fun t7 => (if (!(t7.all id)) = true then some true else ((Q_is_one_way value.2 value.1).bind fun t8 => some (!t8))).bind fun t9 => (if t9 = true then some false else ((Q_doors_of value.2).bind fun t10 => ((lcT (fun (steps11 : (List (Int × Int))) => (decide ((steps11.length : Int) < 2))) (cut t10 (some 1) none)).bind fun t13 => (if (t13.any id) = true then some false else ((Q_first_order value.1 t10 0).bind fun t14 => (rgO 0 (value.2.length : Int)).bind fun t15 => some (decide (t14 = t15)))))))))))
def Q_need_web (web : (Int × (List (List Int)))) : Option Unit :=
  ((Q_is_a_web web).bind fun t1 => (if (!t1) = true then none else some ()))
def P_steps (letters : Int) : Option (List Int) :=
  ((rngO 1 (letters + 1)).bind fun t1 => ((lp (fun (s2 : (List Int)) (letter3 : Int) => ((catO (α := Int) s2 ([letter3, (-letter3)])).bind fun t7 => some t7)) t1 ([] : (List Int))).bind fun f4 => some f4))
theorem bndX {α β : Type} {m : Option α} {k : α → Option β} {a : α} {P : β → Prop} (h : m = some a) (h2 : ∃ r, k a = some r ∧ P r) : ∃ r, m.bind k = some r ∧ P r := by
  rw [h]
  exact h2
theorem sizeL : sizeLine = 16777216 := by decide
/-- three cells, of which so many draws were made at most -/
def Pot (n : Nat) (w : List Int) : Prop := ∃ a b c : Int, w = [a, b, c] ∧ 0 ≤ a ∧ 0 ≤ b ∧ b < 2 ^ 100 ∧ 0 ≤ c ∧ c ≤ n
theorem Pot.mono {n m : Nat} {w : List Int} (h : Pot n w) (hm : n ≤ m) : Pot m w := by
  obtain ⟨a, b, c, e, h1, h2, h3, h4, h5⟩ := h
  exact ⟨a, b, c, e, h1, h2, h3, h4, by omega⟩
def stL (L : Int) : List Int := (range' 1 (L + 1)).flatMap fun l => [l, -l]
theorem four {P : Int → Prop} {L : Int} (h1 : 1 ≤ L) (h4 : L ≤ 4) (a : P 1) (b : P 2) (c : P 3) (d : P 4) : P L := by
  have : L = 1 ∨ L = 2 ∨ L = 3 ∨ L = 4 := by omega
  rcases this with rfl | rfl | rfl | rfl <;> assumption
theorem steps_ok' {L : Int} (h1 : 1 ≤ L) (h4 : L ≤ 4) : P_steps L = some (stL L) := four (P := fun L => P_steps L = some (stL L)) h1 h4 (by decide) (by decide) (by decide) (by decide)
theorem steps_of_ok {L : Int} (h1 : 1 ≤ L) (h4 : L ≤ 4) : Q_steps_of L = some (stL L) := steps_ok' h1 h4
theorem mem_stL {L s : Int} : s ∈ stL L ↔ Sok L s := by
  unfold stL Sok
  rw [List.mem_flatMap]
  constructor
  · rintro ⟨l, hl, hs⟩
    have := mem_rng hl
    simp only [List.mem_cons, List.not_mem_nil, or_false] at hs
    omega
  · intro h
    refine ⟨(s.natAbs : Int), ?_, ?_⟩
    · unfold range'
      refine List.mem_map.mpr ⟨s.natAbs - 1, List.mem_range.mpr (by omega), by omega⟩
    · simp only [List.mem_cons, List.not_mem_nil, or_false]
      omega
theorem stL_nd {L : Int} (h1 : 1 ≤ L) (h4 : L ≤ 4) : (stL L).Nodup := four (P := fun L => (stL L).Nodup) h1 h4 (by decide) (by decide) (by decide) (by decide)
theorem stL_len {L : Int} (h1 : 1 ≤ L) (h4 : L ≤ 4) : (stL L).length ≤ 8 := four (P := fun L => (stL L).length ≤ 8) h1 h4 (by decide) (by decide) (by decide) (by decide)
theorem nodup_le {α : Type} [DecidableEq α] : ∀ (l k : List α), l.Nodup → (∀ x ∈ l, x ∈ k) → l.length ≤ k.length
  | [], _, _, _ => Nat.zero_le _
  | x :: l, k, h, hs => by
    have hx := hs x List.mem_cons_self
    have h2 := List.nodup_cons.mp h
    have := nodup_le l (k.erase x) h2.2 (fun y hy => (List.mem_erase_of_ne (fun e => h2.1 (by rw [← e]; exact hy))).mpr (hs y (List.mem_cons_of_mem _ hy)))
    rw [List.length_erase_of_mem hx] at this
    have := List.length_pos_of_mem hx
    rw [List.length_cons]
    omega
section
variable {κ β : Type} [DecidableEq κ]
theorem dGet_nil (k : κ) : dGet ([] : List (κ × β)) k = none := rfl
theorem dGet_cons (p : κ × β) (d : List (κ × β)) (k : κ) : dGet (p :: d) k = if p.1 = k then some p.2 else dGet d k := by
  unfold dGet
  rw [List.find?_cons]
  by_cases h : p.1 = k
  · simp [h]
  · simp [h]
theorem dGet_mem : ∀ {d : List (κ × β)} {k : κ} {v : β}, dGet d k = some v → (k, v) ∈ d
  | [], _, _, h => by cases h
  | p :: d, k, v, h => by
    rw [dGet_cons] at h
    by_cases e : p.1 = k
    · rw [if_pos e] at h
      cases h
      subst e
      exact List.mem_cons_self
    · rw [if_neg e] at h
      exact List.mem_cons_of_mem _ (dGet_mem h)
theorem mem_dGet : ∀ {d : List (κ × β)} {k : κ} {v : β}, (d.map Prod.fst).Nodup → (k, v) ∈ d → dGet d k = some v
  | [], _, _, _, h => by cases h
  | p :: d, k, v, hn, h => by
    rw [dGet_cons]
    rw [List.map_cons, List.nodup_cons] at hn
    rcases List.mem_cons.mp h with h | h
    · subst h
      rw [if_pos rfl]
    · rw [if_neg (fun e => hn.1 (by rw [e]; exact List.mem_map.mpr ⟨_, h, rfl⟩))]
      exact mem_dGet hn.2 h
theorem dGet_key_mem {d : List (κ × β)} {k : κ} : (dGet d k).isSome = true ↔ k ∈ d.map Prod.fst := by
  constructor
  · intro h
    obtain ⟨v, hv⟩ := Option.isSome_iff_exists.mp h
    exact List.mem_map.mpr ⟨_, dGet_mem hv, rfl⟩
  · intro h
    induction d with
    | nil => cases h
    | cons p d ih =>
      rw [dGet_cons]
      by_cases e : p.1 = k
      · rw [if_pos e]; rfl
      · rw [if_neg e]
        rw [List.map_cons] at h
        rcases List.mem_cons.mp h with h | h
        · exact absurd h.symm e
        · exact ih h
theorem dGet_set (k : κ) (v : β) (k' : κ) : ∀ d : List (κ × β), dGet (d.map fun kv => if kv.1 = k then (kv.1, v) else kv) k' = if k = k' then (dGet d k).map (fun _ => v) else dGet d k'
  | [] => by by_cases h : k = k' <;> simp [h, dGet_nil]
  | p :: d => by
    rw [List.map_cons, dGet_cons, dGet_set k v k' d, dGet_cons, dGet_cons]
    by_cases h1 : p.1 = k
    · by_cases h2 : k = k'
      · subst h2; simp [h1]
      · have h3 : ¬ p.1 = k' := fun e => h2 (h1.symm.trans e)
        simp [h1, h2]
    · by_cases h2 : k = k'
      · subst h2; simp [h1]
      · simp [h1, h2]
theorem dGet_snoc (k : κ) (v : β) (k' : κ) : ∀ d : List (κ × β), dGet (d ++ [(k, v)]) k' = (dGet d k').or (if k = k' then some v else none)
  | [] => by rw [List.nil_append, dGet_cons]; rfl
  | p :: d => by
    rw [List.cons_append, dGet_cons, dGet_cons, dGet_snoc k v k' d]
    by_cases h : p.1 = k' <;> simp [h]
theorem any_key (d : List (κ × β)) (k : κ) : (d.any fun kv => decide (kv.1 = k)) = (dGet d k).isSome := by
  induction d with
  | nil => rfl
  | cons p d ih =>
    rw [List.any_cons, dGet_cons, ih]
    by_cases h : p.1 = k <;> simp [h]
theorem dGet_put (d : List (κ × β)) (k : κ) (v : β) (k' : κ) : dGet (dPut d k v) k' = if k = k' then some v else dGet d k' := by
  unfold dPut
  rw [any_key]
  by_cases h : (dGet d k).isSome = true
  · rw [if_pos h, dGet_set]
    obtain ⟨w, hw⟩ := Option.isSome_iff_exists.mp h
    rw [hw]
    rfl
  · rw [if_neg h, dGet_snoc]
    by_cases e : k = k'
    · subst e
      have : dGet d k = none := by simpa using h
      simp [this]
    · simp [e]
theorem dPut_keys (d : List (κ × β)) (k : κ) (v : β) : (dPut d k v).map Prod.fst = if (dGet d k).isSome = true then d.map Prod.fst else d.map Prod.fst ++ [k] := by
  unfold dPut
  rw [any_key]
  by_cases h : (dGet d k).isSome = true
  · rw [if_pos h, if_pos h, List.map_map]
    refine List.map_congr_left fun p _ => ?_
    show (if p.1 = k then (p.1, v) else p).1 = p.1
    split <;> rfl
  · rw [if_neg h, if_neg h, List.map_append]
    rfl
theorem dPut_nd {d : List (κ × β)} (h : (d.map Prod.fst).Nodup) (k : κ) (v : β) : ((dPut d k v).map Prod.fst).Nodup := by
  rw [dPut_keys]
  split
  · exact h
  · rename_i hn
    rw [List.nodup_append]
    refine ⟨h, by simp, fun a ha b hb => ?_⟩
    rw [List.mem_singleton.mp hb]
    exact fun e => hn (dGet_key_mem.mpr (e ▸ ha))
theorem dDel_nd {d : List (κ × β)} (h : (d.map Prod.fst).Nodup) (k : κ) : ((dDel d k).map Prod.fst).Nodup := by
  unfold dDel
  exact h.sublist (List.Sublist.map _ List.filter_sublist)
theorem dGet_del (k k' : κ) : ∀ d : List (κ × β), dGet (dDel d k) k' = if k = k' then none else dGet d k'
  | [] => by by_cases h : k = k' <;> simp [h, dDel, dGet_nil]
  | p :: d => by
    have ih := dGet_del k k' d
    unfold dDel at ih ⊢
    rw [List.filter_cons]
    by_cases h : p.1 = k
    · simp only [h, ne_eq, not_true_eq_false, decide_false, Bool.false_eq_true, if_false]
      rw [ih, dGet_cons, h]
      by_cases e : k = k' <;> simp [e]
    · have : decide (p.1 ≠ k) = true := by simp [h]
      rw [if_pos this, dGet_cons, ih, dGet_cons]
      by_cases e : k = k'
      · subst e; simp [h]
      · simp [e]
theorem putO_ok {d : List (κ × β)} {k : κ} {v : β} (h : d.length < sizeLine) : dPutO d k v = some (dPut d k v) := if_pos h
end
abbrev Dd := List (List (Int × Int))
def row (D : Dd) (a : Int) : List (Int × Int) := D.getD a.toNat []
def go (D : Dd) (a s : Int) : Option Int := dGet (row D a) s
theorem getD_set' {α : Type} (l : List α) (i j : Nat) (x d : α) (h : i < l.length) : (l.set i x).getD j d = if i = j then x else l.getD j d := by
  rw [List.getD_eq_getElem?_getD, List.getElem?_set, List.getD_eq_getElem?_getD]
  by_cases e : i = j
  · rw [if_pos e, if_pos e, if_pos h]; rfl
  · rw [if_neg e, if_neg e]
theorem setI_nn {α : Type} {xs : List α} {a : Int} (h0 : 0 ≤ a) (h : a < xs.length) (x : α) : setI xs a x = xs.set a.toNat x := by
  unfold setI ixD ixN
  rw [if_pos h0, if_pos (by omega)]
  rfl
theorem idx_row {D : Dd} {a : Int} (h0 : 0 ≤ a) (h : a < D.length) : idx D a = some (row D a) := by
  have hl : a.toNat < D.length := by omega
  refine idx_of h0 ?_
  unfold row
  rw [List.getD_eq_getElem?_getD, List.getElem?_eq_getElem hl]
  rfl
theorem row_set {D : Dd} {a b : Int} (h0 : 0 ≤ a) (h : a < D.length) (hb : 0 ≤ b) (d : List (Int × Int)) : row (setI D a d) b = if a = b then d else row D b := by
  unfold row
  rw [setI_nn h0 h, getD_set' _ _ _ _ _ (by omega)]
  by_cases e : a = b
  · rw [if_pos e, if_pos (by omega)]
  · rw [if_neg e, if_neg (by omega)]
theorem row_mem {D : Dd} {a : Int} (h0 : 0 ≤ a) (h : a < D.length) : row D a ∈ D := by
  have hl : a.toNat < D.length := by omega
  unfold row
  rw [List.getD_eq_getElem?_getD, List.getElem?_eq_getElem hl]
  exact List.getElem_mem hl
theorem go_lt {D : Dd} {a s b : Int} (h0 : 0 ≤ a) (h : go D a s = some b) : a < D.length := by
  refine Int.not_le.mp fun hn => ?_
  unfold go row at h
  rw [List.getD_eq_getElem?_getD, List.getElem?_eq_none_iff.mpr (by omega)] at h
  cases h
def putD (D : Dd) (a s b : Int) : Dd := setI (setI D a (dPut (row D a) s b)) b (dPut (row (setI D a (dPut (row D a) s b)) b) (-s) a)
def delD (D : Dd) (a s b : Int) : Dd := setI (setI D a (dDel (row D a) s)) b (dDel (row (setI D a (dDel (row D a) s)) b) (-s))
theorem putD_len (D : Dd) (a s b : Int) : (putD D a s b).length = D.length := by unfold putD; rw [setI_len, setI_len]
theorem delD_len (D : Dd) (a s b : Int) : (delD D a s b).length = D.length := by unfold delD; rw [setI_len, setI_len]
section
variable {D : Dd} {a b s : Int} (a0 : 0 ≤ a) (a1 : a < D.length) (b0 : 0 ≤ b) (b1 : b < D.length) (hs : s ≠ 0)
include a0 a1 b0 b1 hs
theorem go_put {x : Int} (hx : 0 ≤ x) (t : Int) : go (putD D a s b) x t = if x = b ∧ t = -s then some a else if x = a ∧ t = s then some b else go D x t := by
  unfold go putD
  rw [row_set b0 (by rw [setI_len]; exact b1) hx]
  by_cases hb : b = x
  · subst hb
    rw [if_pos rfl, dGet_put]
    by_cases ht : -s = t
    · rw [if_pos ht, if_pos ⟨rfl, ht.symm⟩]
    · rw [if_neg ht, if_neg (fun z => ht z.2.symm), row_set a0 a1 b0]
      by_cases ha : a = b
      · subst ha
        rw [if_pos rfl, dGet_put]
        by_cases e : s = t
        · rw [if_pos e, if_pos ⟨rfl, e.symm⟩]
        · rw [if_neg e, if_neg (fun z => e z.2.symm)]
      · rw [if_neg ha, if_neg (fun z => ha z.1.symm)]
  · rw [if_neg hb, if_neg (fun z => hb z.1.symm), row_set a0 a1 hx]
    by_cases ha : a = x
    · subst ha
      rw [if_pos rfl, dGet_put]
      by_cases e : s = t
      · rw [if_pos e, if_pos ⟨rfl, e.symm⟩]
      · rw [if_neg e, if_neg (fun z => e z.2.symm)]
    · rw [if_neg ha, if_neg (fun z => ha z.1.symm)]
theorem go_del {x : Int} (hx : 0 ≤ x) (t : Int) : go (delD D a s b) x t = if (x = b ∧ t = -s) ∨ (x = a ∧ t = s) then none else go D x t := by
  unfold go delD
  rw [row_set b0 (by rw [setI_len]; exact b1) hx]
  by_cases hb : b = x
  · subst hb
    rw [if_pos rfl, dGet_del]
    by_cases ht : -s = t
    · rw [if_pos ht, if_pos (.inl ⟨rfl, ht.symm⟩)]
    · rw [if_neg ht, row_set a0 a1 b0]
      by_cases ha : a = b
      · subst ha
        rw [if_pos rfl, dGet_del]
        by_cases e : s = t
        · rw [if_pos e, if_pos (.inr ⟨rfl, e.symm⟩)]
        · rw [if_neg e, if_neg (by rintro (z | z); exact ht z.2.symm; exact e z.2.symm)]
      · rw [if_neg ha, if_neg (by rintro (z | z); exact ht z.2.symm; exact ha z.1.symm)]
  · rw [if_neg hb, row_set a0 a1 hx]
    by_cases ha : a = x
    · subst ha
      rw [if_pos rfl, dGet_del]
      by_cases e : s = t
      · rw [if_pos e, if_pos (.inr ⟨rfl, e.symm⟩)]
      · rw [if_neg e, if_neg (by rintro (z | z); exact hb z.1.symm; exact e z.2.symm)]
    · rw [if_neg ha, if_neg (by rintro (z | z); exact hb z.1.symm; exact ha z.1.symm)]
end
/-- doors that lead there and back -/
structure Dr (L : Int) (n : Nat) (D : Dd) : Prop where
  len : D.length = n
  nd : ∀ d ∈ D, (d.map Prod.fst).Nodup
  ok : ∀ a s b, 0 ≤ a → go D a s = some b → 0 ≤ b ∧ b < n ∧ Sok L s ∧ go D b (-s) = some a
theorem Dr.nil (L : Int) (n : Nat) {D : Dd} (h : D = List.replicate n []) : Dr L n D := by
  subst h
  refine ⟨List.length_replicate, fun d hd => ?_, fun a s b h0 h => ?_⟩
  · rw [(List.mem_replicate.mp hd).2]
    simp
  · have hr : row (List.replicate n []) a = [] := by
      unfold row
      rw [List.getD_eq_getElem?_getD, List.getElem?_replicate]
      split <;> rfl
    unfold go at h
    rw [hr] at h
    cases h
theorem Dr.put {L : Int} {n : Nat} {D : Dd} (h : Dr L n D) {a s b : Int} (a0 : 0 ≤ a) (a1 : a < n) (b0 : 0 ≤ b) (b1 : b < n) (hs : Sok L s) (f1 : go D a s = none) (f2 : go D b (-s) = none) : Dr L n (putD D a s b) := by
  have a1' : a < D.length := by rw [h.len]; exact a1
  have b1' : b < D.length := by rw [h.len]; exact b1
  have hz := hs.1
  refine ⟨by rw [putD_len]; exact h.len, fun d hd => ?_, fun x t y hx hy => ?_⟩
  · unfold putD at hd
    rcases List.mem_or_eq_of_mem_set hd with hd | rfl
    · rcases List.mem_or_eq_of_mem_set hd with hd | rfl
      · exact h.nd d hd
      · exact dPut_nd (h.nd _ (row_mem a0 a1')) _ _
    · refine dPut_nd ?_ _ _
      rw [row_set a0 a1' b0]
      split
      · exact dPut_nd (h.nd _ (row_mem a0 a1')) _ _
      · exact h.nd _ (row_mem b0 b1')
  · rw [go_put a0 a1' b0 b1' hz hx] at hy
    by_cases e1 : x = b ∧ t = -s
    · rw [if_pos e1] at hy
      cases hy
      refine ⟨a0, a1, by rw [e1.2]; exact hs.neg, ?_⟩
      rw [go_put a0 a1' b0 b1' hz a0, if_neg (fun z => by omega), if_pos ⟨rfl, by omega⟩, e1.1]
    · rw [if_neg e1] at hy
      by_cases e2 : x = a ∧ t = s
      · rw [if_pos e2] at hy
        cases hy
        refine ⟨b0, b1, by rw [e2.2]; exact hs, ?_⟩
        rw [go_put a0 a1' b0 b1' hz b0, if_pos ⟨rfl, by omega⟩, e2.1]
      · rw [if_neg e2] at hy
        obtain ⟨y0, y1, ht, hb⟩ := h.ok x t y hx hy
        refine ⟨y0, y1, ht, ?_⟩
        rw [go_put a0 a1' b0 b1' hz y0, if_neg, if_neg]
        · exact hb
        · rintro ⟨rfl, e⟩
          rw [e, f1] at hb
          cases hb
        · rintro ⟨rfl, e⟩
          rw [e, f2] at hb
          cases hb
theorem Dr.del {L : Int} {n : Nat} {D : Dd} (h : Dr L n D) {a s b : Int} (a0 : 0 ≤ a) (f : go D a s = some b) : Dr L n (delD D a s b) := by
  obtain ⟨b0, b1, hs, g⟩ := h.ok a s b a0 f
  have a1' : a < D.length := go_lt a0 f
  have b1' : b < D.length := by rw [h.len]; exact b1
  have hz := hs.1
  refine ⟨by rw [delD_len]; exact h.len, fun d hd => ?_, fun x t y hx hy => ?_⟩
  · unfold delD at hd
    rcases List.mem_or_eq_of_mem_set hd with hd | rfl
    · rcases List.mem_or_eq_of_mem_set hd with hd | rfl
      · exact h.nd d hd
      · exact dDel_nd (h.nd _ (row_mem a0 a1')) _
    · refine dDel_nd ?_ _
      rw [row_set a0 a1' b0]
      split
      · exact dDel_nd (h.nd _ (row_mem a0 a1')) _
      · exact h.nd _ (row_mem b0 b1')
  · rw [go_del a0 a1' b0 b1' hz hx] at hy
    split at hy
    · cases hy
    · rename_i hn
      obtain ⟨y0, y1, ht, hb⟩ := h.ok x t y hx hy
      refine ⟨y0, y1, ht, ?_⟩
      rw [go_del a0 a1' b0 b1' hz y0, if_neg]
      · exact hb
      · rintro (⟨rfl, e⟩ | ⟨rfl, e⟩)
        · have e' : t = s := by omega
          subst e'
          rw [g] at hb
          cases hb
          exact hn (.inr ⟨rfl, rfl⟩)
        · have e' : t = -s := by omega
          subst e'
          rw [e, f] at hb
          cases hb
          exact hn (.inl ⟨rfl, rfl⟩)
theorem eightL : ∀ s : Int, Sok 4 s → s ∈ [1, -1, 2, -2, 3, -3, 4, (-4 : Int)] := fun s h => by
  obtain ⟨h1, h2, h3⟩ := h
  simp only [List.mem_cons, List.not_mem_nil, or_false]
  omega
theorem Dr.small {L : Int} {n : Nat} {D : Dd} (h : Dr L n D) (h4 : L ≤ 4) {a : Int} (a0 : 0 ≤ a) : (row D a).length ≤ 8 := by
  by_cases ha : a < D.length
  · have hn := h.nd _ (row_mem a0 ha)
    have := nodup_le ((row D a).map Prod.fst) [1, -1, 2, -2, 3, -3, 4, (-4 : Int)] hn fun k hk => by
      obtain ⟨p, hp, rfl⟩ := List.mem_map.mp hk
      obtain ⟨k, v⟩ := p
      have hg : go D a k = some v := mem_dGet hn hp
      exact eightL _ ((h.ok a k v a0 hg).2.2.1.mono h4)
    rw [List.length_map] at this
    exact this
  · unfold row
    rw [List.getD_eq_getElem?_getD, List.getElem?_eq_none_iff.mpr (by omega)]
    exact Nat.zero_le _
theorem Dr.rowok {L : Int} {n : Nat} {D : Dd} (h : Dr L n D) {a : Int} (a0 : 0 ≤ a) : ((row D a).map Prod.fst).Nodup := by
  by_cases ha : a < D.length
  · exact h.nd _ (row_mem a0 ha)
  · unfold row
    rw [List.getD_eq_getElem?_getD, List.getElem?_eq_none_iff.mpr (by omega)]
    exact List.nodup_nil
/-- both ends of a way are laid -/
theorem put_run {L : Int} {n : Nat} {D : Dd} (h : Dr L n D) (h4 : L ≤ 4) {a b k k2 : Int} (a0 : 0 ≤ a) (a1 : a < n) (b0 : 0 ≤ b) (b1 : b < n) (hk : k2 = -k) :
    ((idx D a).bind fun t16 => (dPutO t16 k b).bind fun t17 => ((idx (setI D a t17) b).bind fun t18 => (dPutO t18 k2 a).bind fun t19 => some (setI (setI D a t17) b t19))) = some (putD D a k b) := by
  subst hk
  have a1' : a < D.length := by rw [h.len]; exact a1
  have b1' : b < D.length := by rw [h.len]; exact b1
  have s1 := h.small h4 a0
  have s2 := h.small h4 b0
  have s3 := dput_len (row D a) k b
  refine bindS (idx_row a0 a1') (bindS (putO_ok (by rw [sizeL]; omega)) (bindS (idx_row b0 (by rw [setI_len]; exact b1')) (bindS (putO_ok ?_) rfl)))
  rw [row_set a0 a1' b0, sizeL]
  split <;> omega
end Z
namespace Z
open PySem PySem.Spec L2
theorem lpX {α S β : Type} {f : S → α → Option S} {xs : List α} {s0 : S} {k : S → Option β} {Q : β → Prop} (P : Nat → S → Prop) (h0 : P 0 s0) (step : ∀ (i : Nat) (x : α) (s : S), xs[i]? = some x → P i s → ∃ s', f s x = some s' ∧ P (i + 1) s') (hk : ∀ s, P xs.length s → ∃ r, k s = some r ∧ Q r) : ∃ r, (lp f xs s0).bind k = some r ∧ Q r := by
  obtain ⟨s, e, h⟩ := lp_goN P step h0
  rw [e]
  exact hk s h
theorem lpRX {α R S β : Type} {f : S → α → Option (Step R S)} {xs : List α} {s0 : S} {k : Sum R S → Option β} {Q : β → Prop} (P : Nat → S → Prop) (h0 : P 0 s0) (step : ∀ (i : Nat) (x : α) (s : S), xs[i]? = some x → P i s → ∃ s', f s x = some (.go s') ∧ P (i + 1) s') (hk : ∀ s, P xs.length s → ∃ r, k (.inr s) = some r ∧ Q r) : ∃ r, (lpR f xs s0).bind k = some r ∧ Q r := by
  obtain ⟨s, e, h⟩ := lpR_goN P step h0
  rw [e]
  exact hk s h
theorem whX {R S β : Type} {c : S → Option Bool} {f : S → Option (Step R S)} {k : Sum R S → Option β} {Q : β → Prop} (P : S → Prop) (μ : S → Nat) {n : Nat} {s0 : S} (h0 : P s0) (hn : μ s0 < n) (step : ∀ s, P s → c s = some false ∨ (c s = some true ∧ ∃ s', f s = some (.go s') ∧ P s' ∧ μ s' < μ s)) (hk : ∀ s, P s → c s = some false → ∃ r, k (.inr s) = some r ∧ Q r) : ∃ r, (wh c f n s0).bind k = some r ∧ Q r := by
  have : ∃ s, wh c f n s0 = some (.inr s) ∧ P s ∧ c s = some false := by
    induction n generalizing s0 with
    | zero => exact absurd hn (Nat.not_lt_zero _)
    | succ n ih =>
      unfold wh
      rcases step s0 h0 with e | ⟨e, s', e2, h2, h3⟩
      · exact ⟨s0, bindS e (if_neg (by simp)), h0, e⟩
      · obtain ⟨s, h4, h5⟩ := ih h2 (by omega)
        exact ⟨s, bindS e ((if_pos rfl).trans (bindS e2 h4)), h5⟩
  obtain ⟨s, e, h, h2⟩ := this
  rw [e]
  exact hk s h h2
theorem mapG_some {α β : Type} {f : α → Option (Option β)} {g : α → Option β} : ∀ {xs : List α}, (∀ x ∈ xs, f x = some (g x)) → mapG f xs = some (xs.filterMap g)
  | [], _ => rfl
  | x :: xs, h => by
    unfold mapG
    rw [h x List.mem_cons_self, mapG_some fun y hy => h y (List.mem_cons_of_mem _ hy)]
    cases hg : g x <;> simp [hg]
theorem lcG_some {α β : Type} {f : α → Option (Option β)} (g : α → Option β) {xs : List α} (hl : xs.length < sizeLine) (h : ∀ x ∈ xs, f x = some (g x)) : lcG f xs = some (xs.filterMap g) := by
  unfold lcG
  rw [if_pos hl]
  exact mapG_some h
theorem rngAt {a b x : Int} {i : Nat} (h : (range' a b)[i]? = some x) : x = a + i ∧ i < (b - a).toNat := by
  unfold range' at h
  rw [List.getElem?_map] at h
  cases e : (List.range (b - a).toNat)[i]? with
  | none => rw [e] at h; cases h
  | some y =>
    rw [e] at h
    obtain ⟨h1, h2⟩ := List.getElem?_eq_some_iff.mp e
    rw [List.getElem_range] at h2
    rw [List.length_range] at h1
    subst h2
    cases h
    exact ⟨rfl, h1⟩
theorem erase_out {α : Type} {l : List α} {v : Nat} {g : α} (hn : l.Nodup) (h : l[v]? = some g) : g ∉ l.eraseIdx v ∧ (l.eraseIdx v).Nodup ∧ (∀ x ∈ l.eraseIdx v, x ∈ l) ∧ (l.eraseIdx v).length + 1 = l.length := by
  have hv := (List.getElem?_eq_some_iff.mp h).1
  have e : l = l.take v ++ g :: l.drop (v + 1) := by
    have := (List.getElem?_eq_some_iff.mp h).2
    rw [← this, List.getElem_cons_drop, List.take_append_drop]
  have e2 : l.eraseIdx v = l.take v ++ l.drop (v + 1) := List.eraseIdx_eq_take_drop_succ _ _
  refine ⟨?_, hn.sublist (List.eraseIdx_sublist _ _), fun x hx => (List.eraseIdx_sublist _ _).subset hx, ?_⟩
  · rw [e2]
    rw [e, List.nodup_append] at hn
    obtain ⟨_, h2, h3⟩ := hn
    rw [List.nodup_cons] at h2
    intro hm
    rcases List.mem_append.mp hm with hm | hm
    · exact h3 g hm g List.mem_cons_self rfl
    · exact h2.1 hm
  · rw [List.length_eraseIdx_of_lt hv]; omega
theorem popI_ok {α : Type} {xs : List α} {v : Int} (h0 : 0 ≤ v) (h : v < xs.length) (hb : v < 2 ^ 63) : ∃ g, popI xs v = some (g, xs.eraseIdx v.toNat) ∧ xs[v.toNat]? = some g := by
  have hl : v.toNat < xs.length := by omega
  refine ⟨xs[v.toNat], ?_, List.getElem?_eq_getElem hl⟩
  unfold popI
  rw [if_pos (by omega)]
  have : seqIndex? v xs.length = some v.toNat := by
    unfold seqIndex?
    simp
    omega
  rw [this]
  show (xs[v.toNat]?).map _ = _
  rw [List.getElem?_eq_getElem hl]
  rfl
theorem empties {α : Type} {xs : List α} (h : xs.length < sizeLine) : ((lenO xs).bind fun (z : Unit) => mapO (fun (_ : α) => (some ([] : List (Int × Int)) : Option (List (Int × Int)))) xs) = some (List.replicate xs.length []) := by
  refine bindS (a := ()) (if_pos h) ?_
  rw [mapO_some (g := fun _ => ([] : List (Int × Int))) (fun _ _ => rfl), List.map_const']
end Z
namespace Z
open PySem PySem.Spec L2
theorem small_of {d : List (Int × Int)} (hn : (d.map Prod.fst).Nodup) (h : ∀ k v, dGet d k = some v → Sok 4 k) : d.length ≤ 8 := by
  have := nodup_le (d.map Prod.fst) [1, -1, 2, -2, 3, -3, 4, (-4 : Int)] hn fun k hk => by
    obtain ⟨v, hv⟩ := Option.isSome_iff_exists.mp (dGet_key_mem.mpr hk)
    exact eightL _ (h k v hv)
  rw [List.length_map] at this
  exact this
/-- ways laid there and back -/
def WyR (L c : Int) (W : List (Tri Int Int Int)) : Prop := ∀ t ∈ W, 0 ≤ t.a ∧ t.a < c ∧ 0 ≤ t.c ∧ t.c < c ∧ Sok L t.b ∧ Tri.mk t.c (-t.b) t.a ∈ W
theorem WyR.mono {L c d : Int} {W : List (Tri Int Int Int)} (h : WyR L c W) (hc : c ≤ d) : WyR L d W := fun t ht => by
  obtain ⟨a, b, e, f, g, i⟩ := h t ht
  exact ⟨a, by omega, e, by omega, g, i⟩
theorem WyR.app {L c : Int} {W : List (Tri Int Int Int)} (h : WyR L c W) {a s b : Int} (a0 : 0 ≤ a) (a1 : a < c) (b0 : 0 ≤ b) (b1 : b < c) (hs : Sok L s) : WyR L c (W ++ [Tri.mk a s b] ++ [Tri.mk b (-s) a]) := fun t ht => by
  rcases List.mem_append.mp ht with ht | ht
  · rcases List.mem_append.mp ht with ht | ht
    · obtain ⟨h1, h2, h3, h4, h5, h6⟩ := h t ht
      exact ⟨h1, h2, h3, h4, h5, List.mem_append_left _ (List.mem_append_left _ h6)⟩
    · rw [List.mem_singleton.mp ht]
      exact ⟨a0, a1, b0, b1, hs, List.mem_append_right _ (List.mem_singleton.mpr rfl)⟩
  · rw [List.mem_singleton.mp ht]
    refine ⟨b0, b1, a0, a1, hs.neg, List.mem_append_left _ (List.mem_append_right _ ?_)⟩
    show Tri.mk a (- -s) b ∈ _
    rw [Int.neg_neg]
    exact List.mem_singleton.mpr rfl
theorem mm {z y : Int} : (maxI z y = z ∧ minI z y = y ∧ y ≤ z) ∨ (maxI z y = y ∧ minI z y = z ∧ z ≤ y) := by
  unfold maxI minI
  by_cases h : z < y
  · right
    refine ⟨?_, ?_, by omega⟩ <;> (repeat' split) <;> omega
  · left
    refine ⟨?_, ?_, by omega⟩ <;> (repeat' split) <;> omega
end Z
namespace Z
open PySem PySem.Spec L2
def vis (o : List Int) (g : Int) : List Int := if g ∈ o then o else o ++ [g]
def visA (o gs : List Int) : List Int := gs.foldl vis o
def ord (nb : Int → List Int) : Nat → List Int
  | 0 => [0]
  | i + 1 => match (ord nb i)[i]? with
    | some a => visA (ord nb i) (nb a)
    | none => ord nb i
def nbr (L : Int) (D : Dd) (a : Int) : List Int := (stL L).filterMap (go D a)
theorem visA_cons (o : List Int) (g : Int) (gs : List Int) : visA o (g :: gs) = visA (vis o g) gs := rfl
theorem vis_ext (o : List Int) (g : Int) : ∃ t, vis o g = o ++ t := by
  unfold vis
  split
  · exact ⟨[], (List.append_nil _).symm⟩
  · exact ⟨_, rfl⟩
theorem visA_ext : ∀ (gs o : List Int), ∃ t, visA o gs = o ++ t
  | [], o => ⟨[], (List.append_nil _).symm⟩
  | g :: gs, o => by
    obtain ⟨t1, e1⟩ := vis_ext o g
    obtain ⟨t2, e2⟩ := visA_ext gs (vis o g)
    exact ⟨t1 ++ t2, by rw [visA_cons, e2, e1, List.append_assoc]⟩
theorem vis_mem {o : List Int} {g x : Int} : x ∈ vis o g ↔ x ∈ o ∨ x = g := by
  unfold vis
  split
  · rename_i h
    exact ⟨.inl, fun z => z.elim id fun e => e ▸ h⟩
  · rw [List.mem_append, List.mem_singleton]
theorem visA_mem {x : Int} : ∀ {gs o : List Int}, x ∈ visA o gs ↔ x ∈ o ∨ x ∈ gs
  | [], o => by show x ∈ o ↔ _; simp
  | g :: gs, o => by
    rw [visA_cons, visA_mem, vis_mem, List.mem_cons]
    constructor
    · rintro ((h | h) | h)
      · exact .inl h
      · exact .inr (.inl h)
      · exact .inr (.inr h)
    · rintro (h | h | h)
      · exact .inl (.inl h)
      · exact .inl (.inr h)
      · exact .inr h
theorem vis_nd {o : List Int} (h : o.Nodup) (g : Int) : (vis o g).Nodup := by
  unfold vis
  split
  · exact h
  · rename_i hg
    rw [List.nodup_append]
    refine ⟨h, by simp, fun a ha b hb => ?_⟩
    rw [List.mem_singleton.mp hb]
    exact fun e => hg (e ▸ ha)
theorem visA_nd : ∀ {gs o : List Int}, o.Nodup → (visA o gs).Nodup
  | [], _, h => h
  | g :: gs, _, h => visA_nd (gs := gs) (vis_nd h g)
section
variable {nb : Int → List Int} {n : Nat} (hn : 1 ≤ n) (hb : ∀ a : Int, 0 ≤ a → a < n → ∀ g ∈ nb a, 0 ≤ g ∧ g < n)
include hn hb
theorem ord_in : ∀ i, (∀ x ∈ ord nb i, 0 ≤ x ∧ x < n) ∧ (ord nb i).Nodup
  | 0 => ⟨fun x hx => by rw [List.mem_singleton.mp hx]; omega, by simp [ord]⟩
  | i + 1 => by
    obtain ⟨h1, h2⟩ := ord_in i
    unfold ord
    cases e : (ord nb i)[i]? with
    | none => exact ⟨h1, h2⟩
    | some a =>
      refine ⟨fun x hx => ?_, visA_nd h2⟩
      rcases visA_mem.mp hx with hx | hx
      · exact h1 x hx
      · obtain ⟨a0, a1⟩ := h1 a (List.mem_of_getElem? e)
        exact hb a a0 a1 x hx
theorem ord_len (i : Nat) : (ord nb i).length ≤ n := by
  obtain ⟨h1, h2⟩ := ord_in hn hb i
  have := nodup_le (ord nb i) (range' 0 (n : Int)) h2 fun x hx => by
    have := h1 x hx
    unfold range'
    exact List.mem_map.mpr ⟨x.toNat, List.mem_range.mpr (by omega), by omega⟩
  rw [rng_len] at this
  omega
end
theorem ord_ext (nb : Int → List Int) (i : Nat) : ∃ t, ord nb (i + 1) = ord nb i ++ t := by
  show ∃ t, (match (ord nb i)[i]? with | some a => visA (ord nb i) (nb a) | none => ord nb i) = ord nb i ++ t
  cases (ord nb i)[i]? with
  | none => exact ⟨[], (List.append_nil _).symm⟩
  | some a => exact visA_ext _ _
theorem ord_pre (nb : Int → List Int) (i : Nat) : ∀ d, ∃ t, ord nb (i + d) = ord nb i ++ t
  | 0 => ⟨[], (List.append_nil _).symm⟩
  | d + 1 => by
    obtain ⟨t1, e1⟩ := ord_pre nb i d
    obtain ⟨t2, e2⟩ := ord_ext nb (i + d)
    exact ⟨t1 ++ t2, by rw [← Nat.add_assoc, e2, e1, List.append_assoc]⟩
theorem ord_done {nb : Int → List Int} {i : Nat} (h : (ord nb i).length ≤ i) : ∀ d, ord nb (i + d) = ord nb i
  | 0 => rfl
  | d + 1 => by
    have ih := ord_done h d
    show (match (ord nb (i + d))[i + d]? with | some a => visA (ord nb (i + d)) (nb a) | none => ord nb (i + d)) = _
    rw [ih, List.getElem?_eq_none_iff.mpr (by omega)]
section
variable {nb : Int → List Int} {n : Nat} (hn : 1 ≤ n) (hb : ∀ a : Int, 0 ≤ a → a < n → ∀ g ∈ nb a, 0 ≤ g ∧ g < n)
include hn hb
theorem ord_end {i : Nat} (hi : i ≤ n) (h : (ord nb i).length ≤ i) : ord nb i = ord nb n := by
  have := ord_done h (n - i)
  rw [show i + (n - i) = n by omega] at this
  exact this.symm
theorem ord_more (d : Nat) : ord nb (n + d) = ord nb n := ord_done (ord_len hn hb n) d
/-- what is at the place i was there when it was come to -/
theorem ord_at {i : Nat} {a : Int} (h : (ord nb n)[i]? = some a) : i < n ∧ (ord nb i)[i]? = some a ∧ ∀ g ∈ nb a, g ∈ ord nb n := by
  have hi := (List.getElem?_eq_some_iff.mp h).1
  have hl := ord_len hn hb n
  have hin : i < n := by omega
  obtain ⟨t, e⟩ := ord_pre nb i (n - i)
  rw [show i + (n - i) = n by omega] at e
  have h2 : (ord nb i)[i]? = some a := by
    by_cases hl2 : i < (ord nb i).length
    · rw [e, List.getElem?_append_left hl2] at h
      exact h
    · have := ord_end hn hb (Nat.le_of_lt hin) (Nat.not_lt.mp hl2)
      rw [← this] at hi
      exact absurd hi hl2
  refine ⟨hin, h2, fun g hg => ?_⟩
  obtain ⟨t, e⟩ := ord_pre nb (i + 1) (n - (i + 1))
  rw [show i + 1 + (n - (i + 1)) = n by omega] at e
  rw [e]
  refine List.mem_append_left _ ?_
  show g ∈ (match (ord nb i)[i]? with | some a => visA (ord nb i) (nb a) | none => ord nb i)
  rw [h2]
  exact visA_mem.mpr (.inr hg)
end
theorem ord_from (nb : Int → List Int) : ∀ i, ∀ x ∈ ord nb i, x = 0 ∨ ∃ a ∈ ord nb i, x ∈ nb a
  | 0, x, hx => .inl (List.mem_singleton.mp hx)
  | i + 1, x, hx => by
    have ih := ord_from nb i
    obtain ⟨t, e⟩ := ord_ext nb i
    have old : x ∈ ord nb i → x = 0 ∨ ∃ a ∈ ord nb (i + 1), x ∈ nb a := fun h => (ih x h).imp id fun ⟨a, ha, hx⟩ => ⟨a, by rw [e]; exact List.mem_append_left _ ha, hx⟩
    have hx' : x ∈ (match (ord nb i)[i]? with | some a => visA (ord nb i) (nb a) | none => ord nb i) := hx
    cases ha : (ord nb i)[i]? with
    | none =>
      rw [ha] at hx'
      exact old hx'
    | some a =>
      rw [ha] at hx'
      rcases visA_mem.mp hx' with h | h
      · exact old h
      · exact .inr ⟨a, by rw [e]; exact List.mem_append_left _ (List.mem_of_getElem? ha), h⟩
theorem ord_head (nb : Int → List Int) : ∀ i, (ord nb i)[0]? = some 0
  | 0 => rfl
  | i + 1 => by
    obtain ⟨t, e⟩ := ord_ext nb i
    have ih := ord_head nb i
    have hl := (List.getElem?_eq_some_iff.mp ih).1
    rw [e, List.getElem?_append_left hl]
    exact ih
section
variable {φ : Int → Int} {m : Nat} (inj : ∀ x y : Int, 0 ≤ x → x < m → 0 ≤ y → y < m → φ x = φ y → x = y)
include inj
theorem vis_map {o : List Int} {g : Int} (ho : ∀ x ∈ o, 0 ≤ x ∧ x < m) (hg : 0 ≤ g ∧ g < m) : vis (o.map φ) (φ g) = (vis o g).map φ := by
  unfold vis
  by_cases h : g ∈ o
  · rw [if_pos h, if_pos (List.mem_map.mpr ⟨g, h, rfl⟩)]
  · rw [if_neg h, if_neg, List.map_append]
    · rfl
    · intro hm
      obtain ⟨y, hy, e⟩ := List.mem_map.mp hm
      have := ho y hy
      exact h (inj y g this.1 this.2 hg.1 hg.2 e ▸ hy)
theorem visA_map : ∀ {gs o : List Int}, (∀ x ∈ o, 0 ≤ x ∧ x < m) → (∀ x ∈ gs, 0 ≤ x ∧ x < m) → visA (o.map φ) (gs.map φ) = (visA o gs).map φ
  | [], _, _, _ => rfl
  | g :: gs, o, ho, hg => by
    rw [List.map_cons, visA_cons, visA_cons, vis_map inj ho (hg g List.mem_cons_self)]
    exact visA_map (fun x hx => (vis_mem.mp hx).elim (ho x) fun e => e ▸ hg g List.mem_cons_self) fun x hx => hg x (List.mem_cons_of_mem _ hx)
theorem ord_map {nb nb' : Int → List Int} (hm : 1 ≤ m) (hb : ∀ a : Int, 0 ≤ a → a < m → ∀ g ∈ nb' a, 0 ≤ g ∧ g < m) (h0 : φ 0 = 0) (hh : ∀ a : Int, 0 ≤ a → a < m → nb (φ a) = (nb' a).map φ) : ∀ i, ord nb i = (ord nb' i).map φ
  | 0 => by show [(0 : Int)] = [φ 0]; rw [h0]
  | i + 1 => by
    have ih := ord_map hm hb h0 hh i
    obtain ⟨h1, _⟩ := ord_in hm hb i
    unfold ord
    rw [ih, List.getElem?_map]
    cases e : (ord nb' i)[i]? with
    | none => rfl
    | some a =>
      obtain ⟨a0, a1⟩ := h1 a (List.mem_of_getElem? e)
      show visA ((ord nb' i).map φ) (nb (φ a)) = _
      rw [hh a a0 a1]
      exact visA_map inj h1 (hb a a0 a1)
theorem map_inj : ∀ {u v : List Int}, (∀ x ∈ u, 0 ≤ x ∧ x < m) → (∀ x ∈ v, 0 ≤ x ∧ x < m) → u.map φ = v.map φ → u = v
  | [], [], _, _, _ => rfl
  | [], _ :: _, _, _, h => by cases h
  | _ :: _, [], _, _, h => by cases h
  | x :: u, y :: v, hu, hv, h => by
    rw [List.map_cons, List.map_cons] at h
    obtain ⟨h1, h2⟩ := List.cons.inj h
    have a := hu x List.mem_cons_self
    have b := hv y List.mem_cons_self
    rw [inj x y a.1 a.2 b.1 b.2 h1, map_inj (fun z hz => hu z (List.mem_cons_of_mem _ hz)) (fun z hz => hv z (List.mem_cons_of_mem _ hz)) h2]
end
theorem row_nil {D : Dd} {a : Int} (h : ∀ t, go D a t = none) : row D a = [] := by
  cases e : row D a with
  | nil => rfl
  | cons p d =>
    have := h p.1
    unfold go at this
    rw [e, dGet_cons, if_pos rfl] at this
    cases this
theorem pop_run {L : Int} {n : Nat} {D : Dd} (h : Dr L n D) {a k b : Int} (a0 : 0 ≤ a) (a1 : a < n) (hr : row D a = [(k, b)]) :
    ((idx D a).bind fun t19 => (idx (List.map Prod.fst t19) 0).bind fun t20 => ((idx D a).bind fun t21 => (dPopO t21 t20).bind fun t22 => ((idx (setI D a t22.2) t22.1).bind fun t23 => (dPopO t23 (-t20)).bind fun t24 => some (setI (setI D a t22.2) t22.1 t24.2)))) = some (delD D a k b) ∧ go D a k = some b ∧ ∀ t, t ≠ k → go D a t = none := by
  have a1' : a < D.length := by rw [h.len]; exact a1
  have g1 : go D a k = some b := by unfold go; rw [hr, dGet_cons, if_pos rfl]
  have g2 : ∀ t, t ≠ k → go D a t = none := fun t ht => by unfold go; rw [hr, dGet_cons, if_neg (fun e => ht e.symm)]; rfl
  obtain ⟨b0, b1, hs, g3⟩ := h.ok a k b a0 g1
  have b1' : b < D.length := by rw [h.len]; exact b1
  refine ⟨?_, g1, g2⟩
  have ei := idx_row a0 a1'
  refine bindS ei (bindS (a := k) (by rw [hr]; rfl) (bindS ei (bindS (a := (b, dDel (row D a) k)) ?_ (bindS (idx_row b0 (by rw [setI_len]; exact b1')) (bindS (a := (a, dDel (row (setI D a (dDel (row D a) k)) b) (-k))) ?_ rfl)))))
  · unfold dPopO
    rw [show dGet (row D a) k = some b from g1]
    rfl
  · unfold dPopO
    have : dGet (row (setI D a (dDel (row D a) k)) b) (-k) = some a := by
      rw [row_set a0 a1' b0]
      by_cases e : a = b
      · subst e
        rw [if_pos rfl, dGet_del, if_neg (by have := hs.1; omega)]
        exact g3
      · rw [if_neg e]
        exact g3
    rw [this]
    rfl
end Z
namespace Z
open PySem PySem.Spec L2
def cell (rows : List (List Int)) (a l : Int) : Int := (rows.getD a.toNat []).getD l.toNat (-1)
theorem cell_idx {rows : List (List Int)} {r : List Int} {a l : Int} (a0 : 0 ≤ a) (hr : rows[a.toNat]? = some r) (l0 : 0 ≤ l) (h : l < r.length) : idx r l = some (cell rows a l) := by
  refine idx_of l0 ?_
  unfold cell
  rw [List.getD_eq_getElem?_getD (l := rows), hr]
  show r[l.toNat]? = some (r.getD l.toNat (-1))
  rw [List.getD_eq_getElem?_getD, List.getElem?_eq_getElem (by omega)]
  rfl
theorem cell_out {rows : List (List Int)} {a l : Int} (h : rows.length ≤ a.toNat ∨ ∀ r, rows[a.toNat]? = some r → r.length ≤ l.toNat) : cell rows a l = -1 := by
  unfold cell
  rw [List.getD_eq_getElem?_getD, List.getD_eq_getElem?_getD]
  rcases h with h | h
  · rw [List.getElem?_eq_none_iff.mpr h]
    rfl
  · cases e : rows[a.toNat]? with
    | none => rfl
    | some r =>
      show (r[l.toNat]?).getD (-1) = -1
      rw [List.getElem?_eq_none_iff.mpr (h r e)]
      rfl
/-- rows in their bounds -/
structure Reg (L : Int) (rows : List (List Int)) : Prop where
  l1 : 1 ≤ L
  l4 : L ≤ 4
  rl : ∀ r ∈ rows, r.length = L.toNat
  rb : ∀ r ∈ rows, ∀ x ∈ r, -1 ≤ x ∧ x < rows.length
  one : ∀ a b l k : Int, 0 ≤ a → 0 ≤ b → 0 ≤ k → cell rows a l = k → cell rows b l = k → a = b
theorem Reg.bd {L : Int} {rows : List (List Int)} (h : Reg L rows) (a l : Int) : cell rows a l < rows.length ∨ cell rows a l = -1 := by
  cases e : rows[a.toNat]? with
  | none => exact .inr (cell_out (.inl (List.getElem?_eq_none_iff.mp e)))
  | some r =>
    by_cases hl : l.toNat < r.length
    · refine .inl ?_
      have hm := List.mem_of_getElem? e
      have : cell rows a l = r[l.toNat] := by
        unfold cell
        rw [List.getD_eq_getElem?_getD (l := rows), e]
        show r.getD l.toNat (-1) = _
        rw [List.getD_eq_getElem?_getD, List.getElem?_eq_getElem hl]
        rfl
      rw [this]
      exact (h.rb r hm _ (List.getElem_mem hl)).2
    · exact .inr (cell_out (.inr fun r' hr' => by rw [e] at hr'; cases hr'; omega))
structure Lay (L : Int) (rows : List (List Int)) (r c : Nat) (D : Dd) : Prop where
  dr : Dr L rows.length D
  rep : ∀ x l y, 0 ≤ x → 0 < l → (go D x l = some y ↔ 0 ≤ y ∧ cell rows x (l - 1) = y ∧ (x < r ∨ (x = r ∧ l - 1 < c)))
theorem Lay.step {L : Int} {rows : List (List Int)} (R : Reg L rows) {r c : Nat} {D : Dd} (h : Lay L rows r c D) (hr : r < rows.length) (hc : c < L.toNat) {a k k2 g : Int} (ea : a = r) (ek : k = (c : Int) + 1) (ek2 : k2 = -k) (eg : g = cell rows r c) :
    ∃ D', (if (decide (0 ≤ g)) = true then ((idx D a).bind fun t16 => (dPutO t16 k g).bind fun t17 => ((idx (setI D a t17) g).bind fun t18 => (dPutO t18 k2 a).bind fun t19 => some (setI (setI D a t17) g t19))) else some D : Option Dd) = some D' ∧ Lay L rows r (c + 1) D' := by
  subst ea ek
  by_cases hg : 0 ≤ g
  · have g1 : g < rows.length := by
      rcases R.bd (r : Int) (c : Int) with h | h
      · rw [eg]; exact h
      · omega
    have a1 : (r : Int) < rows.length := by omega
    have hs : Sok L ((c : Int) + 1) := ⟨by omega, by omega, by omega⟩
    have f1 : go D r ((c : Int) + 1) = none := by
      cases e : go D r ((c : Int) + 1) with
      | none => rfl
      | some y =>
        have := (h.rep r _ y (by omega) (by omega)).mp e
        omega
    have f2 : go D g (-((c : Int) + 1)) = none := by
      cases e : go D g (-((c : Int) + 1)) with
      | none => rfl
      | some y =>
        obtain ⟨y0, _, _, hb⟩ := h.dr.ok g _ y hg e
        rw [Int.neg_neg] at hb
        obtain ⟨_, h2, h3⟩ := (h.rep y _ g y0 (by omega)).mp hb
        have h2' : cell rows y (c : Int) = g := by rw [← h2]; congr 1; omega
        have := R.one y r c g y0 (by omega) hg h2' eg.symm
        omega
    refine ⟨_, (if_pos (decide_eq_true hg)).trans (put_run h.dr R.l4 (by omega) a1 hg g1 ek2), h.dr.put (by omega) a1 hg g1 hs f1 f2, fun x l y hx hl => ?_⟩
    rw [go_put (by omega) (by rw [h.dr.len]; exact a1) hg (by rw [h.dr.len]; exact g1) hs.1 hx, if_neg (fun z => by omega)]
    by_cases e : x = (r : Int) ∧ l = (c : Int) + 1
    · rw [if_pos e]
      obtain ⟨rfl, rfl⟩ := e
      have ec : (c : Int) + 1 - 1 = c := by omega
      rw [ec, ← eg]
      constructor
      · intro z; cases z; exact ⟨hg, rfl, by omega⟩
      · rintro ⟨_, z, _⟩; rw [z]
    · rw [if_neg e, h.rep x l y hx hl]
      constructor
      · rintro ⟨z1, z2, z3⟩; exact ⟨z1, z2, by omega⟩
      · rintro ⟨z1, z2, z3⟩; exact ⟨z1, z2, by omega⟩
  · refine ⟨D, if_neg (by simpa using hg), h.dr, fun x l y hx hl => ?_⟩
    rw [h.rep x l y hx hl]
    constructor
    · rintro ⟨z1, z2, z3⟩; exact ⟨z1, z2, by omega⟩
    · rintro ⟨z1, z2, z3⟩
      refine ⟨z1, z2, ?_⟩
      by_cases e : x = (r : Int) ∧ l - 1 = c
      · rw [e.1, e.2, ← eg] at z2
        omega
      · omega
theorem Lay.row {L : Int} {rows : List (List Int)} (R : Reg L rows) {r : Nat} {D : Dd} (h : Lay L rows r L.toNat D) : Lay L rows (r + 1) 0 D := by
  refine ⟨h.dr, fun x l y hx hl => ?_⟩
  rw [h.rep x l y hx hl]
  constructor
  · rintro ⟨z1, z2, z3⟩; exact ⟨z1, z2, by omega⟩
  · rintro ⟨z1, z2, z3⟩
    refine ⟨z1, z2, ?_⟩
    by_cases e : l - 1 < L.toNat
    · omega
    · have : cell rows x (l - 1) = -1 := cell_out (.inr fun r' hr' => by rw [R.rl r' (List.mem_of_getElem? hr')]; omega)
      omega
theorem Lay.all {L : Int} {rows : List (List Int)} {D : Dd} (h : Lay L rows rows.length 0 D) (x l y : Int) (hx : 0 ≤ x) (hl : 0 < l) : go D x l = some y ↔ 0 ≤ y ∧ cell rows x (l - 1) = y := by
  rw [h.rep x l y hx hl]
  constructor
  · rintro ⟨z1, z2, _⟩; exact ⟨z1, z2⟩
  · rintro ⟨z1, z2⟩
    refine ⟨z1, z2, ?_⟩
    by_cases e : x < rows.length
    · exact .inl e
    · have : cell rows x (l - 1) = -1 := cell_out (.inl (by omega))
      omega
theorem Lay.nil {L : Int} {rows : List (List Int)} : Lay L rows 0 0 (List.replicate rows.length []) := by
  have hd := Dr.nil L rows.length (D := List.replicate rows.length []) rfl
  refine ⟨hd, fun x l y hx hl => ?_⟩
  have hr : Z.row (List.replicate rows.length []) x = [] := by
    unfold Z.row
    rw [List.getD_eq_getElem?_getD, List.getElem?_replicate]
    split <;> rfl
  unfold go
  rw [hr]
  constructor
  · intro z; cases z
  · rintro ⟨_, _, z⟩; omega
/-- what doors_of and the law's doors have of rows -/
def Rep (L : Int) (rows : List (List Int)) (D : Dd) : Prop := Dr L rows.length D ∧ ∀ x l y : Int, 0 ≤ x → 0 < l → (go D x l = some y ↔ 0 ≤ y ∧ cell rows x (l - 1) = y)
theorem doors_of_ok {L : Int} {rows : List (List Int)} (R : Reg L rows) (hn : rows.length ≤ 100000) : ∃ D, Q_doors_of rows = some D ∧ Rep L rows D := by
  unfold Q_doors_of
  have he := empties (xs := rows) (by rw [sizeL]; omega)
  obtain ⟨_, e1, he⟩ := Option.bind_eq_some_iff.mp he
  refine bndX e1 (bndX he ?_)
  have hl : (enum rows).length = rows.length := by unfold enum; rw [List.length_map, List.length_zipIdx]
  refine lpX (fun i D => Lay L rows i 0 D) Lay.nil (fun i x D hx hD => ?_) (fun D hD => ⟨D, rfl, ?_, ?_⟩)
  · obtain ⟨h1, h2⟩ := enum_get hx
    have hi := (List.getElem?_eq_some_iff.mp h2).1
    have hrl := R.rl x.2 (List.mem_of_getElem? h2)
    have hl2 : (enum x.2).length = L.toNat := by unfold enum; rw [List.length_map, List.length_zipIdx, hrl]
    obtain ⟨D', e, q⟩ := lp_goN (xs := enum x.2) (f := (fun (s11 : (List (List (Int × Int)))) (x12 : (Int × Int)) => ((if (decide (0 ≤ x12.2)) = true then ((idx s11 x.1).bind fun t16 => (dPutO t16 (x12.1 + 1) x12.2).bind fun t17 => ((idx (setI s11 x.1 t17) x12.2).bind fun t18 => (dPutO t18 ((-x12.1) - 1) x.1).bind fun t19 => some (setI (setI s11 x.1 t17) x12.2 t19))) else some s11 : Option (List (List (Int × Int)))).bind fun s20 => some s20))) (fun c D => Lay L rows i c D) (fun c y E hy hE => by
      obtain ⟨k1, k2⟩ := enum_get hy
      have hc := (List.getElem?_eq_some_iff.mp k2).1
      have eg : y.2 = cell rows (i : Int) (c : Int) := by
        have := cell_idx (rows := rows) (a := (i : Int)) (l := (c : Int)) (by omega) (by rw [Int.toNat_natCast]; exact h2) (by omega) (by omega)
        rw [idx_of (by omega) (by rw [Int.toNat_natCast]; exact k2)] at this
        exact Option.some.inj this
      obtain ⟨E', e, hE'⟩ := hE.step R hi (by omega) (a := x.1) (k := y.1 + 1) (k2 := (-y.1) - 1) (g := y.2) h1 (by rw [k1]) (by omega) eg
      exact ⟨E', bindS e rfl, hE'⟩) (s0 := D) hD
    rw [hl2] at q
    exact ⟨D', bindS e rfl, q.row R⟩
  · exact hD.dr
  · rw [hl] at hD
    exact hD.all
structure Web (L : Int) (rows : List (List Int)) (D : Dd) : Prop where
  reg : Reg L rows
  n1 : 1 ≤ rows.length
  n9 : rows.length ≤ 900
  dof : Q_doors_of rows = some D
  rep : Rep L rows D
  deg : ∀ a : Int, 1 ≤ a → a < rows.length → ∃ s t, s ≠ t ∧ (go D a s).isSome = true ∧ (go D a t).isSome = true
  bfs : ord (nbr L D) rows.length = range' 0 (rows.length : Int)
theorem Dr.nbr {L : Int} {n : Nat} {D : Dd} (h : Dr L n D) : ∀ a : Int, 0 ≤ a → a < n → ∀ g ∈ Z.nbr L D a, 0 ≤ g ∧ g < n := fun a a0 _ g hg => by
  obtain ⟨t, _, e⟩ := List.mem_filterMap.mp hg
  obtain ⟨b0, b1, _⟩ := h.ok a t g a0 e
  exact ⟨b0, b1⟩
theorem two_keys {d : List (Int × Int)} (hn : (d.map Prod.fst).Nodup) {s t : Int} (hst : s ≠ t) (h1 : (dGet d s).isSome = true) (h2 : (dGet d t).isSome = true) : 2 ≤ d.length := by
  have := nodup_le [s, t] (d.map Prod.fst) (by simp [hst]) fun x hx => by
    rcases List.mem_cons.mp hx with rfl | hx
    · exact dGet_key_mem.mp h1
    · rw [List.mem_singleton.mp hx]
      exact dGet_key_mem.mp h2
  rw [List.length_map] at this
  exact this
theorem keys_two {d : List (Int × Int)} (hn : (d.map Prod.fst).Nodup) (h : 2 ≤ d.length) : ∃ s t, s ≠ t ∧ (dGet d s).isSome = true ∧ (dGet d t).isSome = true := by
  match d, h with
  | p :: q :: d, _ =>
    rw [List.map_cons, List.map_cons, List.nodup_cons] at hn
    refine ⟨p.1, q.1, fun e => hn.1 (by rw [e]; exact List.mem_cons_self), ?_, ?_⟩
    · exact dGet_key_mem.mpr List.mem_cons_self
    · exact dGet_key_mem.mpr (List.mem_cons_of_mem _ List.mem_cons_self)
theorem letters_okW {L : Int} (h1 : 1 ≤ L) (h4 : L ≤ 4) : Q_is_letters L = some true := by
  unfold Q_is_letters Q_is_integer
  simp [h1, h4]
theorem a_row_ok {L : Int} {rows : List (List Int)} (R : Reg L rows) {r : List Int} (hr : r ∈ rows) : Q_is_a_row r L (rows.length : Int) = some true := by
  have hl := R.rl r hr
  have l1 := R.l1
  have l4 := R.l4
  unfold Q_is_a_row
  rw [if_neg (by simp [hl]; omega), lcO_some (fun _ => true) (by rw [hl, sizeL]; omega) (fun x hx => by
    have hb := R.rb r hr x hx
    unfold Q_is_integer
    simp [hb.1, hb.2])]
  simp
theorem one_way_ok {L : Int} {rows : List (List Int)} (R : Reg L rows) (hn : rows.length ≤ 900) : Q_is_one_way rows L = some true := by
  have l1 := R.l1
  have l4 := R.l4
  have key : ∃ r, Q_is_one_way rows L = some r ∧ r = true := by
    unfold Q_is_one_way
    refine bndX (rngO_ok (by omega)) (lpRX (fun _ _ => True) trivial (fun i x s hx _ => ?_) (fun s _ => ⟨_, rfl, rfl⟩))
    obtain ⟨rfl, hi⟩ := rngAt hx
    have ei : (0 : Int) + (i : Int) = i := Int.zero_add _
    rw [ei]
    have hg := lcG_some (f := (fun (row7 : (List Int)) => ((idx row7 (i : Int)).bind fun t9 => if (decide (0 ≤ t9)) = true then ((idx row7 (i : Int)).bind fun t10 => some (some t10)) else some none))) (xs := rows) (fun r => if 0 ≤ r.getD i (-1) then some (r.getD i (-1)) else none) (by rw [sizeL]; omega) (fun r hr => by
      have hlr := R.rl r hr
      have e : idx r (i : Int) = some (r.getD i (-1)) := by
        refine idx_of (by omega) ?_
        rw [Int.toNat_natCast, List.getD_eq_getElem?_getD, List.getElem?_eq_getElem (by omega)]
        rfl
      refine bindS e ?_
      by_cases h : 0 ≤ r.getD i (-1)
      · rw [if_pos (decide_eq_true h), if_pos h]
        exact bindS e rfl
      · rw [if_neg (by simpa using h), if_neg h])
    have hnd : (rows.filterMap fun r => if 0 ≤ r.getD i (-1) then some (r.getD i (-1)) else none).Nodup := by
      unfold List.Nodup
      rw [List.pairwise_filterMap, List.pairwise_iff_getElem]
      intro a b ha hb hab x hx y hy exy
      subst exy
      have h1 : ∀ j (hj : j < rows.length) z, (if 0 ≤ rows[j].getD i (-1) then some (rows[j].getD i (-1)) else none) = some z → cell rows (j : Int) (i : Int) = z ∧ 0 ≤ z := fun j hj z hz => by
        split at hz
        · rename_i h0
          cases hz
          refine ⟨?_, h0⟩
          unfold cell
          rw [List.getD_eq_getElem?_getD (l := rows), Int.toNat_natCast, List.getElem?_eq_getElem hj, Int.toNat_natCast]
          rfl
        · cases hz
      obtain ⟨p1, p2⟩ := h1 a ha x hx
      obtain ⟨q1, _⟩ := h1 b hb x hy
      have := R.one (a : Int) (b : Int) (i : Int) x (by omega) (by omega) p2 p1 q1
      omega
    have hll : (rows.filterMap fun r => if 0 ≤ r.getD i (-1) then some (r.getD i (-1)) else none).length ≤ rows.length := List.length_filterMap_le _ _
    refine ⟨(), bindS hg (bindS (if_pos ⟨hnd, by omega⟩) (if_neg (by simp))), trivial⟩
  obtain ⟨r, e, rfl⟩ := key
  exact e
/-- the pairs that were met, as they stand beside the rooms in order -/
def Met (met : List (Int × Bool)) (o : List Int) : Prop := (∀ g, (dGet met g).isSome = true ↔ g ∈ o) ∧ met.length ≤ o.length
theorem prog_vis {D : Dd} {a : Int} {i : Nat} (a0 : 0 ≤ a) (a1 : a < D.length) : ∀ (ss o : List Int) (met : List (Int × Bool)), o[i]? = some a → o.length + ss.length ≤ 10000 → Met met o →
    ∃ met', lp (fun (s8 : ((List (Int × Bool)) × (List Int))) (step9 : Int) => ((idx s8.2 (i : Int)).bind fun t13 => (idx D t13).bind fun t14 => (match (dGet t14 step9) with | none => (some (s8.1, s8.2)) | some goal15 => ((if (true && (!(dGet s8.1 goal15).isSome)) = true then ((dPutO s8.1 goal15 true).bind fun t16 => ((appO s8.2 goal15).bind fun t17 => some (t16, t17))) else some (s8.1, s8.2) : Option ((List (Int × Bool)) × (List Int))).bind fun s18 => some (s18.1, s18.2))))) ss (met, o) = some (met', visA o (ss.filterMap (go D a))) ∧ Met met' (visA o (ss.filterMap (go D a)))
  | [], o, met, _, _, hM => ⟨met, rfl, hM⟩
  | s :: ss, o, met, ho, hl, hM => by
    rw [List.length_cons] at hl
    unfold lp
    have e1 : idx o (i : Int) = some a := idx_of (by omega) (by rw [Int.toNat_natCast]; exact ho)
    have e2 := idx_row a0 a1
    cases hg : go D a s with
    | none =>
      rw [List.filterMap_cons_none hg]
      obtain ⟨met', e, q⟩ := prog_vis a0 a1 ss o met ho (by omega) hM
      refine ⟨met', ?_, q⟩
      refine bindS (a := (met, o)) (bindS e1 (bindS e2 ?_)) e
      have hg' : dGet (row D a) s = none := hg
      rw [hg']
    | some g =>
      rw [List.filterMap_cons_some hg, visA_cons]
      have hg' : dGet (row D a) s = some g := hg
      by_cases hm : g ∈ o
      · have hv : vis o g = o := if_pos hm
        rw [hv]
        obtain ⟨met', e, q⟩ := prog_vis a0 a1 ss o met ho (by omega) hM
        refine ⟨met', ?_, q⟩
        refine bindS (a := (met, o)) (bindS e1 (bindS e2 ?_)) e
        rw [hg']
        have : (dGet met g).isSome = true := (hM.1 g).mpr hm
        exact bindS (if_neg (by simp [this])) rfl
      · have hv : vis o g = o ++ [g] := if_neg hm
        rw [hv]
        have hi := (List.getElem?_eq_some_iff.mp ho).1
        have hnone : (dGet met g).isSome = false := by
          cases h : (dGet met g).isSome with
          | false => rfl
          | true => exact absurd ((hM.1 g).mp h) hm
        have hM2 : Met (dPut met g true) (o ++ [g]) := by
          refine ⟨fun x => ?_, ?_⟩
          · rw [dGet_put, List.mem_append, List.mem_singleton]
            by_cases e : g = x
            · subst e; simp
            · rw [if_neg e, hM.1 x]
              exact ⟨.inl, fun z => z.elim id fun z => absurd z.symm e⟩
          · have := dput_len met g true
            have := hM.2
            rw [List.length_append]
            show _ ≤ o.length + 1
            omega
        obtain ⟨met', e, q⟩ := prog_vis a0 a1 ss (o ++ [g]) (dPut met g true) (by rw [List.getElem?_append_left hi]; exact ho) (by rw [List.length_append]; show o.length + 1 + _ ≤ _; omega) hM2
        refine ⟨met', ?_, q⟩
        refine bindS (a := (dPut met g true, o ++ [g])) (bindS e1 (bindS e2 ?_)) e
        rw [hg']
        have hm2 := hM.2
        exact bindS ((if_pos (by simp [hnone])).trans (bindS (putO_ok (by show met.length < _; rw [sizeL]; omega)) (bindS (app_ok (by show o.length < _; rw [sizeL]; omega)) rfl))) rfl
theorem first_order_ok {L : Int} {n : Nat} {D : Dd} (h : Dr L n D) (h1 : 1 ≤ L) (h4 : L ≤ 4) (n1 : 1 ≤ n) (n9 : n ≤ 900) : Q_first_order L D 0 = some (ord (nbr L D) n) := by
  have hnb := h.nbr
  have key : ∃ r, Q_first_order L D 0 = some r ∧ r = ord (nbr L D) n := by
    unfold Q_first_order
    refine whX (fun (s3 : (Int × (List (Int × Bool)) × (List Int))) => ∃ i : Nat, i ≤ n ∧ s3.1 = (i : Int) ∧ s3.2.2 = ord (nbr L D) i ∧ Met s3.2.1 (ord (nbr L D) i)) (fun s3 => (n - s3.1).toNat) ⟨0, Nat.zero_le _, rfl, rfl, fun g => ?_, Nat.le_refl _⟩ (by show ((n : Int) - 0).toNat < 1000; omega) (fun s3 hs => ?_) (fun s3 hs hc => ⟨_, rfl, ?_⟩)
    · show (dGet [((0 : Int), true)] g).isSome = true ↔ g ∈ [(0 : Int)]
      rw [dGet_cons, List.mem_singleton]
      by_cases e : (0 : Int) = g
      · subst e; simp
      · rw [if_neg e]
        exact ⟨(fun z => by cases z), fun z => absurd z.symm e⟩
    · obtain ⟨at_, met, o⟩ := s3
      obtain ⟨i, hi, rfl, rfl, hM⟩ := hs
      by_cases hc : i < (ord (nbr L D) i).length
      · refine .inr ⟨congrArg some (decide_eq_true (by show (i : Int) < ((ord (nbr L D) i).length : Int); omega)), ?_⟩
        have hl := ord_len n1 hnb i
        obtain ⟨a, ha⟩ : ∃ a, (ord (nbr L D) i)[i]? = some a := ⟨_, List.getElem?_eq_getElem hc⟩
        obtain ⟨a0, a1⟩ := (ord_in n1 hnb i).1 a (List.mem_of_getElem? ha)
        have l8 := stL_len h1 h4
        obtain ⟨met', e, q⟩ := prog_vis a0 (by rw [h.len]; exact a1) (stL L) (ord (nbr L D) i) met ha (by omega) hM
        have ho : ord (nbr L D) (i + 1) = visA (ord (nbr L D) i) ((stL L).filterMap (go D a)) := by
          show (match (ord (nbr L D) i)[i]? with | some a => visA (ord (nbr L D) i) (nbr L D a) | none => ord (nbr L D) i) = _
          rw [ha]
          rfl
        refine ⟨((i : Int) + 1, met', visA (ord (nbr L D) i) ((stL L).filterMap (go D a))), bindS (steps_of_ok h1 h4) (bindS e rfl), ⟨i + 1, by omega, rfl, ho.symm, by rw [ho]; exact q⟩, ?_⟩
        show ((n : Int) - ((i : Int) + 1)).toNat < ((n : Int) - (i : Int)).toNat
        omega
      · exact .inl (congrArg some (decide_eq_false (by show ¬ (i : Int) < ((ord (nbr L D) i).length : Int); omega)))
    · obtain ⟨at_, met, o⟩ := s3
      obtain ⟨i, hi, rfl, rfl, hM⟩ := hs
      have hc' : decide ((i : Int) < ((ord (nbr L D) i).length : Int)) = false := Option.some.inj hc
      rw [decide_eq_false_iff_not] at hc'
      exact ord_end n1 hnb hi (by omega)
  obtain ⟨r, e, rfl⟩ := key
  exact e
theorem is_a_web_ok {L : Int} {rows : List (List Int)} {D : Dd} (W : Web L rows D) : Q_is_a_web (L, rows) = some true := by
  have R := W.reg
  have n1 := W.n1
  have n9 := W.n9
  have dr := W.rep.1
  unfold Q_is_a_web
  refine bindS (a := false) ((if_neg (by simp)).trans (bindS (a := false) ((if_neg (by simp)).trans (bindS (letters_okW R.l1 R.l4) rfl)) rfl)) ?_
  refine (if_neg (by simp)).trans ((if_neg (by simp only [Bool.false_or, decide_eq_true_eq]; omega)).trans ?_)
  refine bindS (lcO_some (fun _ => true) (by show rows.length < _; rw [sizeL]; omega) (fun r hr => bindS (a_row_ok R hr) rfl)) ?_
  refine bindS (a := false) ((if_neg (by simp)).trans (bindS (one_way_ok R n9) rfl)) ((if_neg (by simp)).trans ?_)
  refine bindS W.dof ?_
  have hcut : cut D (some 1) none = D.drop 1 := cut_from _ (by decide)
  rw [hcut]
  refine bindS (lcT_some _ (by rw [List.length_drop, dr.len, sizeL]; omega)) ?_
  refine (if_neg ?_).trans ?_
  · simp only [List.any_map, List.any_eq_true, Function.comp, id, decide_eq_true_eq]
    rintro ⟨d, hd, hlt⟩
    obtain ⟨j, hj⟩ := List.mem_iff_getElem?.mp hd
    rw [List.getElem?_drop] at hj
    have hjl := (List.getElem?_eq_some_iff.mp hj).1
    rw [dr.len] at hjl
    have e : row D ((1 + j : Nat) : Int) = d := by
      unfold row
      rw [Int.toNat_natCast, List.getD_eq_getElem?_getD, hj]
      rfl
    obtain ⟨s, t, h1, h2, h3⟩ := W.deg ((1 + j : Nat) : Int) (by omega) (by omega)
    have := two_keys (dr.rowok (a := ((1 + j : Nat) : Int)) (by omega)) h1 h2 h3
    rw [e] at this
    omega
  · refine bindS (first_order_ok dr R.l1 R.l4 n1 n9) (bindS (a := range' 0 (rows.length : Int)) (if_pos ⟨by decide, by decide, by show -(2 ^ 62) ≤ (rows.length : Int); omega, by show (rows.length : Int) < 2 ^ 62; omega, by show ((rows.length : Int) - 0).toNat ≤ 2 ^ 24; omega⟩) ?_)
    rw [W.bfs]
    simp
theorem need_web_ok {L : Int} {rows : List (List Int)} {D : Dd} (W : Web L rows D) : Q_need_web (L, rows) = some () := by
  unfold Q_need_web
  exact bindS (is_a_web_ok W) (if_neg (by simp))
end Z
namespace Z
open PySem PySem.Spec L2
theorem ixOf_some : ∀ {xs : List Int} {y : Int}, y ∈ xs → ∃ k, ixOf xs y = some k
  | x :: xs, y, h => by
    unfold ixOf
    by_cases e : x = y
    · exact ⟨0, if_pos e⟩
    · obtain ⟨k, hk⟩ := ixOf_some ((List.mem_cons.mp h).resolve_left fun z => e z.symm)
      exact ⟨k + 1, by rw [if_neg e, hk]; rfl⟩
def cellF (D : Dd) (O : List Int) (a l : Int) : Int := match go D a l with
  | none => -1
  | some g => (((ixOf O g).getD 0 : Nat) : Int)
/-- doors whose rooms have no idle ends make a web -/
theorem web_of_doors {L : Int} {n : Nat} {D : Dd} (h : Dr L n D) (h1 : 1 ≤ L) (h4 : L ≤ 4) (n1 : 1 ≤ n) (n9 : n ≤ 900) (ht : ∀ a : Int, 1 ≤ a → a < n → (row D a).length ≠ 1) :
    ∃ E, Web L ((ord (nbr L D) n).map fun a => (range' 1 (L + 1)).map (cellF D (ord (nbr L D) n) a)) E := by
  have hnb := h.nbr
  obtain ⟨o1, o2⟩ := ord_in n1 hnb n
  have o3 := ord_len n1 hnb n
  have o4 := ord_head (nbr L D) n
  have o5 : ∀ i a, (ord (nbr L D) n)[i]? = some a → ∀ g ∈ nbr L D a, g ∈ ord (nbr L D) n := fun i a hi => (ord_at n1 hnb hi).2.2
  have o6 := ord_from (nbr L D) n
  have o7 := ord_more n1 hnb
  generalize hO : ord (nbr L D) n = O at o1 o2 o3 o4 o5 o6 o7
  have m1 : 1 ≤ O.length := (List.getElem?_eq_some_iff.mp o4).1
  have clos : ∀ a ∈ O, ∀ l g, go D a l = some g → g ∈ O := fun a ha l g hg => by
    obtain ⟨i, hi⟩ := List.mem_iff_getElem?.mp ha
    exact o5 i a hi g (List.mem_filterMap.mpr ⟨l, mem_stL.mpr (h.ok a l g (o1 a ha).1 hg).2.2.1, hg⟩)
  generalize hrows : (O.map fun a => (range' 1 (L + 1)).map (cellF D O a)) = rows
  have hlen : rows.length = O.length := by rw [← hrows, List.length_map]
  -- names
  generalize hφ : (fun (j : Int) => O.getD j.toNat 0) = φ
  have hφj : ∀ j : Int, φ j = O.getD j.toNat 0 := fun j => by rw [← hφ]
  have φat : ∀ j : Int, 0 ≤ j → j < O.length → O[j.toNat]? = some (φ j) := fun j j0 j1 => by
    have hj : j.toNat < O.length := by omega
    rw [hφj, List.getD_eq_getElem?_getD, List.getElem?_eq_getElem hj]
    rfl
  have φmem : ∀ j : Int, 0 ≤ j → j < O.length → φ j ∈ O := fun j j0 j1 => List.mem_of_getElem? (φat j j0 j1)
  have inj : ∀ x y : Int, 0 ≤ x → x < O.length → 0 ≤ y → y < O.length → φ x = φ y → x = y := fun x y x0 x1 y0 y1 e => by
    have a := φat x x0 x1
    have b := φat y y0 y1
    rw [← e] at b
    have := (List.getElem?_inj (by omega) o2).mp (a.trans b.symm)
    omega
  have φix : ∀ g ∈ O, ∃ k : Nat, k < O.length ∧ ixOf O g = some k ∧ φ (k : Int) = g := fun g hg => by
    obtain ⟨k, hk⟩ := ixOf_some hg
    obtain ⟨q, _⟩ := ixOf_spec hk
    have hk2 := (List.getElem?_eq_some_iff.mp q).1
    refine ⟨k, hk2, hk, ?_⟩
    have := φat (k : Int) (by omega) (by omega)
    rw [Int.toNat_natCast, q] at this
    exact (Option.some.inj this).symm
  have φ0 : φ 0 = 0 := by
    have := φat 0 (by omega) (by omega)
    rw [show (0 : Int).toNat = 0 from rfl, o4] at this
    exact (Option.some.inj this).symm
  have cellE : ∀ a l : Int, 0 ≤ a → a < O.length → 0 ≤ l → l < L → cell rows a l = cellF D O (φ a) (l + 1) := fun a l a0 a1 l0 l1 => by
    have hr : rows[a.toNat]? = some ((range' 1 (L + 1)).map (cellF D O (φ a))) := by
      rw [← hrows, List.getElem?_map, φat a a0 a1]
      rfl
    unfold cell
    rw [List.getD_eq_getElem?_getD (l := rows), hr]
    show ((range' 1 (L + 1)).map (cellF D O (φ a))).getD l.toNat (-1) = _
    unfold range'
    rw [List.getD_eq_getElem?_getD, List.getElem?_map, List.getElem?_map, List.getElem?_range (by omega)]
    show cellF D O (φ a) (1 + (l.toNat : Int)) = _
    congr 1
    omega
  have cellO : ∀ a l : Int, 0 ≤ a → (O.length ≤ a ∨ L ≤ l) → cell rows a l = -1 := fun a l a0 hh => by
    refine cell_out ?_
    rcases hh with hh | hh
    · exact .inl (by omega)
    · refine .inr fun r hr => ?_
      rw [← hrows, List.getElem?_map] at hr
      cases e : O[a.toNat]? with
      | none => rw [e] at hr; cases hr
      | some x =>
        rw [e] at hr
        cases hr
        rw [List.length_map, rng_len]
        omega
  have cellI : ∀ a l k : Int, 0 ≤ a → 0 ≤ l → 0 ≤ k → (cell rows a l = k ↔ a < O.length ∧ k < O.length ∧ go D (φ a) (l + 1) = some (φ k)) := fun a l k a0 l0 k0 => by
    by_cases ha : a < O.length
    · by_cases hl : l < L
      · rw [cellE a l a0 ha l0 hl]
        unfold cellF
        cases hg : go D (φ a) (l + 1) with
        | none =>
          refine ⟨fun z => ?_, fun z => by cases z.2.2⟩
          have z : (-1 : Int) = k := z
          omega
        | some g =>
          obtain ⟨j, j1, j2, j3⟩ := φix g (clos _ (φmem a a0 ha) _ g hg)
          show (((ixOf O g).getD 0 : Nat) : Int) = k ↔ _
          rw [j2]
          show (j : Int) = k ↔ _
          constructor
          · rintro rfl
            exact ⟨ha, by omega, by rw [j3]⟩
          · rintro ⟨_, z1, z2⟩
            refine inj _ _ (by omega) (by omega) k0 z1 ?_
            rw [j3]
            exact Option.some.inj z2
      · rw [cellO a l a0 (.inr (by omega))]
        refine ⟨fun z => by omega, fun z => ?_⟩
        have := (h.ok _ _ _ (o1 _ (φmem a a0 ha)).1 z.2.2).2.2.1.2.2
        omega
    · rw [cellO a l a0 (.inl (by omega))]
      exact ⟨fun z => by omega, fun z => by omega⟩
  have R : Reg L rows := by
    refine ⟨h1, h4, fun r hr => ?_, fun r hr x hx => ?_, fun a b l k a0 b0 k0 ea eb => ?_⟩
    · rw [← hrows] at hr
      obtain ⟨a, _, rfl⟩ := List.mem_map.mp hr
      rw [List.length_map, rng_len]
      omega
    · rw [← hrows] at hr
      obtain ⟨a, ha, rfl⟩ := List.mem_map.mp hr
      obtain ⟨l, _, rfl⟩ := List.mem_map.mp hx
      unfold cellF
      cases hg : go D a l with
      | none => exact ⟨by show (-1 : Int) ≤ -1; omega, by show (-1 : Int) < _; omega⟩
      | some g =>
        obtain ⟨j, j1, j2, j3⟩ := φix g (clos a ha _ g hg)
        show -1 ≤ (((ixOf O g).getD 0 : Nat) : Int) ∧ (((ixOf O g).getD 0 : Nat) : Int) < _
        rw [j2, hlen]
        show -1 ≤ (j : Int) ∧ (j : Int) < _
        omega
    · by_cases l0 : 0 ≤ l
      · obtain ⟨a1, k1, ga⟩ := (cellI a l k a0 l0 k0).mp ea
        obtain ⟨b1, _, gb⟩ := (cellI b l k b0 l0 k0).mp eb
        have p1 := (h.ok _ _ _ (o1 _ (φmem a a0 a1)).1 ga).2.2.2
        have p2 := (h.ok _ _ _ (o1 _ (φmem b b0 b1)).1 gb).2.2.2
        rw [p1] at p2
        exact inj a b a0 a1 b0 b1 (Option.some.inj p2)
      · have e0 : cell rows a l = cell rows a 0 := by unfold cell; rw [show l.toNat = (0 : Int).toNat by omega]
        have e1 : cell rows b l = cell rows b 0 := by unfold cell; rw [show l.toNat = (0 : Int).toNat by omega]
        obtain ⟨a1, k1, ga⟩ := (cellI a 0 k a0 (by omega) k0).mp (e0 ▸ ea)
        obtain ⟨b1, _, gb⟩ := (cellI b 0 k b0 (by omega) k0).mp (e1 ▸ eb)
        have p1 := (h.ok _ _ _ (o1 _ (φmem a a0 a1)).1 ga).2.2.2
        have p2 := (h.ok _ _ _ (o1 _ (φmem b b0 b1)).1 gb).2.2.2
        rw [p1] at p2
        exact inj a b a0 a1 b0 b1 (Option.some.inj p2)
  obtain ⟨E, eE, dE, rE⟩ := doors_of_ok R (by omega)
  rw [hlen] at dE
  have gpos : ∀ a s b : Int, 0 ≤ a → 0 < s → (go E a s = some b ↔ 0 ≤ b ∧ a < O.length ∧ b < O.length ∧ go D (φ a) s = some (φ b)) := fun a s b a0 s0 => by
    rw [rE a s b a0 s0]
    constructor
    · rintro ⟨z1, z2⟩
      obtain ⟨q1, q2, q3⟩ := (cellI a (s - 1) b a0 (by omega) z1).mp z2
      rw [show s - 1 + 1 = s by omega] at q3
      exact ⟨z1, q1, q2, q3⟩
    · rintro ⟨z1, q1, q2, q3⟩
      exact ⟨z1, (cellI a (s - 1) b a0 (by omega) z1).mpr ⟨q1, q2, by rw [show s - 1 + 1 = s by omega]; exact q3⟩⟩
  have gall : ∀ a s b : Int, 0 ≤ a → (go E a s = some b ↔ 0 ≤ b ∧ a < O.length ∧ b < O.length ∧ go D (φ a) s = some (φ b)) := fun a s b a0 => by
    by_cases s0 : 0 < s
    · exact gpos a s b a0 s0
    · constructor
      · intro hg
        obtain ⟨b0, b1, hs, hb⟩ := dE.ok a s b a0 hg
        have hz := hs.1
        obtain ⟨_, q1, q2, q3⟩ := (gpos b (-s) a b0 (by omega)).mp hb
        have := (h.ok _ _ _ (o1 _ (φmem b b0 q1)).1 q3).2.2.2
        rw [Int.neg_neg] at this
        exact ⟨b0, q2, q1, this⟩
      · rintro ⟨b0, q1, q2, q3⟩
        obtain ⟨_, _, hs, p⟩ := h.ok _ _ _ (o1 _ (φmem a a0 q1)).1 q3
        have hz := hs.1
        have := (gpos b (-s) a b0 (by omega)).mpr ⟨a0, q2, q1, p⟩
        have := (dE.ok b (-s) a b0 this).2.2.2
        rw [Int.neg_neg] at this
        exact this
  have gsome : ∀ a s g : Int, 0 ≤ a → a < O.length → go D (φ a) s = some g → ∃ b, go E a s = some b ∧ φ b = g := fun a s g a0 a1 hg => by
    obtain ⟨j, j1, j2, j3⟩ := φix g (clos _ (φmem a a0 a1) _ g hg)
    exact ⟨(j : Int), (gall a s j a0).mpr ⟨by omega, a1, by omega, by rw [j3]; exact hg⟩, j3⟩
  refine ⟨E, R, by rw [hlen]; exact m1, by rw [hlen]; omega, eE, ⟨by rw [hlen]; exact dE, rE⟩, fun a a1 a2 => ?_, ?_⟩
  · rw [hlen] at a2
    have a0 : 0 ≤ a := by omega
    have hm := φmem a a0 a2
    have hne : φ a ≠ 0 := fun e => by
      have := inj a 0 a0 a2 (by omega) (by omega) (by rw [e, φ0])
      omega
    obtain ⟨f0, f1⟩ := o1 _ hm
    have hrow : row D (φ a) ≠ [] := by
      rcases o6 _ hm with e | ⟨x, hx, hg⟩
      · exact absurd e hne
      · obtain ⟨t, _, hg⟩ := List.mem_filterMap.mp hg
        have := (h.ok x t _ (o1 x hx).1 hg).2.2.2
        intro z
        unfold go at this
        rw [z] at this
        cases this
    have h2 : 2 ≤ (row D (φ a)).length := by
      have := List.length_pos_iff.mpr hrow
      have := ht (φ a) (by omega) f1
      omega
    obtain ⟨s, t, hst, hs, ht2⟩ := keys_two (h.rowok f0) h2
    obtain ⟨gs, hgs⟩ := Option.isSome_iff_exists.mp hs
    obtain ⟨gt, hgt⟩ := Option.isSome_iff_exists.mp ht2
    obtain ⟨bs, e1, _⟩ := gsome a s gs a0 a2 hgs
    obtain ⟨bt, e2, _⟩ := gsome a t gt a0 a2 hgt
    exact ⟨s, t, hst, by rw [e1]; rfl, by rw [e2]; rfl⟩
  · rw [hlen]
    have hnE := dE.nbr
    have hmap := ord_map inj (nb := nbr L D) (nb' := nbr L E) m1 hnE φ0 (fun a a0 a1 => by
      unfold nbr
      rw [List.map_filterMap]
      congr 1
      funext s
      cases hg : go D (φ a) s with
      | none =>
        cases hE : go E a s with
        | none => rfl
        | some b =>
          have := ((gall a s b a0).mp hE).2.2.2
          rw [hg] at this
          cases this
      | some g =>
        obtain ⟨b, e1, e2⟩ := gsome a s g a0 a1 hg
        rw [e1]
        show some g = some (φ b)
        rw [e2])
    have hO2 : O = (ord (nbr L E) O.length).map φ := by
      have h3 := hmap n
      rw [hO] at h3
      have h5 := ord_more m1 hnE (n - O.length)
      rw [show O.length + (n - O.length) = n by omega] at h5
      rw [h5] at h3
      exact h3
    have hO3 : O = (range' 0 (O.length : Int)).map φ := by
      refine List.ext_getElem? fun i => ?_
      unfold range'
      rw [List.map_map, List.getElem?_map]
      by_cases hi : i < O.length
      · rw [List.getElem?_range (by omega)]
        have := φat (i : Int) (by omega) (by omega)
        rw [Int.toNat_natCast] at this
        rw [this]
        show some (φ i) = some (φ (0 + (i : Int)))
        rw [Int.zero_add]
      · rw [List.getElem?_eq_none_iff.mpr (by omega), List.getElem?_eq_none_iff.mpr (by rw [List.length_range]; omega)]
        rfl
    refine map_inj inj (ord_in m1 hnE _).1 (fun x hx => mem_rng hx) ?_
    rw [← hO2]
    exact hO3
end Z
namespace Z
open PySem PySem.Spec L2
/-- the web of no walk -/
theorem web_none {L : Int} (h1 : 1 ≤ L) (h4 : L ≤ 4) : ∃ E, Web L [List.replicate L.toNat (-1)] E := by
  have h0 := Dr.nil L 1 (D := [[]]) rfl
  obtain ⟨E, hE⟩ := web_of_doors h0 h1 h4 (Nat.le_refl 1) (by decide) (fun a a1 a2 => by omega)
  have e : ((ord (nbr L [[]]) 1).map fun a => (range' 1 (L + 1)).map (cellF [[]] (ord (nbr L [[]]) 1) a)) = [List.replicate L.toNat (-1)] := four (P := fun L => ((ord (nbr L [[]]) 1).map fun a => (range' 1 (L + 1)).map (cellF [[]] (ord (nbr L [[]]) 1) a)) = [List.replicate L.toNat (-1)]) h1 h4 (by decide) (by decide) (by decide) (by decide)
  rw [e] at hE
  exact ⟨E, hE⟩
end Z
namespace Z
open PySem PySem.Spec L2
theorem Dr.keys {L : Int} {n : Nat} {D : Dd} (h : Dr L n D) {a : Int} (a0 : 0 ≤ a) : ∀ k ∈ (row D a).map Prod.fst, k ∈ stL L := fun k hk => by
  obtain ⟨v, hv⟩ := Option.isSome_iff_exists.mp (dGet_key_mem.mpr hk)
  exact mem_stL.mpr (h.ok a k v a0 hv).2.2.1
theorem pairs_len {α β : Type} (E : List β) : ∀ l : List α, (l.flatMap fun b => E.map fun e => (b, e)).length = l.length * E.length
  | [] => by simp
  | x :: l => by
    rw [List.flatMap_cons, List.length_append, List.length_map, pairs_len E l, List.length_cons, Nat.add_mul, Nat.one_mul]
    omega
/-- the places of such a table -/
def PlOk (n : Nat) (w : List ((Int × Int) × Int)) : Prop := (w.map Prod.fst).Nodup ∧ ∀ k ∈ w.map Prod.fst, 0 ≤ k.1 ∧ k.1 < n ∧ -4 ≤ k.2 ∧ k.2 ≤ 4
theorem PlOk.len {n : Nat} {w : List ((Int × Int) × Int)} (h : PlOk n w) : w.length ≤ n * 9 := by
  have := nodup_le (w.map Prod.fst) ((range' 0 (n : Int)).flatMap fun b => [0, 1, -1, 2, -2, 3, -3, 4, (-4 : Int)].map fun e => (b, e)) h.1 fun k hk => by
    obtain ⟨h1, h2, h3, h4⟩ := h.2 k hk
    refine List.mem_flatMap.mpr ⟨k.1, ?_, List.mem_map.mpr ⟨k.2, ?_, rfl⟩⟩
    · unfold range'
      exact List.mem_map.mpr ⟨k.1.toNat, List.mem_range.mpr (by omega), by omega⟩
    · simp only [List.mem_cons, List.not_mem_nil, or_false]
      omega
  rw [List.length_map, pairs_len, rng_len] at this
  simp only [List.length_cons, List.length_nil] at this
  omega
theorem PlOk.put {n : Nat} {w : List ((Int × Int) × Int)} (h : PlOk n w) {k : Int × Int} (v : Int) (hk : 0 ≤ k.1 ∧ k.1 < n ∧ -4 ≤ k.2 ∧ k.2 ≤ 4) : PlOk n (dPut w k v) := by
  refine ⟨dPut_nd h.1 k v, fun x hx => ?_⟩
  rw [dPut_keys] at hx
  split at hx
  · exact h.2 x hx
  · rcases List.mem_append.mp hx with hx | hx
    · exact h.2 x hx
    · rw [List.mem_singleton.mp hx]; exact hk
end Z
namespace Z
open PySem PySem.Spec L2
theorem lpRY {α R S β : Type} {f : S → α → Option (Step R S)} {xs : List α} {s0 : S} {k : Sum R S → Option β} {Q : β → Prop} (P : Nat → S → Prop) (h0 : P 0 s0) (step : ∀ (i : Nat) (x : α) (s : S), xs[i]? = some x → P i s → ∃ r, f s x = some r ∧ ∃ s', r = .go s' ∧ P (i + 1) s') (hk : ∀ s, P xs.length s → ∃ r, k (.inr s) = some r ∧ Q r) : ∃ r, (lpR f xs s0).bind k = some r ∧ Q r :=
  lpRX P h0 (fun i x s hx hs => by
    obtain ⟨r, e, s', rfl, h⟩ := step i x s hx hs
    exact ⟨s', e, h⟩) hk
theorem dGet_mapK {κ β γ : Type} [DecidableEq κ] (f : κ → β → γ) (k : κ) : ∀ d : List (κ × β), dGet (d.map fun p => (p.1, f p.1 p.2)) k = (dGet d k).map (f k)
  | [] => rfl
  | p :: d => by
    rw [List.map_cons, dGet_cons, dGet_cons, dGet_mapK f k d]
    by_cases e : p.1 = k
    · rw [if_pos e, if_pos e, ← e]; rfl
    · rw [if_neg e, if_neg e]
end Z
namespace Z
open PySem PySem.Spec L2
def Q_straightened (walk : (List Int)) : Option (List Int) :=
  ((lp (fun (s1 : (List Int)) (step2 : Int) => ((if (decide (0 < (s1.length : Int))) = true then ((idx s1 (-1)).bind fun t6 => some (decide (t6 = (-step2)))) else some false).bind fun t7 => ((if t7 = true then ((popO s1).bind fun t8 => some t8.2) else ((appO s1 step2).bind fun t9 => some t9) : Option (List Int)).bind fun s10 => some s10))) walk ([] : (List Int))).bind fun f3 => some f3)
/-- the steps that may be gone, in their order, and whither -/
def ext (L : Int) (D : Dd) (a s : Int) : List (Int × Int) := (stL L).filterMap fun t => if t = -s then none else (go D a t).map fun b => (t, b)
end Z
namespace Z
open PySem PySem.Spec L2
def codeS (t : Int) : Int := if 0 < t then 2 * t - 2 else -2 * t - 1
theorem stL_srt {L : Int} (h1 : 1 ≤ L) (h4 : L ≤ 4) : (stL L).Pairwise fun s t => codeS s < codeS t :=
  four (P := fun L => (stL L).Pairwise fun s t => codeS s < codeS t) h1 h4 (by decide) (by decide) (by decide) (by decide)
def keyW (w : List Int) : Int × List Int := ((w.length : Int), w.map codeS)
/-- earlier in the order -/
def klt (u v : List Int) : Bool := ltP2 ltI (ltL ltI) (keyW u) (keyW v)
def clt (u v : List Int) : Bool := ltL ltI (u.map codeS) (v.map codeS)
theorem clt_cons (s t : Int) (u v : List Int) : clt (s :: u) (t :: v) = if codeS s = codeS t then clt u v else decide (codeS s < codeS t) := rfl
theorem klt_same {u v : List Int} (h : u.length = v.length) : klt u v = clt u v := by
  unfold klt ltP2 keyW
  rw [if_pos (by rw [h])]
  rfl
theorem klt_len {u v : List Int} (h : u.length ≠ v.length) : klt u v = decide (u.length < v.length) := by
  unfold klt ltP2 keyW
  rw [if_neg (by show ¬ ((u.length : Int) = (v.length : Int)); omega)]
  unfold ltI
  simp
theorem clt_irr : ∀ u : List Int, clt u u = false
  | [] => rfl
  | s :: u => by rw [clt_cons, if_pos rfl, clt_irr u]
theorem klt_irr (u : List Int) : klt u u = false := by rw [klt_same rfl, clt_irr]
theorem clt_asym : ∀ u v : List Int, clt u v = true → clt v u = false
  | [], [], _ => rfl
  | [], _ :: _, _ => rfl
  | _ :: _, [], h => by cases h
  | s :: u, t :: v, h => by
    rw [clt_cons] at h ⊢
    by_cases e : codeS s = codeS t
    · rw [if_pos e] at h
      rw [if_pos e.symm]
      exact clt_asym u v h
    · rw [if_neg e] at h
      rw [if_neg (fun z => e z.symm)]
      simp at h ⊢
      omega
theorem klt_asym {u v : List Int} (h : klt u v = true) : klt v u = false := by
  by_cases e : u.length = v.length
  · rw [klt_same e] at h
    rw [klt_same e.symm]
    exact clt_asym u v h
  · rw [klt_len e] at h
    rw [klt_len (fun z => e z.symm)]
    simp at h ⊢
    omega
theorem clt_trans : ∀ {u v w : List Int}, u.length = v.length → v.length = w.length → clt u v = true → clt v w = true → clt u w = true
  | [], [], [], _, _, h, _ => by cases h
  | s :: u, t :: v, r :: w, e1, e2, h1, h2 => by
    rw [clt_cons] at h1 h2 ⊢
    by_cases a : codeS s = codeS t
    · rw [if_pos a] at h1
      by_cases b : codeS t = codeS r
      · rw [if_pos b] at h2
        rw [if_pos (a.trans b)]
        exact clt_trans (by simpa using e1) (by simpa using e2) h1 h2
      · rw [if_neg b] at h2
        rw [if_neg (fun z => b (a.symm.trans z))]
        simp at h2 ⊢
        omega
    · rw [if_neg a] at h1
      by_cases b : codeS t = codeS r
      · rw [if_pos b] at h2
        rw [if_neg (fun z => a (z.trans b.symm))]
        simp at h1 ⊢
        omega
      · rw [if_neg b] at h2
        simp at h1 h2
        rw [if_neg (by omega)]
        simp
        omega
theorem klt_trans {u v w : List Int} (h1 : klt u v = true) (h2 : klt v w = true) : klt u w = true := by
  by_cases a : u.length = v.length
  · rw [klt_same a] at h1
    by_cases b : v.length = w.length
    · rw [klt_same b] at h2
      rw [klt_same (a.trans b)]
      exact clt_trans a b h1 h2
    · rw [klt_len b] at h2
      rw [klt_len (by omega)]
      simp at h2 ⊢
      omega
  · rw [klt_len a] at h1
    by_cases b : v.length = w.length
    · rw [klt_len (by omega)]
      simp at h1 ⊢
      omega
    · rw [klt_len b] at h2
      simp at h1 h2
      rw [klt_len (by omega)]
      simp
      omega
/-- the room behind a walk -/
def goW (D : Dd) : Int → List Int → Option Int
  | a, [] => some a
  | a, t :: w => match go D a t with
    | some b => goW D b w
    | none => none
end Z
namespace Z
open PySem PySem.Spec L2
theorem straightW_ok {w : List Int} (h : w.length ≤ 100000) : Q_straightened w = some (red w) := straight_ok (by rw [sizeL]; omega)
end Z
namespace Z
open PySem PySem.Spec L2
end Z
namespace Z
open PySem PySem.Spec L2
theorem rng_at {a b x : Int} {i : Nat} (h : (range' a b)[i]? = some x) : x = a + i ∧ i < (b - a).toNat := by
  have hl := (List.getElem?_eq_some_iff.mp h).1
  rw [rng_len] at hl
  unfold range' at h
  rw [List.getElem?_map, List.getElem?_range hl] at h
  exact ⟨(Option.some.inj h).symm, hl⟩
def rep (w : List Int) (m : Nat) : List Int := (List.replicate m w).flatten
def pr (P : List Int) (i : Int) : Int := P.getD (i % (P.length : Int)).toNat 0
def dn (P : List Int) (b : Int) (n : Nat) : List Int := (List.range n).map fun (i : Nat) => pr P (b + (i : Int))
end Z
namespace Z
open PySem PySem.Spec L2
end Z
namespace Z
open PySem PySem.Spec L2
abbrev Pc := Int × List Int
def stp (D : Dd) (p : Pc) (x : Int) : Pc := match p.2 with
  | y :: s => if y = -x then (p.1, s) else (p.1, x :: y :: s)
  | [] => match go D p.1 x with
    | some b => (b, [])
    | none => (p.1, [x])
def act (D : Dd) (p : Pc) (w : List Int) : Pc := w.foldl (stp D) p
structure PcOk (n : Nat) (D : Dd) (p : Pc) : Prop where
  r0 : 0 ≤ p.1
  r1 : p.1 < n
  gd : Gd p.2
  nz : ∀ y ∈ p.2, y ≠ 0
  op : ∀ y, p.2.getLast? = some y → go D p.1 y = none
theorem act_cons (D : Dd) (p : Pc) (x : Int) (w : List Int) : act D p (x :: w) = act D (stp D p x) w := rfl
theorem act_app (D : Dd) (p : Pc) (u v : List Int) : act D p (u ++ v) = act D (act D p u) v := List.foldl_append
theorem stp_pop {D : Dd} {r x y : Int} {s : List Int} (h : y = -x) : stp D (r, y :: s) x = (r, s) := if_pos h
theorem stp_push {D : Dd} {r x y : Int} {s : List Int} (h : y ≠ -x) : stp D (r, y :: s) x = (r, x :: y :: s) := if_neg h
theorem stp_walk {D : Dd} {r x b : Int} (h : go D r x = some b) : stp D (r, []) x = (b, []) := by
  show (match go D r x with | some b => (b, []) | none => (r, [x])) = _
  rw [h]
theorem stp_open {D : Dd} {r x : Int} (h : go D r x = none) : stp D (r, []) x = (r, [x]) := by
  show (match go D r x with | some b => (b, []) | none => (r, [x])) = _
  rw [h]
section
variable {L : Int} {n : Nat} {D : Dd} (h : Dr L n D)
include h
theorem stp_ok {p : Pc} (hp : PcOk n D p) {x : Int} (hx : x ≠ 0) : PcOk n D (stp D p x) := by
  obtain ⟨r, s⟩ := p
  obtain ⟨r0, r1, gd, nz, op⟩ := hp
  cases s with
  | nil =>
    cases e : go D r x with
    | none =>
      rw [stp_open e]
      exact ⟨r0, r1, trivial, fun y hy => List.mem_singleton.mp hy ▸ hx, fun y hy => by
        have : x = y := Option.some.inj hy
        rw [← this]
        exact e⟩
    | some b =>
      rw [stp_walk e]
      obtain ⟨b0, b1, _⟩ := h.ok r x b r0 e
      exact ⟨b0, b1, trivial, fun _ z => (nomatch z), fun _ z => (nomatch z)⟩
  | cons y s =>
    by_cases e : y = -x
    · rw [stp_pop e]
      refine ⟨r0, r1, gd_tail gd, fun z hz => nz z (List.mem_cons_of_mem _ hz), fun z hz => op z ?_⟩
      show (y :: s).getLast? = some z
      cases s with
      | nil => cases hz
      | cons u s => exact hz
    · rw [stp_push e]
      exact ⟨r0, r1, ⟨e, gd⟩, fun z hz => (List.mem_cons.mp hz).elim (fun q => q ▸ hx) (nz z), fun z hz => op z hz⟩
theorem stp_back {p : Pc} (hp : PcOk n D p) (x : Int) : stp D (stp D p x) (-x) = p := by
  obtain ⟨r, s⟩ := p
  obtain ⟨r0, r1, gd, nz, op⟩ := hp
  cases s with
  | nil =>
    cases e : go D r x with
    | none =>
      rw [stp_open e]
      exact stp_pop (by omega)
    | some b =>
      rw [stp_walk e]
      exact stp_walk (h.ok r x b r0 e).2.2.2
  | cons y s =>
    by_cases e : y = -x
    · rw [stp_pop e]
      cases s with
      | nil =>
        rw [← e]
        exact stp_open (op y rfl)
      | cons u s =>
        rw [← e]
        exact stp_push (by have := gd.1; have : u ≠ -y := this; omega)
    · rw [stp_push e]
      exact stp_pop (by omega)
theorem act_ok : ∀ {w : List Int} {p : Pc}, PcOk n D p → (∀ x ∈ w, x ≠ 0) → PcOk n D (act D p w)
  | [], _, hp, _ => hp
  | x :: w, p, hp, hw => act_ok (w := w) (stp_ok h hp (hw x List.mem_cons_self)) (fun y hy => hw y (List.mem_cons_of_mem _ hy))
theorem act_psh {p : Pc} (hp : PcOk n D p) {s : List Int} (hs : ∀ x ∈ s, x ≠ 0) (x : Int) : act D p (psh s x).reverse = stp D (act D p s.reverse) x := by
  cases s with
  | nil => rfl
  | cons y s =>
    have hs2 : ∀ x ∈ s.reverse, x ≠ 0 := fun z hz => hs z (List.mem_cons_of_mem _ (List.mem_reverse.mp hz))
    have e2 : act D p (y :: s).reverse = stp D (act D p s.reverse) y := by
      rw [List.reverse_cons, act_app]
      rfl
    by_cases e : y = -x
    · rw [show psh (y :: s) x = s from if_pos e, e2]
      have : x = -y := by omega
      rw [this, stp_back h (act_ok h hp hs2)]
    · rw [show psh (y :: s) x = x :: y :: s from if_neg e, List.reverse_cons, act_app]
      rfl
theorem act_fl {p : Pc} (hp : PcOk n D p) : ∀ {w s : List Int}, (∀ x ∈ s, x ≠ 0) → (∀ x ∈ w, x ≠ 0) → act D p (fl s w).reverse = act D (act D p s.reverse) w
  | [], _, _, _ => rfl
  | x :: w, s, hs, hw => by
    have hx := hw x List.mem_cons_self
    show act D p (fl (psh s x) w).reverse = _
    rw [act_fl hp (w := w) (s := psh s x) (psh_mem (P := fun y => y ≠ 0) hs hx) (fun y hy => hw y (List.mem_cons_of_mem _ hy)), act_psh h hp hs, act_cons]
theorem act_red {p : Pc} (hp : PcOk n D p) {w : List Int} (hw : ∀ x ∈ w, x ≠ 0) : act D p (red w) = act D p w := by
  show act D p (fl [] w).reverse = _
  rw [act_fl h hp (w := w) (s := []) (by intro x hx; cases hx) hw]
  rfl
end
theorem act_push {D : Dd} {r : Int} : ∀ {w : List Int} {y : Int} {s : List Int}, Gd (w.reverse ++ y :: s) → act D (r, y :: s) w = (r, w.reverse ++ y :: s)
  | [], _, _, _ => rfl
  | x :: w, y, s, g => by
    have g' : Gd (w.reverse ++ x :: y :: s) := by
      rw [List.reverse_cons, List.append_assoc] at g
      exact g
    rw [act_cons, stp_push (gd_suf g').1, act_push g', List.reverse_cons, List.append_assoc]
    rfl
end Z
namespace Z
open PySem PySem.Spec L2
end Z
namespace Z
open PySem PySem.Spec L2
def pk (p : Pc) : Int × List Int := (p.1, p.2.reverse)
end Z
namespace Z
open PySem PySem.Spec L2
theorem home_pc {L : Int} {n : Nat} {D : Dd} (_ : Dr L n D) (n1 : 1 ≤ n) : PcOk n D (0, []) := ⟨Int.le_refl _, by show (0 : Int) < n; omega, trivial, fun _ z => (nomatch z), fun _ z => (nomatch z)⟩
theorem sok_nz {L : Int} {w : List Int} (h : ∀ x ∈ w, Sok L x) : ∀ x ∈ w, x ≠ 0 := fun x hx => (h x hx).1
theorem lpR_go1 {α R S : Type} {f : S → α → Option (Step R S)} {x : α} {xs : List α} {s s' : S} {r : Option (Sum R S)} (h : f s x = some (.go s')) (h2 : lpR f xs s' = r) : lpR f (x :: xs) s = r := by
  rw [lpR, h]
  exact h2
end Z
namespace Z
open PySem PySem.Spec L2
theorem act_goW {D : Dd} : ∀ (w : List Int) (a : Int), Gd w → match goW D a w with
    | some b => act D (a, []) w = (b, [])
    | none => (act D (a, []) w).2 ≠ []
  | [], a, _ => rfl
  | x :: w, a, g => by
    unfold goW
    rw [act_cons]
    cases e : go D a x with
    | some b =>
      rw [stp_walk e]
      exact act_goW w b (gd_tail g)
    | none =>
      rw [stp_open e]
      show (act D (a, [x]) w).2 ≠ []
      rw [act_push (by rw [← List.reverse_cons]; exact gd_rev g)]
      simp
theorem goW_in {L : Int} {n : Nat} {D : Dd} (h : Dr L n D) : ∀ (w : List Int) (a : Int), 0 ≤ a → a < n → ∀ b, goW D a w = some b → 0 ≤ b ∧ b < n
  | [], a, a0, a1, b, e => by cases e; exact ⟨a0, a1⟩
  | x :: w, a, a0, a1, b, e => by
    unfold goW at e
    cases eg : go D a x with
    | none => rw [eg] at e; cases e
    | some c =>
      rw [eg] at e
      obtain ⟨c0, c1, _⟩ := h.ok a x c a0 eg
      exact goW_in h w c c0 c1 b e
theorem row_len {L : Int} {n : Nat} {D : Dd} (h : Dr L n D) (h1 : 1 ≤ L) (h4 : L ≤ 4) {a : Int} (a0 : 0 ≤ a) (a1 : a < n) : (row D a).length ≤ 8 := by
  have := nodup_le ((row D a).map Prod.fst) (stL L) (h.nd _ (row_mem a0 (by rw [h.len]; exact a1))) (h.keys a0)
  rw [List.length_map] at this
  have := stL_len h1 h4
  omega
end Z
namespace Z
open PySem PySem.Spec L2
def hel (P : Int → Bool) (most : Int) : List Int := (range' (-most) (most + 1)).filterMap fun t => if P t = true then some t else none
theorem rng_nd (a b : Int) : (range' a b).Nodup := by
  unfold range'
  rw [List.nodup_iff_pairwise_ne, List.pairwise_map]
  exact List.Pairwise.imp (fun {x y} h e => by omega) (List.pairwise_lt_range (n := (b - a).toNat))
theorem mem_rng' {a b x : Int} : x ∈ range' a b ↔ a ≤ x ∧ x < b := by
  refine ⟨mem_rng, fun h => ?_⟩
  unfold range'
  exact List.mem_map.mpr ⟨(x - a).toNat, List.mem_range.mpr (by omega), by omega⟩
def Fw (L : Int) (n : Nat) (ws : List (Int × List Int)) (o : List Int) : Prop := (∀ g, (dGet ws g).isSome = true ↔ g ∈ o) ∧ ws.length ≤ o.length ∧ ∀ g w, dGet ws g = some w → (∀ x ∈ w, Sok L x) ∧ w.length ≤ n
theorem Fw.mono {L : Int} {n m : Nat} {ws : List (Int × List Int)} {o : List Int} (h : Fw L n ws o) (k : n ≤ m) : Fw L m ws o := ⟨h.1, h.2.1, fun g w e => ⟨(h.2.2 g w e).1, Nat.le_trans (h.2.2 g w e).2 k⟩⟩
end Z
namespace Z
open PySem PySem.Spec L2
def upH (h : List Int) (a : Int) : Int := h.getD a.toNat 0
structure Hd (m : Nat) (h : List Int) : Prop where
  len : h.length = m
  le : ∀ a : Int, 0 ≤ a → a < m → 0 ≤ upH h a ∧ upH h a ≤ a
def hdN (h : List Int) : Nat → Int → Int
  | 0, a => a
  | n + 1, a => if upH h a = a then a else hdN h n (upH h a)
def hd (h : List Int) (a : Int) : Int := hdN h (a.toNat + 1) a
section
variable {m : Nat} {h : List Int} (H : Hd m h) {g k : Int} (g0 : 0 ≤ g) (g1 : g < m) (k0 : 0 ≤ k) (kg : k < g) (eg : upH h g = g) (ek : upH h k = k)
include H g0 g1 k0 kg
theorem up_set {a : Int} (a0 : 0 ≤ a) : upH (h.set g.toNat k) a = if a = g then k else upH h a := by
  unfold upH
  rw [getD_set' h g.toNat a.toNat k 0 (by rw [H.len]; omega)]
  by_cases e : a = g
  · rw [if_pos (by omega), if_pos e]
  · rw [if_neg (by omega), if_neg e]
theorem Hd.set : Hd m (h.set g.toNat k) := ⟨by rw [List.length_set]; exact H.len, fun a a0 a1 => by
  rw [up_set H g0 g1 k0 kg a0]
  split
  · omega
  · exact H.le a a0 a1⟩
include eg ek
end
/-- one and the same behind all joinings that are noted -/
def Cl2 (m : Nat) (h : List Int) (J : List (Int × Int)) (x y : Int) : Prop := ∀ E : Int → Int → Prop, Equivalence E → (∀ a : Int, 0 ≤ a → a < m → E a (hd h a)) → (∀ p ∈ J, E p.1 p.2) → E x y
theorem Cl2.refl {m : Nat} {h : List Int} {J : List (Int × Int)} (x : Int) : Cl2 m h J x x := fun E e _ _ => e.refl x
theorem Cl2.trans {m : Nat} {h : List Int} {J : List (Int × Int)} {x y z : Int} (a : Cl2 m h J x y) (b : Cl2 m h J y z) : Cl2 m h J x z := fun E e u v => e.trans (a E e u v) (b E e u v)
theorem Cl2.mono {m : Nat} {h : List Int} {J J' : List (Int × Int)} {x y : Int} (a : Cl2 m h J x y) (hj : ∀ p ∈ J, p ∈ J') : Cl2 m h J' x y := fun E e u v => a E e u fun p hp => v p (hj p hp)
/-- folding by equivalence classes -/
def Closed (Wy : Int → Int → Int → Prop) (E : Int → Int → Prop) : Prop := ∀ a a' s b b', Wy a s b → Wy a' s b' → E a a' → E b b'
structure Fo (L : Int) (m : Nat) (Wy dn : Int → Int → Int → Prop) (h : List Int) (D : Dd) (J : List (Int × Int)) (P : List (Int × Int × Int)) : Prop where
  hh : Hd m h
  len : D.length = m
  nd : ∀ d ∈ D, (d.map Prod.fst).Nodup
  sd : ∀ r s g, 0 ≤ r → go D r s = some g → ∃ a, Wy a s g ∧ hd h a = r
  sp : ∀ q ∈ P, ∃ a, Wy a q.2.1 q.2.2 ∧ hd h a = q.1
  rt : ∀ a s b, dn a s b → (∃ x, go D (hd h a) s = some x ∧ Cl2 m h J x b) ∨ ∃ x, (hd h a, s, x) ∈ P ∧ Cl2 m h J x b
  ej : ∀ p ∈ J, 0 ≤ p.1 ∧ p.1 < m ∧ 0 ≤ p.2 ∧ p.2 < m
  le : ∀ E : Int → Int → Prop, Equivalence E → Closed Wy E → (∀ a : Int, 0 ≤ a → a < m → E a (hd h a)) ∧ ∀ p ∈ J, E p.1 p.2
  dw : ∀ a s b, dn a s b → Wy a s b
structure WyB (L : Int) (m : Nat) (Wy : Int → Int → Int → Prop) : Prop where
  bd : ∀ a s b, Wy a s b → 0 ≤ a ∧ a < m ∧ 0 ≤ b ∧ b < m ∧ Sok L s
  sy : ∀ a s b, Wy a s b → Wy b (-s) a
section
variable {L : Int} {m : Nat} {Wy dn : Int → Int → Int → Prop} (B : WyB L m Wy) (h4 : L ≤ 4) (hm : m ≤ 999)
include B h4
theorem Fo.small {h : List Int} {D : Dd} {J : List (Int × Int)} {P : List (Int × Int × Int)} (I : Fo L m Wy dn h D J P) {a : Int} (a0 : 0 ≤ a) : (row D a).length ≤ 8 := by
  by_cases a1 : a < D.length
  · refine small_of (I.nd _ (row_mem a0 a1)) fun k v e => ?_
    obtain ⟨b, w, _⟩ := I.sd a k v a0 e
    have := (B.bd b k v w).2.2.2.2
    unfold Sok at this ⊢
    omega
  · have : row D a = [] := by
      unfold row
      rw [List.getD_eq_getElem?_getD, List.getElem?_eq_none (by omega)]
      rfl
    rw [this]
    decide
end
theorem flt_le {α : Type} {p q : α → Bool} : ∀ {l : List α}, (∀ x ∈ l, p x = true → q x = true) → (l.filter p).length ≤ (l.filter q).length
  | [], _ => Nat.le_refl _
  | x :: l, h => by
    have ih := flt_le (p := p) (q := q) (l := l) fun y hy => h y (List.mem_cons_of_mem _ hy)
    rw [List.filter_cons, List.filter_cons]
    cases e : p x with
    | true =>
      rw [h x List.mem_cons_self e]
      simp only [if_true, List.length_cons]
      omega
    | false =>
      cases e2 : q x <;> simp only [Bool.false_eq_true, if_false, if_true, List.length_cons] <;> omega
theorem flt_lt {α : Type} {p q : α → Bool} {g : α} : ∀ {l : List α}, (∀ x ∈ l, p x = true → q x = true) → g ∈ l → p g = false → q g = true → (l.filter p).length < (l.filter q).length
  | [], _, hg, _, _ => nomatch hg
  | x :: l, h, hg, hp, hq => by
    have ih := fun hg => flt_lt (p := p) (q := q) (g := g) (l := l) (fun y hy => h y (List.mem_cons_of_mem _ hy)) hg hp hq
    have il := flt_le (p := p) (q := q) (l := l) fun y hy => h y (List.mem_cons_of_mem _ hy)
    rw [List.filter_cons, List.filter_cons]
    rcases List.mem_cons.mp hg with e | hg
    · rw [← e, hp, hq]
      simp only [Bool.false_eq_true, if_false, if_true, List.length_cons]
      omega
    · have := ih hg
      cases e : p x with
      | true =>
        rw [h x List.mem_cons_self e]
        simp only [if_true, List.length_cons]
        omega
      | false => cases e2 : q x <;> simp only [Bool.false_eq_true, if_false, if_true, List.length_cons] <;> omega
theorem popO_snoc {α : Type} (xs : List α) (x : α) : popO (xs ++ [x]) = some (x, xs) := by
  unfold popO
  rw [List.getLast?_concat, List.dropLast_concat]
end Z
namespace Z
open PySem PySem.Spec L2
def ordC (nb : Int → List Int) (c : Int) : Nat → List Int
  | 0 => [c]
  | i + 1 => match (ordC nb c i)[i]? with
    | some a => visA (ordC nb c i) (nb a)
    | none => ordC nb c i
def sw (c x : Int) : Int := if x = 0 then c else if x = c then 0 else x
theorem sw_sw (c x : Int) : sw c (sw c x) = x := by
  unfold sw
  by_cases h0 : x = 0
  · rw [if_pos h0]
    by_cases hc : c = 0
    · rw [if_pos hc, hc, h0]
    · rw [if_neg hc, if_pos rfl, h0]
  · rw [if_neg h0]
    by_cases h1 : x = c
    · rw [if_pos h1, if_pos rfl, h1]
    · rw [if_neg h1, if_neg h0, if_neg h1]
theorem sw_inj {c x y : Int} (h : sw c x = sw c y) : x = y := by rw [← sw_sw c x, h, sw_sw]
theorem sw_in {c x n : Int} (c0 : 0 ≤ c) (c1 : c < n) (h0 : 0 ≤ x) (h1 : x < n) : 0 ≤ sw c x ∧ sw c x < n := by
  unfold sw
  split
  · exact ⟨c0, c1⟩
  · split <;> omega
theorem sw_zero (c : Int) : sw c 0 = c := if_pos rfl
theorem ixOf_sw (c x : Int) : ∀ l : List Int, ixOf (l.map (sw c)) (sw c x) = ixOf l x
  | [] => rfl
  | y :: l => by
    have ih := ixOf_sw c x l
    rw [List.map_cons]
    unfold ixOf
    by_cases h : y = x
    · rw [if_pos h, if_pos (by rw [h])]
    · rw [if_neg h, if_neg (fun z => h (sw_inj z)), ih]
def turnD (n : Nat) (c : Int) (D : Dd) : Dd := (range' 0 (n : Int)).map fun a => (row D (sw c a)).map fun p => (p.1, sw c p.2)
section
variable {L : Int} {n : Nat} {D : Dd} (h : Dr L n D) {c : Int} (c0 : 0 ≤ c) (c1 : c < n)
include h c0 c1
theorem turn_row {a : Int} (a0 : 0 ≤ a) (a1 : a < n) : row (turnD n c D) a = (row D (sw c a)).map fun p => (p.1, sw c p.2) := by
  unfold turnD
  show ((range' 0 (n : Int)).map _).getD a.toNat [] = _
  unfold range'
  rw [List.getD_eq_getElem?_getD, List.getElem?_map, List.getElem?_map, List.getElem?_range (by omega)]
  show (row D (sw c (0 + (a.toNat : Int)))).map _ = _
  rw [show 0 + (a.toNat : Int) = a by omega]
theorem turn_go {a s : Int} (a0 : 0 ≤ a) (a1 : a < n) : go (turnD n c D) a s = (go D (sw c a) s).map (sw c) := by
  unfold go
  rw [turn_row h c0 c1 a0 a1, dGet_mapK (fun _ x => sw c x)]
theorem turn_dr : Dr L n (turnD n c D) := by
  have hl : (turnD n c D).length = n := by
    unfold turnD
    rw [List.length_map, rng_len]
    omega
  refine ⟨hl, fun d hd => ?_, fun a s b a0 e => ?_⟩
  · obtain ⟨a, ha, rfl⟩ := List.mem_map.mp hd
    have ha := mem_rng ha
    obtain ⟨b0, b1⟩ := sw_in c0 c1 ha.1 ha.2
    rw [List.map_map]
    exact h.nd _ (row_mem b0 (by rw [h.len]; exact b1))
  · have a1 : a < n := by have := go_lt a0 e; rw [hl] at this; exact this
    rw [turn_go h c0 c1 a0 a1] at e
    obtain ⟨g, eg, rfl⟩ := Option.map_eq_some_iff.mp e
    obtain ⟨s0, s1⟩ := sw_in c0 c1 a0 a1
    obtain ⟨g0, g1, hs, hb⟩ := h.ok _ s g s0 eg
    obtain ⟨x0, x1⟩ := sw_in c0 c1 g0 g1
    refine ⟨x0, x1, hs, ?_⟩
    rw [turn_go h c0 c1 x0 x1, sw_sw, hb]
    show some (sw c (sw c a)) = some a
    rw [sw_sw]
theorem turn_nbr {a : Int} (a0 : 0 ≤ a) (a1 : a < n) : nbr L D (sw c a) = (nbr L (turnD n c D) a).map (sw c) := by
  unfold nbr
  rw [List.map_filterMap]
  congr 1
  funext t
  rw [turn_go h c0 c1 a0 a1]
  cases go D (sw c a) t with
  | none => rfl
  | some g =>
    show some g = some (sw c (sw c g))
    rw [sw_sw]
theorem ordC_map (n1 : 1 ≤ n) : ∀ i : Nat, ordC (nbr L D) c i = (ord (nbr L (turnD n c D)) i).map (sw c)
  | 0 => by
    show [c] = [sw c 0]
    rw [sw_zero]
  | i + 1 => by
    have ih := ordC_map n1 i
    have hd := turn_dr h c0 c1
    obtain ⟨o1, _⟩ := ord_in n1 hd.nbr i
    show (match (ordC (nbr L D) c i)[i]? with | some a => visA (ordC (nbr L D) c i) (nbr L D a) | none => ordC (nbr L D) c i) = (match (ord (nbr L (turnD n c D)) i)[i]? with | some a => visA (ord (nbr L (turnD n c D)) i) (nbr L (turnD n c D) a) | none => ord (nbr L (turnD n c D)) i).map (sw c)
    rw [ih, List.getElem?_map]
    cases e : (ord (nbr L (turnD n c D)) i)[i]? with
    | none => rfl
    | some a =>
      obtain ⟨a0, a1⟩ := o1 a (List.mem_of_getElem? e)
      show visA _ (nbr L D (sw c a)) = _
      rw [turn_nbr h c0 c1 a0 a1]
      exact visA_map (φ := sw c) (m := n) (fun x y _ _ _ _ z => sw_inj z) o1 (fun x hx => hd.nbr a a0 a1 x hx)
theorem ordC_facts (n1 : 1 ≤ n) : (∀ i, (∀ x ∈ ordC (nbr L D) c i, 0 ≤ x ∧ x < n) ∧ (ordC (nbr L D) c i).length ≤ n) ∧ (∀ i, i ≤ n → (ordC (nbr L D) c i).length ≤ i → ordC (nbr L D) c i = ordC (nbr L D) c n) := by
  have hd := turn_dr h c0 c1
  refine ⟨fun i => ⟨fun x hx => ?_, ?_⟩, fun i hi hl => ?_⟩
  · rw [ordC_map h c0 c1 n1] at hx
    obtain ⟨y, hy, rfl⟩ := List.mem_map.mp hx
    obtain ⟨y0, y1⟩ := (ord_in n1 hd.nbr i).1 y hy
    exact sw_in c0 c1 y0 y1
  · rw [ordC_map h c0 c1 n1, List.length_map]
    exact ord_len n1 hd.nbr i
  · rw [ordC_map h c0 c1 n1, List.length_map] at hl
    rw [ordC_map h c0 c1 n1, ordC_map h c0 c1 n1, ord_end n1 hd.nbr hi hl]
theorem web_at (h1 : 1 ≤ L) (h4 : L ≤ 4) (n1 : 1 ≤ n) (n9 : n ≤ 900) (ht : ∀ a : Int, 0 ≤ a → a < n → a ≠ c → (row D a).length ≠ 1) : ∃ E, Web L ((ordC (nbr L D) c n).map fun a => (range' 1 (L + 1)).map (cellF D (ordC (nbr L D) c n) a)) E := by
  have hd := turn_dr h c0 c1
  obtain ⟨E, W⟩ := web_of_doors hd h1 h4 n1 n9 fun a a0 a1 => by
    rw [turn_row h c0 c1 (by omega) a1, List.length_map]
    obtain ⟨b0, b1⟩ := sw_in c0 c1 (show 0 ≤ a by omega) a1
    refine ht _ b0 b1 fun z => ?_
    have : sw c a = sw c 0 := by rw [z, sw_zero]
    have := sw_inj this
    omega
  refine ⟨E, ?_⟩
  have e : ((ordC (nbr L D) c n).map fun a => (range' 1 (L + 1)).map (cellF D (ordC (nbr L D) c n) a)) = ((ord (nbr L (turnD n c D)) n).map fun a => (range' 1 (L + 1)).map (cellF (turnD n c D) (ord (nbr L (turnD n c D)) n) a)) := by
    rw [ordC_map h c0 c1 n1, List.map_map]
    refine List.map_congr_left fun a ha => ?_
    obtain ⟨a0, a1⟩ := (ord_in n1 hd.nbr n).1 a ha
    refine List.map_congr_left fun l _ => ?_
    unfold cellF
    rw [turn_go h c0 c1 a0 a1]
    cases go D (sw c a) l with
    | none => rfl
    | some g =>
      show (((ixOf ((ord (nbr L (turnD n c D)) n).map (sw c)) g).getD 0 : Nat) : Int) = (((ixOf (ord (nbr L (turnD n c D)) n) (sw c g)).getD 0 : Nat) : Int)
      have := ixOf_sw c (sw c g) (ord (nbr L (turnD n c D)) n)
      rw [sw_sw] at this
      rw [this]
  rw [e]
  exact W
end
end Z
namespace Z
open PySem PySem.Spec L2
theorem unH_some {γ : Type} : ∀ l : List γ, unH (l.map some) = some l
  | [] => rfl
  | x :: l => by
    rw [List.map_cons]
    unfold unH
    rw [unH_some l]
    rfl
theorem setI_map {α β : Type} (f : α → β) (xs : List α) (z : Int) (x : α) : (setI xs z x).map f = setI (xs.map f) z (f x) := by
  unfold setI
  rw [List.map_set, List.length_map]
theorem setI_setI {α : Type} (xs : List α) (z : Int) (x y : α) : setI (setI xs z x) z y = setI xs z y := by
  unfold setI
  rw [List.length_set, List.set_set]
theorem setI_comm {α : Type} {xs : List α} {a b : Int} (a0 : 0 ≤ a) (a1 : a < xs.length) (b0 : 0 ≤ b) (b1 : b < xs.length) (hab : a ≠ b) (x y : α) : setI (setI xs a x) b y = setI (setI xs b y) a x := by
  rw [setI_nn a0 a1, setI_nn b0 b1, setI_nn b0 (by rw [List.length_set]; exact b1), setI_nn a0 (by rw [List.length_set]; exact a1)]
  exact List.set_comm _ _ (by omega)
theorem setI_rowB {D : Dd} {a : Int} (a0 : 0 ≤ a) (a1 : a < D.length) : setI D a (row D a) = D := by
  rw [setI_nn a0 a1]
  refine List.ext_getElem? fun i => ?_
  rw [List.getElem?_set]
  by_cases h : a.toNat = i
  · subst h
    have : a.toNat < D.length := by omega
    rw [if_pos rfl, if_pos this, List.getElem?_eq_getElem this]
    unfold row
    rw [List.getD_eq_getElem?_getD, List.getElem?_eq_getElem this]
    rfl
  · rw [if_neg h]
theorem idx_setI {α : Type} {xs : List α} {a b : Int} (a0 : 0 ≤ a) (a1 : a < xs.length) (b0 : 0 ≤ b) (x : α) : idx (setI xs a x) b = if a = b then some x else idx xs b := by
  by_cases b1 : b < xs.length
  · have h1 : (setI xs a x)[b.toNat]? = if a = b then some x else xs[b.toNat]? := by
      rw [setI_nn a0 a1, List.getElem?_set]
      by_cases e : a = b
      · rw [if_pos (by omega), if_pos e, if_pos (by omega)]
      · rw [if_neg (by omega), if_neg e]
    have h2 : ∀ {ys : List α}, idx ys b = ys[b.toNat]? := fun {ys} => by
      unfold idx atI ixN
      rw [if_pos b0]
      by_cases h : b < (ys.length : Int)
      · rw [if_pos h]
        rfl
      · rw [if_neg h]
        exact (List.getElem?_eq_none (by omega)).symm
    rw [h2, h1, h2]
  · have h2 : ∀ {ys : List α}, ys.length = xs.length → idx ys b = none := fun {ys} e => by
      unfold idx atI ixN
      rw [if_pos b0, if_neg (by omega)]
      rfl
    rw [h2 (setI_len _ _ _), h2 rfl, if_neg (by omega)]
/-- loops that are straight are kept -/
theorem loops_del {L : Int} {n : Nat} {D : Dd} (h : Dr L n D) {c r k g : Int} (r0 : 0 ≤ r) (hrc : r ≠ c) (hr : row D r = [(k, g)]) : ∀ (w : List Int) (a : Int), 0 ≤ a → a ≠ r → Gd w → goW D a w = some c → goW (delD D r k g) a w = some c
  | [], a, _, _, _, e => e
  | t :: w, a, a0, har, gw, e => by
    have hg0 : go D r k = some g := by
      unfold go
      rw [hr, dGet_cons, if_pos rfl]
    unfold goW at e ⊢
    cases hb : go D a t with
    | none => rw [hb] at e; cases e
    | some b =>
      rw [hb] at e
      obtain ⟨b0, _, _, hback⟩ := h.ok a t b a0 hb
      by_cases hbr : b = r
      · subst hbr
        exfalso
        have hk : k = -t := by
          unfold go at hback
          rw [hr, dGet_cons] at hback
          by_cases z : k = -t
          · exact z
          · rw [if_neg z] at hback
            cases hback
        cases w with
        | nil =>
          have e : some b = some c := e
          cases e
          exact hrc rfl
        | cons u w =>
          have e : (match go D b u with | some b => goW D b w | none => none) = some c := e
          have hu : u = k := by
            unfold go at e
            rw [hr, dGet_cons] at e
            by_cases z : k = u
            · exact z.symm
            · rw [if_neg z] at e
              cases e
          exact gw.1 (by rw [hu, hk])
      · have hd : go (delD D r k g) a t = some b := by
          rw [go_del r0 (go_lt r0 hg0) (h.ok r k g r0 hg0).1 (by rw [h.len]; exact (h.ok r k g r0 hg0).2.1) (h.ok r k g r0 hg0).2.2.1.1 a0, if_neg]
          · exact hb
          · rintro (⟨rfl, rfl⟩ | ⟨rfl, _⟩)
            · have := (h.ok r k a r0 hg0).2.2.2
              rw [this] at hb
              cases hb
              exact hbr rfl
            · exact har rfl
        rw [hd]
        exact loops_del h r0 hrc hr w b b0 hbr (gd_tail gw) e
def tmF (home : Int) (s11 : List Int × Dd) : Option (Step Dd (List Int × Dd)) :=
  (((popO s11.1).bind fun t16 => ((idx s11.2 t16.1).bind fun t17 => ((lp (fun (s18 : ((List Int) × (List (Option (List (Int × Int)))))) (x19 : (Int × Int)) => ((idxH s18.2 x19.2).bind fun t23 => (dPopO t23 (-x19.1)).bind fun t24 => ((if (!decide (x19.2 = home)) = true then ((idxH (setI s18.2 x19.2 (some t24.2)) x19.2).bind fun t25 => some (decide ((t25.length : Int) = 1))) else some false).bind fun t26 => ((if t26 = true then ((appO s18.1 x19.2).bind fun t27 => some t27) else some s18.1 : Option (List Int)).bind fun s28 => some (s28, (setI s18.2 x19.2 (some t24.2))))))) t17 (t16.2, (setI (List.map some s11.2) t16.1 none))).bind fun f20 => ((idx f20.2 t16.1).bind fun t30 => (unH (setI f20.2 t16.1 (some ([] : (List (Int × Int)))))).bind fun t31 => some (Step.go (f20.1, t31)))))))
theorem tmF_ok {L : Int} {n : Nat} {D : Dd} (h : Dr L n D) {home r : Int} {idle : List Int} (r0 : 0 ≤ r) (r1 : r < n) (hl : (row D r).length ≤ 1) (hi : idle.length < 10000000) :
    ∃ idle' D', tmF home (idle ++ [r], D) = some (Step.go (idle', D')) ∧ ((row D r = [] ∧ D' = D ∧ idle' = idle) ∨ ∃ k g, row D r = [(k, g)] ∧ g ≠ r ∧ D' = delD D r k g ∧ idle' = if g ≠ home ∧ (row D' g).length = 1 then idle ++ [g] else idle) := by
  have r2 : r < D.length := by rw [h.len]; exact r1
  have r3 : r < (D.map some).length := by rw [List.length_map]; exact r2
  unfold tmF
  rcases e : row D r with _ | ⟨⟨k, g⟩, t⟩
  · refine ⟨idle, D, ?_, .inl ⟨rfl, rfl, rfl⟩⟩
    refine bindS (popO_snoc _ _) (bindS (idx_row r0 r2) ?_)
    show ((lp _ (row D r) _).bind _) = _
    rw [e]
    refine bindS (a := (idle, setI (D.map some) r none)) rfl (bindS (a := none) ?_ (bindS (a := D) ?_ rfl))
    · rw [idx_setI r0 r3 r0, if_pos rfl]
    · show unH (setI (setI (D.map some) r none) r (some [])) = some D
      rw [setI_setI, ← e, ← setI_map, setI_rowB r0 r2]
      exact unH_some D
  · have ht : t = [] := by
      rw [e, List.length_cons] at hl
      exact List.eq_nil_of_length_eq_zero (by omega)
    subst ht
    have hg : go D r k = some g := by
      unfold go
      rw [e, dGet_cons, if_pos rfl]
    obtain ⟨g0, g1, sk, hb⟩ := h.ok r k g r0 hg
    have g2 : g < D.length := by rw [h.len]; exact g1
    have g3 : g < (D.map some).length := by rw [List.length_map]; exact g2
    have hgr : g ≠ r := fun z => by
      subst z
      unfold go at hb
      rw [e, dGet_cons] at hb
      have := sk.1
      rw [if_neg (by omega)] at hb
      cases hb
    have hD : delD D r k g = setI (setI D g (dDel (row D g) (-k))) r [] := by
      unfold delD
      rw [row_set r0 r2 g0, if_neg (Ne.symm hgr), e]
      rw [show dDel [(k, g)] k = [] from by simp [dDel]]
      exact setI_comm r0 r2 g0 g2 (Ne.symm hgr) _ _
    have hrow : row (delD D r k g) g = dDel (row D g) (-k) := by
      rw [hD, row_set r0 (by rw [setI_len]; exact r2) g0, if_neg (Ne.symm hgr), row_set g0 g2 g0, if_pos rfl]
    -- the walk over one door
    have i1 : idxH (setI (D.map some) r none) g = some (row D g) := by
      unfold idxH
      rw [idx_setI r0 r3 g0, if_neg (Ne.symm hgr), idx_mapS (idx_row g0 g2)]
      rfl
    have i2 : dPopO (row D g) (-k) = some (r, dDel (row D g) (-k)) := by
      unfold dPopO
      rw [show dGet (row D g) (-k) = some r from hb]
      rfl
    have i3 : idxH (setI (setI (D.map some) r none) g (some (dDel (row D g) (-k)))) g = some (dDel (row D g) (-k)) := by
      unfold idxH
      rw [idx_setI g0 (by rw [setI_len]; exact g3) g0, if_pos rfl]
      rfl
    have i4 : idx (setI (setI (D.map some) r none) g (some (dDel (row D g) (-k)))) r = some none := by
      rw [idx_setI g0 (by rw [setI_len]; exact g3) r0, if_neg hgr, idx_setI r0 r3 r0, if_pos rfl]
    have i5 : unH (setI (setI (setI (D.map some) r none) g (some (dDel (row D g) (-k)))) r (some [])) = some (delD D r k g) := by
      rw [setI_comm r0 r3 g0 g3 (Ne.symm hgr), setI_setI, hD, ← setI_map, ← setI_map]
      exact unH_some _
    refine ⟨if g ≠ home ∧ (row (delD D r k g) g).length = 1 then idle ++ [g] else idle, delD D r k g, ?_, .inr ⟨k, g, rfl, hgr, rfl, rfl⟩⟩
    refine bindS (popO_snoc _ _) (bindS (idx_row r0 r2) ?_)
    show ((lp _ (row D r) _).bind _) = _
    rw [e]
    refine bindS (a := (if g ≠ home ∧ (row (delD D r k g) g).length = 1 then idle ++ [g] else idle, setI (setI (D.map some) r none) g (some (dDel (row D g) (-k))))) ?_ (bindS i4 (bindS i5 rfl))
    unfold lp
    refine bindS (bindS i1 (bindS i2 (bindS (a := decide (g ≠ home ∧ (row (delD D r k g) g).length = 1)) ?_ (bindS (a := if g ≠ home ∧ (row (delD D r k g) g).length = 1 then idle ++ [g] else idle) ?_ rfl)))) rfl
    · rw [hrow]
      by_cases z : g = home
      · exact (if_neg (by simp [z])).trans (by simp [z])
      · refine (if_pos (by simp [z])).trans (bindS i3 ?_)
        simp [z]
        omega
    · by_cases z : g ≠ home ∧ (row (delD D r k g) g).length = 1
      · rw [if_pos z]
        exact (if_pos (decide_eq_true z)).trans (bindS (app_ok (by show idle.length < _; rw [sizeL]; omega)) rfl)
      · rw [if_neg z]
        exact if_neg (by simpa using z)
structure Trm (L : Int) (n : Nat) (home : Int) (D0 D : Dd) (idle : List Int) : Prop where
  dr : Dr L n D
  sub : ∀ a s b, 0 ≤ a → go D a s = some b → go D0 a s = some b
  lo : ∀ w, Gd w → goW D0 home w = some home → goW D home w = some home
  id1 : ∀ r ∈ idle, 0 ≤ r ∧ r < n ∧ r ≠ home ∧ (row D r).length ≤ 1
  id2 : ∀ a : Int, 0 ≤ a → a < n → a ≠ home → (row D a).length = 1 → a ∈ idle
def neR (n : Nat) (D : Dd) : Nat := ((range' 0 (n : Int)).filter fun a => decide (row D a ≠ [])).length
theorem Trm.step {L : Int} {n : Nat} {home : Int} (hh : 0 ≤ home) {D0 D : Dd} {idle : List Int} {r : Int} (T : Trm L n home D0 D (idle ++ [r])) (hi : idle.length < 10000000) :
    ∃ idle' D', tmF home (idle ++ [r], D) = some (Step.go (idle', D')) ∧ Trm L n home D0 D' idle' ∧ idle'.length + neR n D' < (idle.length + 1) + neR n D := by
  obtain ⟨r0, r1, rh, rl⟩ := T.id1 r (List.mem_append_right _ List.mem_cons_self)
  obtain ⟨idle', D', e, hc⟩ := tmF_ok (home := home) T.dr r0 r1 rl hi
  refine ⟨idle', D', e, ?_⟩
  rcases hc with ⟨hr, rfl, rfl⟩ | ⟨k, g, hr, hgr, rfl, rfl⟩
  · refine ⟨⟨T.dr, T.sub, T.lo, fun x hx => T.id1 x (List.mem_append_left _ hx), fun a a0 a1 ah al => ?_⟩, by omega⟩
    rcases List.mem_append.mp (T.id2 a a0 a1 ah al) with z | z
    · exact z
    · rw [List.mem_singleton.mp z, hr] at al
      cases al
  · have hg : go D r k = some g := by
      unfold go
      rw [hr, dGet_cons, if_pos rfl]
    obtain ⟨g0, g1, sk, hb⟩ := T.dr.ok r k g r0 hg
    have rl' : r < D.length := by rw [T.dr.len]; exact r1
    have gl' : g < D.length := by rw [T.dr.len]; exact g1
    have d2 := T.dr.del r0 hg
    have rw1 : ∀ x : Int, 0 ≤ x → row (delD D r k g) x = if x = g then dDel (row D g) (-k) else if x = r then [] else row D x := fun x x0 => by
      unfold delD
      rw [row_set g0 (by rw [setI_len]; exact gl') x0, row_set r0 rl' g0, if_neg (Ne.symm hgr), row_set r0 rl' x0, hr]
      by_cases e1 : x = g
      · rw [if_pos e1.symm, if_pos e1]
      · rw [if_neg (fun z => e1 z.symm), if_neg e1]
        by_cases e2 : x = r
        · rw [if_pos e2.symm, if_pos e2]
          simp [dDel]
        · rw [if_neg (fun z => e2 z.symm), if_neg e2]
    refine ⟨⟨d2, fun a s b a0 hx => ?_, fun w gw hw => ?_, fun x hx => ?_, fun a a0 a1 ah al => ?_⟩, ?_⟩
    · rw [go_del r0 rl' g0 gl' sk.1 a0] at hx
      split at hx
      · cases hx
      · exact T.sub a s b a0 hx
    · exact loops_del T.dr r0 rh hr w home hh (Ne.symm rh) gw (T.lo w gw hw)
    · have old : ∀ y ∈ idle, 0 ≤ y ∧ y < n ∧ y ≠ home ∧ (row (delD D r k g) y).length ≤ 1 := fun y hy => by
        obtain ⟨y0, y1, yh, yl⟩ := T.id1 y (List.mem_append_left _ hy)
        refine ⟨y0, y1, yh, ?_⟩
        rw [rw1 y y0]
        split
        · rename_i e1
          rw [e1] at yl
          have : (dDel (row D g) (-k)).length ≤ (row D g).length := List.length_filter_le _ _
          omega
        · split
          · exact Nat.zero_le _
          · exact yl
      split at hx
      · rename_i z
        rcases List.mem_append.mp hx with hx | hx
        · exact old x hx
        · rw [List.mem_singleton.mp hx]
          exact ⟨g0, g1, z.1, by rw [z.2]; exact Nat.le_refl _⟩
      · exact old x hx
    · by_cases e1 : a = g
      · subst e1
        rw [if_pos ⟨ah, al⟩]
        exact List.mem_append_right _ List.mem_cons_self
      · have ra : row (delD D r k g) a = if a = r then [] else row D a := by rw [rw1 a a0, if_neg e1]
        by_cases e2 : a = r
        · rw [ra, if_pos e2] at al
          cases al
        · rw [ra, if_neg e2] at al
          have : a ∈ idle := by
            rcases List.mem_append.mp (T.id2 a a0 a1 ah al) with z | z
            · exact z
            · exact absurd (List.mem_singleton.mp z) e2
          split
          · exact List.mem_append_left _ this
          · exact this
    · have lt : neR n (delD D r k g) < neR n D := by
        refine flt_lt (g := r) (fun x hx hp => ?_) (mem_rng'.mpr ⟨r0, r1⟩) ?_ (by simp [hr])
        · have x0 := (mem_rng hx).1
          rw [rw1 x x0] at hp
          refine decide_eq_true fun z => ?_
          have hp := of_decide_eq_true hp
          split at hp
          · rename_i e1
            rw [e1] at z
            rw [z] at hp
            exact hp rfl
          · split at hp
            · exact hp rfl
            · exact hp z
        · rw [rw1 r r0, if_neg (Ne.symm hgr), if_pos rfl]
          simp
      have : (if g ≠ home ∧ (row (delD D r k g) g).length = 1 then idle ++ [g] else idle).length ≤ idle.length + 1 := by
        split
        · rw [List.length_append]
          exact Nat.le_refl _
        · omega
      omega
end Z
namespace Z
open PySem PySem.Spec L2
end Z
namespace Z
open PySem PySem.Spec L2
theorem goW_app {D : Dd} : ∀ (u v : List Int) (a : Int), goW D a (u ++ v) = (goW D a u).bind fun b => goW D b v
  | [], v, a => rfl
  | x :: u, v, a => by
    show (match go D a x with | some b => goW D b (u ++ v) | none => none) = ((match go D a x with | some b => goW D b u | none => none) : Option Int).bind _
    cases go D a x with
    | none => rfl
    | some b => exact goW_app u v b
theorem goW_act {D : Dd} : ∀ (w : List Int) (a b : Int), goW D a w = some b → act D (a, []) w = (b, [])
  | [], a, b, e => by cases e; rfl
  | x :: w, a, b, e => by
    unfold goW at e
    cases hg : go D a x with
    | none => rw [hg] at e; cases e
    | some c =>
      rw [hg] at e
      rw [act_cons, stp_walk hg]
      exact goW_act w c b e
theorem goW_sok {L : Int} {n : Nat} {D : Dd} (h : Dr L n D) : ∀ (w : List Int) (a b : Int), 0 ≤ a → goW D a w = some b → ∀ x ∈ w, Sok L x
  | [], _, _, _, _ => fun _ z => nomatch z
  | x :: w, a, b, a0, e => by
    unfold goW at e
    cases hg : go D a x with
    | none => rw [hg] at e; cases e
    | some c =>
      rw [hg] at e
      obtain ⟨c0, _, hx, _⟩ := h.ok a x c a0 hg
      intro y hy
      rcases List.mem_cons.mp hy with rfl | hy
      · exact hx
      · exact goW_sok h w c b c0 e y hy
end Z
namespace Z
open PySem PySem.Spec L2
end Z
namespace Z
open PySem PySem.Spec L2
def Sub (D1 D2 : Dd) (p0 : Pc) : Prop := ∀ w : List Int, (∀ x ∈ w, x ≠ 0) → act D1 (0, []) w = (0, []) → act D2 p0 w = p0
theorem room_walk {L : Int} {rows : List (List Int)} {E : Dd} (W : Web L rows E) {a : Int} (a0 : 0 ≤ a) (a1 : a < rows.length) : ∃ w, goW E 0 w = some a := by
  have hn := W.n1
  have hd := W.rep.1
  have key : ∀ i, ∀ x ∈ ord (nbr L E) i, ∃ w, goW E 0 w = some x := by
    intro i
    induction i with
    | zero => intro x hx; rw [List.mem_singleton.mp hx]; exact ⟨[], rfl⟩
    | succ i ih =>
      intro x hx
      unfold ord at hx
      cases e : (ord (nbr L E) i)[i]? with
      | none => rw [e] at hx; exact ih x hx
      | some b =>
        rw [e] at hx
        rcases visA_mem.mp hx with hx | hx
        · exact ih x hx
        · obtain ⟨w, hw⟩ := ih b (List.mem_of_getElem? e)
          obtain ⟨t, _, ht⟩ := List.mem_filterMap.mp hx
          refine ⟨w ++ [t], ?_⟩
          rw [goW_app, hw]
          show (match go E b t with | some b => goW E b [] | none => none) = _
          rw [ht]
          rfl
  refine key rows.length a ?_
  rw [W.bfs]
  exact mem_rng'.mpr ⟨a0, a1⟩
end Z
namespace Z
open PySem PySem.Spec L2
def C_take (w_well_here : (List Int)) (many : Int) : Option (Int × (List Int)) :=
  ((idx w_well_here 0).bind fun t1 => (if (decide (0 < t1)) = true then ((idx w_well_here 0).bind fun t2 => (modO t2 many).bind fun t3 => ((idx w_well_here 0).bind fun t4 => (fdivO t4 many).bind fun t5 => (setO w_well_here 0 t5).bind fun t6 => some (t3, t6))) else ((idx w_well_here 2).bind fun t7 => (setO w_well_here 2 (t7 + 1)).bind fun t8 => ((idx t8 1).bind fun t9 => (idx t8 2).bind fun t10 => (powO (t9 + (86028121 * t10)) 3).bind fun t11 => ((idx t8 2).bind fun t12 => (powO ((t11 % 10000000000000000000000000000000000000000057) + (6700417 * t12)) 2).bind fun t13 => (some ((t13 + (t11 % 10000000000000000000000000000000000000000057)) % 1000000000000000000000000000000000000000063)).bind fun mixed14 => ((modO (mixed14 / 999983) many).bind fun t16 => some (t16, t8)))))))
def C_steps (letters : Int) : Option (List Int) :=
  ((rngO 1 (letters + 1)).bind fun t1 => ((lp (fun (s2 : (List Int)) (letter3 : Int) => ((catO (α := Int) s2 ([letter3, (0 - letter3)])).bind fun t7 => some t7)) t1 ([] : (List Int))).bind fun f4 => some f4))
def C_laid (w_doors_here : (List (List (Int × Int)))) (room : Int) (step : Int) (goal : Int) : Option (Unit × (List (List (Int × Int)))) :=
  ((idx w_doors_here room).bind fun t2 => (idx w_doors_here goal).bind fun t3 => ((idx w_doors_here room).bind fun t4 => (dPutO t4 step goal).bind fun t5 => ((idx (setI w_doors_here room t5) goal).bind fun t6 => (dPutO t6 (0 - step) room).bind fun t7 => some ((), (setI (setI w_doors_here room t5) goal t7)))))
def C_named (letters : Int) (w_doors_here : (List (List (Int × Int)))) (home : Int) : Option ((Int × (List (List Int))) × (List (List (Int × Int)))) :=
  ((rngO 0 (w_doors_here.length : Int)).bind fun t2 => ((lpR (fun (s3 : (List (List (Int × Int)))) (turn4 : Int) => (((rngO 0 (s3.length : Int)).bind fun t8 => (lcG (β := Int) (fun (room9 : Int) => ((if (!decide (room9 = home)) = true then ((idx s3 room9).bind fun t11 => some (decide ((t11.length : Int) = 1))) else some false).bind fun t12 => if t12 = true then some (some room9) else some none)) t8).bind fun t13 => (if (decide (t13 = ([] : (List Int)))) = true then some (Step.brk s3) else ((lp (fun (s14 : (List (List (Int × Int)))) (room15 : Int) => ((idx s14 room15).bind fun t19 => ((idx s14 room15).bind fun t20 => ((lp (fun (s21 : (List (List (Int × Int)))) (step22 : Int) => ((idx s21 room15).bind fun t26 => (dGet t26 step22).bind fun t27 => (idx s21 t27).bind fun t28 => ((idx s21 t27).bind fun t29 => (dPopO t29 (0 - step22)).bind fun t30 => some (setI s21 t27 t30.2)))) (List.map Prod.fst t20) s14).bind fun f23 => ((idx f23 room15).bind fun t32 => some (setI f23 room15 ([] : (List (Int × Int))))))))) t13 s3).bind fun f16 => some (Step.go f16)))) : Option (Step ((Int × (List (List Int))) × (List (List (Int × Int)))) (List (List (Int × Int)))))) t2 w_doors_here).bind fun f5o => Sum.elim (fun r82 => none) (fun f5 => ((rngO 0 (f5.length : Int)).bind fun t37 => ((lp (fun (s38 : (List Int)) (at_39 : Int) => ((if (decide (at_39 < (s38.length : Int))) = true then ((idx s38 at_39).bind fun t43 => (idx f5 t43).bind fun t44 => ((C_steps letters).bind fun t45 => (lcG (β := Int) (fun (step46 : Int) => ((idx f5 t43).bind fun t48 => if (dGet t48 step46).isSome = true then ((idx f5 t43).bind fun t49 => (dGet t49 step46).bind fun t50 => some (some t50)) else some none)) t45).bind fun t51 => ((lp (fun (s52 : (List Int)) (goal53 : Int) => ((if (!s52.contains goal53) = true then ((appO s52 goal53).bind fun t57 => some t57) else some s52 : Option (List Int)).bind fun s58 => some s58)) t51 s38).bind fun f54 => some f54))) else some s38 : Option (List Int)).bind fun s61 => some s61)) t37 ([home])).bind fun f40 => ((lp (fun (s63 : (List (List Int))) (room64 : Int) => ((idx f5 room64).bind fun t68 => ((rngO 1 (letters + 1)).bind fun t69 => (lcO (β := Int) (fun (at_70 : Int) => ((idx f5 room64).bind fun t72 => (if (dGet t72 at_70).isSome = true then ((idx f5 room64).bind fun t73 => (dGet t73 at_70).bind fun t74 => (ixOf f40 t74).bind fun t75 => some ((t75 : Nat) : Int)) else some (-1)).bind fun t76 => some t76)) t69).bind fun t77 => (appO s63 t77).bind fun t78 => some t78))) f40 ([] : (List (List Int)))).bind fun f65 => some ((letters, f65), f5))))) f5o))
def C_web (w_well_here : (List Int)) (letters : Int) (most : Int) : Option ((Int × (List (List Int))) × (List Int)) :=
  ((C_take w_well_here most).bind fun t1 => ((rngO 0 (1 + t1.1)).bind fun t4 => ((lp (fun (s5 : (List (List (Int × Int)))) (room6 : Int) => ((appO s5 ([] : (List (Int × Int)))).bind fun t11 => some t11)) t4 ([] : (List (List (Int × Int))))).bind fun f7 => ((rngO 1 (letters + 1)).bind fun t14 => ((lp (fun (s15 : ((List (List (Int × Int))) × (List Int))) (letter16 : Int) => ((rgO 0 (1 + t1.1)).bind fun t21 => (C_take s15.2 4).bind fun t23 => ((rngO 0 (1 + t1.1)).bind fun t24 => ((lp (fun (s25 : ((List Int) × (List Int) × (List (List (Int × Int))))) (room26 : Int) => ((C_take s25.1 (s25.2.1.length : Int)).bind fun t31 => (popI s25.2.1 t31.1).bind fun t32 => ((C_take t31.2 4).bind fun t33 => ((if (decide (t23.1 ≤ t33.1)) = true then ((C_laid s25.2.2 room26 letter16 t32.1).bind fun t34 => some t34.2) else some s25.2.2 : Option (List (List (Int × Int)))).bind fun s35 => some (t33.2, t32.2, s35))))) t24 (t23.2, t21, s15.1)).bind fun f27 => some (f27.2.2, f27.1))))) t14 (f7, t1.2)).bind fun f17 => ((C_take f17.2 4).bind fun t40 => (idx ([0, 0, 1, 2]) t40.1).bind fun t41 => (rngO 0 t41).bind fun t42 => ((lp (fun (s43 : (Int × (List Int) × (List (List (Int × Int))))) (turn44 : Int) => ((C_steps letters).bind fun t49 => (lcG (β := Int) (fun (step50 : Int) => ((idx s43.2.2 s43.1).bind fun t52 => if (!(dGet t52 step50).isSome) = true then some (some step50) else some none)) t49).bind fun t53 => ((if (!decide (t53 = ([] : (List Int)))) = true then ((appO s43.2.2 ([] : (List (Int × Int)))).bind fun t54 => ((C_take s43.2.1 (t53.length : Int)).bind fun t56 => (idx t53 t56.1).bind fun t57 => (C_laid t54 s43.1 t57 ((t54.length : Int) - 1)).bind fun t58 => some (((t58.2.length : Int) - 1), t56.2, t58.2))) else some (s43.1, s43.2.1, s43.2.2) : Option (Int × (List Int) × (List (List (Int × Int))))).bind fun s60 => some (s60.1, s60.2.1, s60.2.2)))) t42 (0, t40.2, f17.1)).bind fun f45 => ((C_named letters f45.2.2 f45.1).bind fun t63 => some (t63.1, f45.2.1)))))))))
def C_doors (web_here : (Int × (List (List Int)))) : Option (List (List (Int × Int))) :=
  ((lenO web_here.2).bind fun z2 => (mapO (fun (row1 : (List Int)) => (some ([] : (List (Int × Int))) : Option (List (Int × Int)))) web_here.2).bind fun t4 => ((lp (fun (s6 : (List (List (Int × Int)))) (x7 : (Int × (List Int))) => ((lp (fun (s12 : (List (List (Int × Int)))) (x13 : (Int × Int)) => ((if (decide (0 ≤ x13.2)) = true then ((C_laid s12 x7.1 (x13.1 + 1) x13.2).bind fun t18 => some t18.2) else some s12 : Option (List (List (Int × Int)))).bind fun s19 => some s19)) (enum x7.2) s6).bind fun f14 => some f14)) (enum web_here.2) t4).bind fun f8 => some f8))
def C_firsts (web_here : (Int × (List (List Int)))) : Option (List (Int × (List Int))) :=
  ((C_doors web_here).bind fun t1 => ((rngO 0 (web_here.2.length : Int)).bind fun t4 => ((lp (fun (s5 : ((List Int) × (List (Int × (List Int))))) (at_6 : Int) => ((idx s5.1 at_6).bind fun t10 => (idx t1 t10).bind fun t11 => ((C_steps web_here.1).bind fun t12 => ((lp (fun (s13 : ((List Int) × (List (Int × (List Int))))) (step14 : Int) => ((if (dGet t11 step14).isSome = true then ((dGet t11 step14).bind fun t18 => some (!(dGet s13.2 t18).isSome)) else some false).bind fun t19 => ((if t19 = true then ((idx s13.1 at_6).bind fun t20 => (dGet s13.2 t20).bind fun t21 => (catO (α := Int) t21 ([step14])).bind fun t22 => (dGet t11 step14).bind fun t23 => (dPutO s13.2 t23 t22).bind fun t24 => ((dGet t11 step14).bind fun t25 => (appO s13.1 t25).bind fun t26 => some (t26, t24))) else some (s13.1, s13.2) : Option ((List Int) × (List (Int × (List Int))))).bind fun s27 => some (s27.1, s27.2)))) t12 (s5.1, s5.2)).bind fun f15 => some (f15.1, f15.2))))) t4 ([0], [(0, ([] : (List Int)))])).bind fun f7 => some f7.2)))
def Q_first_ways (letters : Int) (doors : (List (List (Int × Int)))) (home : Int) : Option (List (Int × (List Int))) :=
  ((Q_first_order letters doors home).bind fun t1 => ((lp (fun (s2 : (List (Int × (List Int)))) (room3 : Int) => ((Q_steps_of letters).bind fun t7 => ((lp (fun (s8 : (List (Int × (List Int)))) (step9 : Int) => ((idx doors room3).bind fun t13 => (match (dGet t13 step9) with | none => (some s8) | some goal14 => ((if (true && (!(dGet s8 goal14).isSome)) = true then ((dGet s8 room3).bind fun t15 => (catO (α := Int) t15 ([step9])).bind fun t16 => (dPutO s8 goal14 t16).bind fun t17 => some t17) else some s8 : Option (List (Int × (List Int)))).bind fun s18 => some s18)))) t7 s2).bind fun f10 => some f10))) t1 ([(home, ([] : (List Int)))])).bind fun f4 => some f4))
theorem idx_len {α : Type} {xs ys : List α} (h : xs.length = ys.length) (i : Int) : (idx xs i).isSome = (idx ys i).isSome := by
  show (atI xs i).isSome = (atI ys i).isSome
  unfold atI
  rw [h]
  cases e : ixN ys.length i with
  | none => rfl
  | some j =>
    have hj : j < ys.length := by
      unfold ixN at e
      split at e
      · split at e
        · cases e; omega
        · cases e
      · split at e
        · cases e; omega
        · cases e
    show (xs[j]?).isSome = (ys[j]?).isSome
    rw [List.getElem?_eq_getElem hj, List.getElem?_eq_getElem (by omega)]
    rfl
theorem laid_run (D : Dd) (a s b : Int) : C_laid D a s b = ((idx D a).bind fun t4 => (dPutO t4 s b).bind fun t5 => (idx (setI D a t5) b).bind fun t6 => (dPutO t6 (0 - s) a).bind fun t7 => some ((), setI (setI D a t5) b t7)) := by
  unfold C_laid
  cases ea : idx D a with
  | none => rfl
  | some x =>
    cases eb : idx D b with
    | some y => rfl
    | none =>
      show none = ((dPutO x s b).bind _)
      cases ep : dPutO x s b with
      | none => rfl
      | some d =>
        have := idx_len (setI_len D a d) b
        rw [eb] at this
        show none = ((idx (setI D a d) b).bind _)
        cases ei : idx (setI D a d) b with
        | none => rfl
        | some y => rw [ei] at this; cases this
theorem laid_ok {D : Dd} {a s b : Int} (a0 : 0 ≤ a) (a1 : a < D.length) (b0 : 0 ≤ b) (b1 : b < D.length) (ha : (row D a).length ≤ 1000) (hb : (row D b).length ≤ 1000) : C_laid D a s b = some ((), putD D a s b) := by
  rw [laid_run]
  have hr : (row (setI D a (dPut (row D a) s b)) b).length ≤ 1001 := by
    rw [row_set a0 a1 b0]
    split
    · have := dput_len (row D a) s b
      omega
    · omega
  refine bindS (idx_row a0 a1) (bindS (putO_ok (by rw [sizeL]; omega)) (bindS (idx_row b0 (by rw [setI_len]; exact b1)) (bindS (putO_ok (by rw [sizeL]; omega)) ?_)))
  unfold putD
  rw [show (0 : Int) - s = -s by omega]
theorem doorsC_eq (L : Int) (rows : List (List Int)) : C_doors (L, rows) = Q_doors_of rows := by
  have key : ∀ (r : Int) , (fun (s12 : (List (List (Int × Int)))) (x13 : (Int × Int)) => ((if (decide (0 ≤ x13.2)) = true then ((C_laid s12 r (x13.1 + 1) x13.2).bind fun t18 => some t18.2) else some s12 : Option (List (List (Int × Int)))).bind fun s19 => some s19)) = (fun (s11 : (List (List (Int × Int)))) (x12 : (Int × Int)) => ((if (decide (0 ≤ x12.2)) = true then ((idx s11 r).bind fun t16 => (dPutO t16 (x12.1 + 1) x12.2).bind fun t17 => ((idx (setI s11 r t17) x12.2).bind fun t18 => (dPutO t18 ((-x12.1) - 1) r).bind fun t19 => some (setI (setI s11 r t17) x12.2 t19))) else some s11 : Option (List (List (Int × Int)))).bind fun s20 => some s20)) := fun r => by
    funext s x
    by_cases c : 0 ≤ x.2
    · rw [if_pos (decide_eq_true c), if_pos (decide_eq_true c), laid_run, show (0 : Int) - (x.1 + 1) = -x.1 - 1 by omega]
      cases idx s r with
      | none => rfl
      | some d =>
        show (((dPutO d (x.1 + 1) x.2).bind _).bind _).bind _ = ((dPutO d (x.1 + 1) x.2).bind _).bind _
        cases dPutO d (x.1 + 1) x.2 with
        | none => rfl
        | some e =>
          show (((idx (setI s r e) x.2).bind _).bind _).bind _ = ((idx (setI s r e) x.2).bind _).bind _
          cases idx (setI s r e) x.2 with
          | none => rfl
          | some y =>
            show (((dPutO y (-x.1 - 1) r).bind _).bind _).bind _ = ((dPutO y (-x.1 - 1) r).bind _).bind _
            cases dPutO y (-x.1 - 1) r <;> rfl
    · rw [if_neg (by simpa using c), if_neg (by simpa using c)]
  unfold C_doors Q_doors_of
  simp only [key]
end Z
namespace Z
open PySem PySem.Spec L2
theorem setI_row {D : Dd} {a : Int} (a0 : 0 ≤ a) (a1 : a < D.length) : setI D a (row D a) = D := by
  rw [setI_nn a0 a1]
  have hl : a.toNat < D.length := by omega
  refine List.ext_getElem? fun i => ?_
  rw [List.getElem?_set]
  split
  · rename_i h
    subst h
    unfold row
    rw [List.getD_eq_getElem?_getD, List.getElem?_eq_getElem hl]
    rfl
  · rfl
theorem dDel_len {κ β : Type} [DecidableEq κ] (d : List (κ × β)) (k : κ) : (dDel d k).length ≤ d.length := by
  unfold dDel
  exact List.length_filter_le _ _
theorem row_del_len {D : Dd} {a b s x : Int} (a0 : 0 ≤ a) (a1 : a < D.length) (b0 : 0 ≤ b) (b1 : b < D.length) (hx : 0 ≤ x) : (row (delD D a s b) x).length ≤ (row D x).length := by
  unfold delD
  rw [row_set b0 (by rw [setI_len]; exact b1) hx]
  by_cases hb : b = x
  · rw [if_pos hb]
    refine Nat.le_trans (dDel_len _ _) ?_
    rw [row_set a0 a1 b0]
    by_cases ha : a = b
    · rw [if_pos ha, ← hb, ha]
      exact dDel_len _ _
    · rw [if_neg ha, hb]
      exact Nat.le_refl _
  · rw [if_neg hb, row_set a0 a1 hx]
    by_cases ha : a = x
    · rw [if_pos ha, ha]
      exact dDel_len _ _
    · rw [if_neg ha]
      exact Nat.le_refl _
def emptyF (room15 : Int) (s14 : Dd) : Option Dd := ((idx s14 room15).bind fun t19 => ((idx s14 room15).bind fun t20 => ((lp (fun (s21 : (List (List (Int × Int)))) (step22 : Int) => ((idx s21 room15).bind fun t26 => (dGet t26 step22).bind fun t27 => (idx s21 t27).bind fun t28 => ((idx s21 t27).bind fun t29 => (dPopO t29 (0 - step22)).bind fun t30 => some (setI s21 t27 t30.2)))) (List.map Prod.fst t20) s14).bind fun f23 => ((idx f23 room15).bind fun t32 => some (setI f23 room15 ([] : (List (Int × Int))))))))
theorem empty_ok {L : Int} {n : Nat} {D : Dd} (h : Dr L n D) {a : Int} (a0 : 0 ≤ a) (a1 : a < n) (hl : (row D a).length ≤ 1) : ∃ D', emptyF a D = some D' ∧ Dr L n D' ∧ row D' a = [] ∧ ∀ x, 0 ≤ x → (row D' x).length ≤ (row D x).length := by
  have a1' : a < D.length := by rw [h.len]; exact a1
  have ei := idx_row a0 a1'
  unfold emptyF
  cases hr : row D a with
  | nil =>
    rw [hr] at ei
    refine ⟨D, bindS ei (bindS ei (bindS (a := D) rfl (bindS ei ?_))), h, hr, fun x _ => Nat.le_refl _⟩
    rw [← hr, setI_row a0 a1']
  | cons p d =>
    rw [hr] at hl
    have hd : d = [] := List.eq_nil_of_length_eq_zero (by rw [List.length_cons] at hl; omega)
    subst hd
    obtain ⟨k, b⟩ := p
    obtain ⟨_, g1, g2⟩ := pop_run h a0 a1 hr
    obtain ⟨b0, b1, hs, g3⟩ := h.ok a k b a0 g1
    have b1' : b < D.length := by rw [h.len]; exact b1
    have hab : a ≠ b := fun e => by
      subst e
      have := g2 (-k) (by have := hs.1; omega)
      rw [this] at g3
      cases g3
    have e0 : dDel ([(k, b)] : List (Int × Int)) k = [] := by simp [dDel]
    have eD : setI (setI D b (dDel (row D b) (-k))) a [] = delD D a k b := by
      unfold delD
      rw [row_set a0 a1' b0, if_neg hab, hr, e0, setI_nn a0 (by rw [setI_len]; exact a1'), setI_nn b0 b1', setI_nn b0 (by rw [setI_len]; exact b1'), setI_nn a0 a1', List.set_comm]
      omega
    have eb := idx_row b0 b1'
    have ep : dPopO (row D b) (0 - k) = some (a, dDel (row D b) (-k)) := by
      unfold dPopO
      rw [show (0 : Int) - k = -k by omega, show dGet (row D b) (-k) = some a from g3]
      rfl
    have gd := fun {x : Int} (hx : 0 ≤ x) (t : Int) => go_del a0 a1' b0 b1' hs.1 (x := x) hx t
    refine ⟨delD D a k b, ?_, h.del a0 g1, row_nil fun t => ?_, fun x hx => row_del_len a0 a1' b0 b1' hx⟩
    · have ei2 := ei
      rw [hr] at ei2
      refine bindS ei2 (bindS ei2 (bindS (a := setI D b (dDel (row D b) (-k))) ?_ (bindS (idx_row a0 (by rw [setI_len]; exact a1')) (congrArg some eD))))
      show ((((idx D a).bind fun t26 => (dGet t26 k).bind fun t27 => (idx D t27).bind fun t28 => ((idx D t27).bind fun t29 => (dPopO t29 (0 - k)).bind fun t30 => some (setI D t27 t30.2)))).bind fun s => some s) = _
      exact bindS (bindS ei (bindS g1 (bindS eb (bindS eb (bindS ep rfl))))) rfl
    · rw [gd a0]
      by_cases e : t = k
      · rw [if_pos (.inr ⟨rfl, e⟩)]
      · split
        · rfl
        · exact g2 t e
theorem empties_ok {L : Int} {n : Nat} : ∀ (t : List Int) (D : Dd), Dr L n D → (∀ a ∈ t, 0 ≤ a ∧ a < n ∧ (row D a).length ≤ 1) → ∃ D', lp (fun (s14 : Dd) (room15 : Int) => emptyF room15 s14) t D = some D' ∧ Dr L n D' ∧ (∀ a ∈ t, row D' a = []) ∧ ∀ x, 0 ≤ x → (row D' x).length ≤ (row D x).length
  | [], D, h, _ => ⟨D, rfl, h, (fun _ z => nomatch z), fun x _ => Nat.le_refl _⟩
  | a :: t, D, h, ht => by
    obtain ⟨a0, a1, al⟩ := ht a List.mem_cons_self
    obtain ⟨D1, e1, d1, r1, m1⟩ := empty_ok h a0 a1 al
    obtain ⟨D2, e2, d2, r2, m2⟩ := empties_ok t D1 d1 fun b hb => by
      obtain ⟨b0, b1, bl⟩ := ht b (List.mem_cons_of_mem _ hb)
      exact ⟨b0, b1, Nat.le_trans (m1 b b0) bl⟩
    refine ⟨D2, bindS e1 e2, d2, fun b hb => ?_, fun x hx => Nat.le_trans (m2 x hx) (m1 x hx)⟩
    rcases List.mem_cons.mp hb with rfl | hb
    · have := m2 b a0
      rw [r1] at this
      exact List.eq_nil_of_length_eq_zero (Nat.le_zero.mp this)
    · exact r2 b hb
def cutF (home : Int) (s3 : Dd) (_turn : Int) : Option (Step ((Int × (List (List Int))) × Dd) Dd) :=
  (((rngO 0 (s3.length : Int)).bind fun t8 => (lcG (β := Int) (fun (room9 : Int) => ((if (!decide (room9 = home)) = true then ((idx s3 room9).bind fun t11 => some (decide ((t11.length : Int) = 1))) else some false).bind fun t12 => if t12 = true then some (some room9) else some none)) t8).bind fun t13 => (if (decide (t13 = ([] : (List Int)))) = true then some (Step.brk s3) else ((lp (fun (s14 : Dd) (room15 : Int) => emptyF room15 s14) t13 s3).bind fun f16 => some (Step.go f16)))))
theorem cut_ok {L : Int} {n : Nat} (hn : n ≤ 100000) {home : Int} : ∀ (xs : List Int) (D : Dd) (S : List Int), Dr L n D → S.length ≤ xs.length → (∀ a : Int, 0 ≤ a → a < n → row D a ≠ [] → a ∈ S) → ∃ D', lpR (cutF home) xs D = some (.inr D') ∧ Dr L n D' ∧ ∀ a : Int, 0 ≤ a → a < n → a ≠ home → (row D' a).length ≠ 1
  | [], D, S, h, hS, hm => by
    refine ⟨D, rfl, h, fun a a0 a1 _ e => ?_⟩
    have hne : row D a ≠ [] := fun z => by rw [z] at e; cases e
    have := hm a a0 a1 hne
    have hz : S = [] := List.eq_nil_of_length_eq_zero (Nat.le_zero.mp hS)
    rw [hz] at this
    exact nomatch this
  | x :: xs, D, S, h, hS, hm => by
    have hlr : (range' 0 (n : Int)).length = n := by rw [rng_len]; omega
    have e1 : lcG (β := Int) (fun (room9 : Int) => ((if (!decide (room9 = home)) = true then ((idx D room9).bind fun t11 => some (decide ((t11.length : Int) = 1))) else some false).bind fun t12 => if t12 = true then some (some room9) else some none)) (range' 0 (n : Int)) = some ((range' 0 (n : Int)).filterMap fun a => if a ≠ home ∧ (row D a).length = 1 then some a else none) := by
      refine lcG_some (fun a => if a ≠ home ∧ (row D a).length = 1 then some a else none) (by rw [hlr, sizeL]; omega) fun a ha => ?_
      have ha := mem_rng ha
      by_cases c : a = home
      · rw [if_neg (by simp [c]), if_neg (fun z => z.1 c)]
        rfl
      · rw [if_pos (by simp [c])]
        refine bindS (bindS (idx_row ha.1 (by rw [h.len]; exact ha.2)) rfl) ?_
        by_cases c2 : (row D a).length = 1
        · rw [if_pos (decide_eq_true (by omega)), if_pos ⟨c, c2⟩]
        · rw [if_neg (by rw [decide_eq_true_eq]; omega), if_neg (fun z => c2 z.2)]
    have hl : (D.length : Int) = (n : Int) := by rw [h.len]
    generalize ht : ((range' 0 (n : Int)).filterMap fun a => if a ≠ home ∧ (row D a).length = 1 then some a else none) = t at e1
    have mem : ∀ a, a ∈ t ↔ (0 ≤ a ∧ a < n) ∧ a ≠ home ∧ (row D a).length = 1 := fun a => by
      rw [← ht, List.mem_filterMap]
      constructor
      · rintro ⟨b, hb, e⟩
        split at e
        · cases e
          rename_i z
          exact ⟨mem_rng hb, z⟩
        · cases e
      · rintro ⟨z1, z2⟩
        exact ⟨a, mem_rng'.mpr z1, if_pos z2⟩
    by_cases c : t = []
    · refine ⟨D, ?_, h, fun a a0 a1 ah e => ?_⟩
      · have : cutF home D x = some (Step.brk D) := by
          unfold cutF
          rw [hl]
          exact bindS (rngO_ok (by omega)) (bindS e1 (if_pos (decide_eq_true c)))
        rw [lpR, this]
        rfl
      · have := (mem a).mpr ⟨⟨a0, a1⟩, ah, e⟩
        rw [c] at this
        exact nomatch this
    · obtain ⟨D1, e2, d1, r1, m1⟩ := empties_ok t D h fun a ha => by
        obtain ⟨z1, z2, z3⟩ := (mem a).mp ha
        exact ⟨z1.1, z1.2, by omega⟩
      obtain ⟨a, hat⟩ : ∃ a, a ∈ t := List.exists_mem_of_ne_nil t c
      obtain ⟨z1, z2, z3⟩ := (mem a).mp hat
      have has : a ∈ S := hm a z1.1 z1.2 fun z => by rw [z] at z3; cases z3
      have hp := List.length_pos_of_mem has
      obtain ⟨D', e3, d3, q3⟩ := cut_ok hn (home := home) xs D1 (S.erase a) d1 (by rw [List.length_erase_of_mem has]; rw [List.length_cons] at hS; omega) fun b b0 b1 hne => by
        have hba : b ≠ a := fun e => hne (by rw [e]; exact r1 a hat)
        refine (List.mem_erase_of_ne hba).mpr (hm b b0 b1 fun z => hne ?_)
        have := m1 b b0
        rw [z] at this
        exact List.eq_nil_of_length_eq_zero (Nat.le_zero.mp this)
      refine ⟨D', ?_, d3, q3⟩
      refine lpR_go1 (s' := D1) ?_ e3
      unfold cutF
      rw [hl]
      exact bindS (rngO_ok (by omega)) (bindS e1 ((if_neg (by simpa using c)).trans (bindS e2 rfl)))
end Z
namespace Z
open PySem PySem.Spec L2
theorem ordC_clos {L : Int} {n : Nat} {D : Dd} (h : Dr L n D) {c : Int} (c0 : 0 ≤ c) (c1 : c < n) (n1 : 1 ≤ n) {a : Int} (ha : a ∈ ordC (nbr L D) c n) {l g : Int} (hg : go D a l = some g) : g ∈ ordC (nbr L D) c n := by
  have hd := turn_dr h c0 c1
  rw [ordC_map h c0 c1 n1] at ha ⊢
  obtain ⟨y, hy, rfl⟩ := List.mem_map.mp ha
  obtain ⟨y0, y1⟩ := (ord_in n1 hd.nbr n).1 y hy
  have hgo : go (turnD n c D) y l = some (sw c g) := by rw [turn_go h c0 c1 y0 y1, hg]; rfl
  obtain ⟨i, hi⟩ := List.mem_iff_getElem?.mp hy
  have := (ord_at n1 hd.nbr hi).2.2 (sw c g) (List.mem_filterMap.mpr ⟨l, mem_stL.mpr (hd.ok y l _ y0 hgo).2.2.1, hgo⟩)
  exact List.mem_map.mpr ⟨sw c g, this, sw_sw c g⟩
theorem visC {gs : List Int} : ∀ {o : List Int}, o.length + gs.length ≤ 10000 → lp (fun (s52 : (List Int)) (goal53 : Int) => ((if (!s52.contains goal53) = true then ((appO s52 goal53).bind fun t57 => some t57) else some s52 : Option (List Int)).bind fun s58 => some s58)) gs o = some (visA o gs) := by
  induction gs with
  | nil => intro o _; rfl
  | cons g gs ih =>
    intro o hl
    rw [List.length_cons] at hl
    unfold lp
    rw [visA_cons]
    by_cases hm : g ∈ o
    · have hv : vis o g = o := if_pos hm
      rw [hv]
      exact bindS (a := o) (bindS (a := o) (if_neg (by simp [hm])) rfl) (ih (by omega))
    · have hv : vis o g = o ++ [g] := if_neg hm
      rw [hv]
      exact bindS (a := o ++ [g]) (bindS (a := o ++ [g]) ((if_pos (by simp [hm])).trans (bindS (app_ok (by rw [sizeL]; omega)) rfl)) rfl) (ih (by rw [List.length_append]; show o.length + 1 + _ ≤ _; omega))
theorem goalsC {L : Int} {n : Nat} {D : Dd} (h : Dr L n D) (h1 : 1 ≤ L) (h4 : L ≤ 4) {a : Int} (a0 : 0 ≤ a) (a1 : a < n) : lcG (β := Int) (fun (step46 : Int) => ((idx D a).bind fun t48 => if (dGet t48 step46).isSome = true then ((idx D a).bind fun t49 => (dGet t49 step46).bind fun t50 => some (some t50)) else some none)) (stL L) = some (nbr L D a) := by
  have ei := idx_row a0 (by rw [h.len]; exact a1)
  have l8 := stL_len h1 h4
  refine lcG_some (go D a) (by rw [sizeL]; omega) fun t _ => ?_
  refine bindS ei ?_
  cases e : go D a t with
  | none =>
    have e' : dGet (row D a) t = none := e
    rw [e']
    rfl
  | some g =>
    have e' : dGet (row D a) t = some g := e
    refine (if_pos (by rw [e']; rfl)).trans (bindS ei (bindS e' rfl))
theorem rowC {L : Int} {n : Nat} {D : Dd} {O : List Int} (h : Dr L n D) (h1 : 1 ≤ L) (h4 : L ≤ 4) {a : Int} (a0 : 0 ≤ a) (a1 : a < n) (hc : ∀ l g, go D a l = some g → g ∈ O) : lcO (β := Int) (fun (at_70 : Int) => ((idx D a).bind fun t72 => (if (dGet t72 at_70).isSome = true then ((idx D a).bind fun t73 => (dGet t73 at_70).bind fun t74 => (ixOf O t74).bind fun t75 => some ((t75 : Nat) : Int)) else some (-1)).bind fun t76 => some t76)) (range' 1 (L + 1)) = some ((range' 1 (L + 1)).map (cellF D O a)) := by
  have ei := idx_row a0 (by rw [h.len]; exact a1)
  refine lcO_some (cellF D O a) (by rw [rng_len, sizeL]; omega) fun l _ => ?_
  refine bindS ei ?_
  unfold cellF
  cases e : go D a l with
  | none =>
    have e' : dGet (row D a) l = none := e
    rw [e']
    rfl
  | some g =>
    have e' : dGet (row D a) l = some g := e
    obtain ⟨k, hk⟩ := ixOf_some (hc l g e)
    refine bindS ((if_pos (by rw [e']; rfl)).trans (bindS ei (bindS e' (bindS hk rfl)))) ?_
    show some (k : Int) = some (((ixOf O g).getD 0 : Nat) : Int)
    rw [hk]
    rfl
def namedT (letters c : Int) (f5 : Dd) : Option ((Int × (List (List Int))) × Dd) :=
  ((rngO 0 (f5.length : Int)).bind fun t37 => ((lp (fun (s38 : (List Int)) (at_39 : Int) => ((if (decide (at_39 < (s38.length : Int))) = true then ((idx s38 at_39).bind fun t43 => (idx f5 t43).bind fun t44 => ((C_steps letters).bind fun t45 => (lcG (β := Int) (fun (step46 : Int) => ((idx f5 t43).bind fun t48 => if (dGet t48 step46).isSome = true then ((idx f5 t43).bind fun t49 => (dGet t49 step46).bind fun t50 => some (some t50)) else some none)) t45).bind fun t51 => ((lp (fun (s52 : (List Int)) (goal53 : Int) => ((if (!s52.contains goal53) = true then ((appO s52 goal53).bind fun t57 => some t57) else some s52 : Option (List Int)).bind fun s58 => some s58)) t51 s38).bind fun f54 => some f54))) else some s38 : Option (List Int)).bind fun s61 => some s61)) t37 ([c])).bind fun f40 => ((lp (fun (s63 : (List (List Int))) (room64 : Int) => ((idx f5 room64).bind fun t68 => ((rngO 1 (letters + 1)).bind fun t69 => (lcO (β := Int) (fun (at_70 : Int) => ((idx f5 room64).bind fun t72 => (if (dGet t72 at_70).isSome = true then ((idx f5 room64).bind fun t73 => (dGet t73 at_70).bind fun t74 => (ixOf f40 t74).bind fun t75 => some ((t75 : Nat) : Int)) else some (-1)).bind fun t76 => some t76)) t69).bind fun t77 => (appO s63 t77).bind fun t78 => some t78))) f40 ([] : (List (List Int)))).bind fun f65 => some ((letters, f65), f5))))
theorem C_named_eq (L : Int) (D : Dd) (c : Int) : C_named L D c = ((rngO 0 (D.length : Int)).bind fun t2 => (lpR (cutF c) t2 D).bind fun o => Sum.elim (fun _ => none) (namedT L c) o) := rfl
theorem stepsC_run {L : Int} (h1 : 1 ≤ L) (h4 : L ≤ 4) : C_steps L = some (stL L) := four (P := fun L => C_steps L = some (stL L)) h1 h4 (by decide) (by decide) (by decide) (by decide)
theorem namedT_ok {L : Int} {n : Nat} {D1 : Dd} (d1 : Dr L n D1) (h1 : 1 ≤ L) (h4 : L ≤ 4) (n1 : 1 ≤ n) (n9 : n ≤ 900) {c : Int} (c0 : 0 ≤ c) (c1 : c < n) (t1 : ∀ a : Int, 0 ≤ a → a < n → a ≠ c → (row D1 a).length ≠ 1) : ∃ r, namedT L c D1 = some r ∧ (r.1.1 = L ∧ r.1.2.length ≤ n ∧ ∃ E, Web L r.1.2 E) := by
  unfold namedT
  have hl1 : (D1.length : Int) = (n : Int) := by rw [d1.len]
  rw [hl1]
  obtain ⟨f1, f2⟩ := ordC_facts d1 c0 c1 n1
  have hlr : (range' 0 (n : Int)).length = n := by rw [rng_len]; omega
  have l8 := stL_len h1 h4
  refine bndX (rngO_ok (by omega)) (lpX (fun i s => s = ordC (nbr L D1) c i) rfl (fun i x s hx hs => ?_) (fun s hs => ?_))
  · obtain ⟨ex, hi⟩ := rng_at hx
    have ex : x = (i : Int) := by omega
    subst ex hs
    refine ⟨_, ?_, rfl⟩
    by_cases hc : i < (ordC (nbr L D1) c i).length
    · obtain ⟨a, ha⟩ : ∃ a, (ordC (nbr L D1) c i)[i]? = some a := ⟨_, List.getElem?_eq_getElem hc⟩
      obtain ⟨a0, a1⟩ := (f1 i).1 a (List.mem_of_getElem? ha)
      have ei : idx (ordC (nbr L D1) c i) (i : Int) = some a := idx_of (by omega) (by rw [Int.toNat_natCast]; exact ha)
      have er := idx_row a0 (by rw [d1.len]; exact a1)
      have nl : (nbr L D1 a).length ≤ 8 := Nat.le_trans (List.length_filterMap_le _ _) l8
      have ho : ordC (nbr L D1) c (i + 1) = visA (ordC (nbr L D1) c i) (nbr L D1 a) := by
        show (match (ordC (nbr L D1) c i)[i]? with | some a => visA (ordC (nbr L D1) c i) (nbr L D1 a) | none => ordC (nbr L D1) c i) = _
        rw [ha]
      rw [ho]
      have := (f1 i).2
      exact bindS ((if_pos (decide_eq_true (by omega))).trans (bindS ei (bindS er (bindS (stepsC_run h1 h4) (bindS (goalsC d1 h1 h4 a0 a1) (bindS (visC (by omega)) rfl)))))) rfl
    · have ho : ordC (nbr L D1) c (i + 1) = ordC (nbr L D1) c i := by
        show (match (ordC (nbr L D1) c i)[i]? with | some a => visA (ordC (nbr L D1) c i) (nbr L D1 a) | none => ordC (nbr L D1) c i) = _
        rw [List.getElem?_eq_none_iff.mpr (by omega)]
      rw [ho]
      exact bindS (if_neg (by rw [decide_eq_true_eq]; omega)) rfl
  · rw [hlr] at hs
    subst hs
    have fn := f1 n
    have clos := fun a ha l g (hg : go D1 a l = some g) => ordC_clos d1 c0 c1 n1 (a := a) ha hg
    obtain ⟨E, W⟩ := web_at d1 c0 c1 h1 h4 n1 n9 t1
    have e3 : lp (fun (s63 : (List (List Int))) (room64 : Int) => ((idx D1 room64).bind fun t68 => ((rngO 1 (L + 1)).bind fun t69 => (lcO (β := Int) (fun (at_70 : Int) => ((idx D1 room64).bind fun t72 => (if (dGet t72 at_70).isSome = true then ((idx D1 room64).bind fun t73 => (dGet t73 at_70).bind fun t74 => (ixOf (ordC (nbr L D1) c n) t74).bind fun t75 => some ((t75 : Nat) : Int)) else some (-1)).bind fun t76 => some t76)) t69).bind fun t77 => (appO s63 t77).bind fun t78 => some t78))) (ordC (nbr L D1) c n) ([] : (List (List Int))) = some ((ordC (nbr L D1) c n).map fun a => (range' 1 (L + 1)).map (cellF D1 (ordC (nbr L D1) c n) a)) := by
      have key : ∀ (t : List Int) (s : List (List Int)), (∀ a ∈ t, a ∈ ordC (nbr L D1) c n) → s.length + t.length ≤ 10000 → lp (fun (s63 : (List (List Int))) (room64 : Int) => ((idx D1 room64).bind fun t68 => ((rngO 1 (L + 1)).bind fun t69 => (lcO (β := Int) (fun (at_70 : Int) => ((idx D1 room64).bind fun t72 => (if (dGet t72 at_70).isSome = true then ((idx D1 room64).bind fun t73 => (dGet t73 at_70).bind fun t74 => (ixOf (ordC (nbr L D1) c n) t74).bind fun t75 => some ((t75 : Nat) : Int)) else some (-1)).bind fun t76 => some t76)) t69).bind fun t77 => (appO s63 t77).bind fun t78 => some t78))) t s = some (s ++ t.map fun a => (range' 1 (L + 1)).map (cellF D1 (ordC (nbr L D1) c n) a)) := by
        intro t
        induction t with
        | nil => intro s _ _; rw [List.map_nil, List.append_nil]; rfl
        | cons a t ih =>
          intro s ht hs
          rw [List.length_cons] at hs
          obtain ⟨a0, a1⟩ := fn.1 a (ht a List.mem_cons_self)
          unfold lp
          refine bindS (bindS (idx_row a0 (by rw [d1.len]; exact a1)) (bindS (rngO_ok (by omega)) (bindS (rowC d1 h1 h4 a0 a1 (clos a (ht a List.mem_cons_self))) (bindS (app_ok (by rw [sizeL]; omega)) rfl)))) ?_
          rw [ih _ (fun b hb => ht b (List.mem_cons_of_mem _ hb)) (by rw [List.length_append]; show s.length + 1 + _ ≤ _; omega), List.map_cons, List.append_assoc]
          rfl
      exact key _ [] (fun _ ha => ha) (by have := fn.2; show 0 + _ ≤ _; omega)
    exact bndX e3 ⟨_, rfl, rfl, by show (List.map _ _).length ≤ n; rw [List.length_map]; exact fn.2, E, W⟩
theorem namedC_ok {L : Int} {n : Nat} {D : Dd} (h : Dr L n D) (h1 : 1 ≤ L) (h4 : L ≤ 4) (n1 : 1 ≤ n) (n9 : n ≤ 900) {c : Int} (c0 : 0 ≤ c) (c1 : c < n) : ∃ r, C_named L D c = some r ∧ (r.1.1 = L ∧ r.1.2.length ≤ n ∧ ∃ E, Web L r.1.2 E) := by
  obtain ⟨D1, e1, d1, t1⟩ := cut_ok (home := c) (n := n) (by omega) (range' 0 (n : Int)) D (range' 0 (n : Int)) h (Nat.le_refl _) fun a a0 a1 _ => mem_rng'.mpr ⟨a0, a1⟩
  have hl : (D.length : Int) = (n : Int) := by rw [h.len]
  obtain ⟨r, e, q⟩ := namedT_ok d1 h1 h4 n1 n9 c0 c1 t1
  refine ⟨r, ?_, q⟩
  rw [C_named_eq, hl]
  have r1 : rngO 0 (n : Int) = some (range' 0 (n : Int)) := rngO_ok (by omega)
  rw [r1, Option.bind_some, e1, Option.bind_some, Sum.elim_inr]
  exact e
end Z
namespace Z
open PySem PySem.Spec L2
theorem tkC {k : Nat} (hk : k < 2 ^ 50) {w : List Int} (h : WeC k w) {many : Int} (h0 : 0 < many) (hb : many < 2 ^ 60) : ∃ v w', C_take w many = some (v, w') ∧ 0 ≤ v ∧ v < many ∧ WeC (k + 1) w' := takeC_ok (by omega) h h0 (by omega)
theorem Dr.app {L : Int} {n : Nat} {D : Dd} (h : Dr L n D) : Dr L (n + 1) (D ++ [[]]) ∧ (∀ a t, 0 ≤ a → go (D ++ [[]]) a t = go D a t) := by
  have hg : ∀ a t, 0 ≤ a → go (D ++ [[]]) a t = go D a t := fun a t a0 => by
    unfold go row
    rw [List.getD_eq_getElem?_getD, List.getD_eq_getElem?_getD]
    by_cases hl : a.toNat < D.length
    · rw [List.getElem?_append_left hl]
    · rw [List.getElem?_append_right (by omega), List.getElem?_eq_none_iff.mpr (show D.length ≤ a.toNat by omega)]
      cases e : a.toNat - D.length with
      | zero => rfl
      | succ k => rfl
  refine ⟨⟨by rw [List.length_append, h.len]; rfl, fun d hd => ?_, fun a s b a0 e => ?_⟩, hg⟩
  · rcases List.mem_append.mp hd with hd | hd
    · exact h.nd d hd
    · rw [List.mem_singleton.mp hd]
      exact List.nodup_nil
  · rw [hg a s a0] at e
    obtain ⟨b0, b1, hs, hb⟩ := h.ok a s b a0 e
    exact ⟨b0, by omega, hs, by rw [hg b _ b0]; exact hb⟩
theorem replC (n : Int) : ∀ (xs : List Int) (s : Dd), s.length + xs.length ≤ 10000 → lp (fun (s5 : (List (List (Int × Int)))) (room6 : Int) => ((appO s5 ([] : (List (Int × Int)))).bind fun t11 => some t11)) xs s = some (s ++ List.replicate xs.length [])
  | [], s, _ => by rw [List.length_nil, List.replicate_zero, List.append_nil]; rfl
  | x :: xs, s, h => by
    rw [List.length_cons] at h
    unfold lp
    refine bindS (bindS (app_ok (by rw [sizeL]; omega)) rfl) ?_
    rw [replC n xs _ (by rw [List.length_append]; show s.length + 1 + _ ≤ _; omega), List.append_assoc, List.length_cons, List.replicate_succ]
    rfl
theorem go_repl (m : Nat) (a t : Int) : go (List.replicate m []) a t = none := by
  have hr : row (List.replicate m []) a = [] := by
    unfold row
    rw [List.getD_eq_getElem?_getD, List.getElem?_replicate]
    split <;> rfl
  unfold go
  rw [hr]
  rfl
def tabF (count : Int) (s15 : Dd × List Int) (letter16 : Int) : Option (Dd × List Int) :=
  ((rgO 0 count).bind fun t21 => (C_take s15.2 4).bind fun t23 => ((rngO 0 count).bind fun t24 => ((lp (fun (s25 : ((List Int) × (List Int) × (List (List (Int × Int))))) (room26 : Int) => ((C_take s25.1 (s25.2.1.length : Int)).bind fun t31 => (popI s25.2.1 t31.1).bind fun t32 => ((C_take t31.2 4).bind fun t33 => ((if (decide (t23.1 ≤ t33.1)) = true then ((C_laid s25.2.2 room26 letter16 t32.1).bind fun t34 => some t34.2) else some s25.2.2 : Option (List (List (Int × Int)))).bind fun s35 => some (t33.2, t32.2, s35))))) t24 (t23.2, t21, s15.1)).bind fun f27 => some (f27.2.2, f27.1))))
theorem tabC_ok {n : Nat} (hn : n < 2 ^ 40) {L count : Int} {w : List Int} (h : WeC n w) (h1 : 1 ≤ L) (h4 : L ≤ 4) (c0 : 0 ≤ count) (c1 : count ≤ 60) : ∃ r, lp (tabF count) (range' 1 (L + 1)) (List.replicate count.toNat [], w) = some r ∧ (Dr L count.toNat r.1 ∧ WeC (n + 1000) r.2) := by
  have hlc : (range' 0 count).length = count.toNat := by rw [rng_len, Int.sub_zero]
  have hll : (range' 1 (L + 1)).length = L.toNat := by rw [rng_len]; omega
  obtain ⟨s, e, hs⟩ := lp_goN (f := tabF count) (xs := range' 1 (L + 1)) (fun i s => Dr L count.toNat s.1 ∧ (∀ a t b, 0 ≤ a → go s.1 a t = some b → t.natAbs ≤ i) ∧ WeC (n + 200 * i) s.2) (fun i x s hx hs => by
    obtain ⟨D, pot⟩ := s
    obtain ⟨g1, g2, g3⟩ := hs
    have g1 : Dr L count.toNat D := g1
    have g2 : ∀ a t b, 0 ≤ a → go D a t = some b → t.natAbs ≤ i := g2
    have g3 : WeC (n + 200 * i) pot := g3
    obtain ⟨rfl, hi⟩ := rngAt hx
    have hi4 : i < 4 := by omega
    obtain ⟨few, p0, e0, few0, few1, kw⟩ := tkC (by omega) g3 (many := 4) (by decide) (by decide)
    unfold tabF
    refine bndX (if_pos ⟨by omega, by omega, by omega, by omega, by omega⟩) (bndX e0 (bndX (rngO_ok (by omega)) ?_))
    refine lpX (fun r s => Dr L count.toNat s.2.2 ∧ (∀ a t b, 0 ≤ a → go s.2.2 a t = some b → t.natAbs ≤ i + 1) ∧ (∀ a b, 0 ≤ a → go s.2.2 a (1 + i) = some b → a < r ∧ b ∉ s.2.1) ∧ s.2.1.Nodup ∧ (∀ x ∈ s.2.1, 0 ≤ x ∧ x < count) ∧ s.2.1.length + r = count.toNat ∧ WeC (n + 200 * i + 1 + 2 * r) s.1)
      ⟨g1, fun a t b ha hg => Nat.le_succ_of_le (g2 a t b ha hg), fun a b ha hg => ?_, rng_nd _ _, fun x hx => mem_rng hx, hlc, kw⟩ (fun r x s hx hs => ?_) (fun s hs => ⟨_, rfl, hs.1, hs.2.1, ?_⟩)
    · have := g2 a _ b ha hg
      omega
    · obtain ⟨q, left, E⟩ := s
      obtain ⟨k1, k2, k3, k4, k5, k6, k7⟩ := hs
      have k1 : Dr L count.toNat E := k1
      have k2 : ∀ a t b, 0 ≤ a → go E a t = some b → t.natAbs ≤ i + 1 := k2
      have k3 : ∀ a b, 0 ≤ a → go E a (1 + i) = some b → a < r ∧ b ∉ left := k3
      have k4 : left.Nodup := k4
      have k5 : ∀ x ∈ left, 0 ≤ x ∧ x < count := k5
      have k6 : left.length + r = count.toNat := k6
      have k7 : WeC (n + 200 * i + 1 + 2 * r) q := k7
      obtain ⟨rfl, hr⟩ := rngAt hx
      have hr' : r < count.toNat := by omega
      have er : (0 : Int) + (r : Int) = (r : Int) := Int.zero_add _
      rw [er]
      obtain ⟨v, q2, e2, v0, v1, kq⟩ := tkC (by omega) k7 (many := (left.length : Int)) (by omega) (by omega)
      obtain ⟨g, e3, hg⟩ := popI_ok v0 v1 (by omega)
      obtain ⟨o1, o2, o3, o4⟩ := erase_out k4 hg
      have gm : g ∈ left := List.mem_of_getElem? hg
      have gb := k5 g gm
      generalize left.eraseIdx v.toNat = left2 at e3 o1 o2 o3 o4
      obtain ⟨u, q3, e4, u0, u1, kq3⟩ := tkC (by omega) kq (many := 4) (by decide) (by decide)
      have f1 : go E r (1 + i) = none := by
        cases hgo : go E r (1 + i) with
        | none => rfl
        | some y => exact absurd (k3 r y (by omega) hgo).1 (by omega)
      have f2 : go E g (-(1 + (i : Int))) = none := by
        cases hgo : go E g (-(1 + (i : Int))) with
        | none => rfl
        | some y =>
          obtain ⟨y0, y1, _, hb⟩ := k1.ok g _ y gb.1 hgo
          rw [Int.neg_neg] at hb
          exact absurd gm (k3 y g y0 hb).2
      have hs : Sok L (1 + (i : Int)) := ⟨by omega, by omega, by omega⟩
      have hbr : ∃ E2, (if (decide (few ≤ u)) = true then ((C_laid E (r : Int) (1 + (i : Int)) g).bind fun t34 => some t34.2) else some E : Option Dd) = some E2 ∧ Dr L count.toNat E2 ∧ (∀ a t b, 0 ≤ a → go E2 a t = some b → t.natAbs ≤ i + 1) ∧ (∀ a b, 0 ≤ a → go E2 a (1 + i) = some b → a < (r : Int) + 1 ∧ b ∉ left2) := by
        by_cases cb : few ≤ u
        · have a1' : (r : Int) < E.length := by rw [k1.len]; omega
          have b1' : g < E.length := by rw [k1.len]; omega
          have rl1 := row_len k1 h1 h4 (a := (r : Int)) (by omega) (by omega)
          have rl2 := row_len k1 h1 h4 (a := g) gb.1 (by omega)
          refine ⟨_, (if_pos (decide_eq_true cb)).trans (bindS (laid_ok (by omega) a1' gb.1 b1' (by omega) (by omega)) rfl), k1.put (by omega) (by omega) gb.1 (by omega) hs f1 f2, fun a t b ha hgo => ?_, fun a b ha hgo => ?_⟩
          · have hgo : go (putD E (r : Int) (1 + (i : Int)) g) a t = some b := hgo
            rw [go_put (by omega) a1' gb.1 b1' hs.1 ha] at hgo
            split at hgo
            · rename_i z; rw [z.2]; omega
            · split at hgo
              · rename_i z; rw [z.2]; omega
              · exact k2 a t b ha hgo
          · have hgo : go (putD E (r : Int) (1 + (i : Int)) g) a (1 + (i : Int)) = some b := hgo
            rw [go_put (by omega) a1' gb.1 b1' hs.1 ha] at hgo
            split at hgo
            · rename_i z; omega
            · split at hgo
              · rename_i z
                cases hgo
                exact ⟨by omega, o1⟩
              · obtain ⟨z1, z2⟩ := k3 a b ha hgo
                exact ⟨by omega, fun z => z2 (o3 b z)⟩
        · refine ⟨E, if_neg (by simpa using cb), k1, k2, fun a b ha hgo => ?_⟩
          obtain ⟨z1, z2⟩ := k3 a b ha hgo
          exact ⟨by omega, fun z => z2 (o3 b z)⟩
      obtain ⟨E2, e5, j1, j2, j3⟩ := hbr
      refine ⟨(q3, left2, E2), bindS e2 (bindS e3 (bindS e4 (bindS e5 rfl))), j1, j2, fun a b ha hgo => ?_, o2, fun x hx => k5 x (o3 x hx), by show left2.length + (r + 1) = _; omega, kq3.mono (by omega)⟩
      obtain ⟨z1, z2⟩ := j3 a b ha hgo
      exact ⟨by omega, z2⟩
    · have := hs.2.2.2.2.2.2
      rw [hlc] at this
      exact this.mono (by omega)) (s0 := (List.replicate count.toNat [], w)) ⟨Dr.nil _ _ rfl, (fun a t b _ hg => absurd hg (by rw [go_repl]; simp)), h⟩
  refine ⟨s, e, hs.1, ?_⟩
  have := hs.2.2
  rw [hll] at this
  exact this.mono (by omega)
end Z
namespace Z
open PySem PySem.Spec L2
def homC (letters : Int) : (Int × (List Int) × (List (List (Int × Int)))) → Int → Option (Int × (List Int) × (List (List (Int × Int)))) :=
  (fun (s43 : (Int × (List Int) × (List (List (Int × Int))))) (turn44 : Int) => ((C_steps letters).bind fun t49 => (lcG (β := Int) (fun (step50 : Int) => ((idx s43.2.2 s43.1).bind fun t52 => if (!(dGet t52 step50).isSome) = true then some (some step50) else some none)) t49).bind fun t53 => ((if (!decide (t53 = ([] : (List Int)))) = true then ((appO s43.2.2 ([] : (List (Int × Int)))).bind fun t54 => ((C_take s43.2.1 (t53.length : Int)).bind fun t56 => (idx t53 t56.1).bind fun t57 => (C_laid t54 s43.1 t57 ((t54.length : Int) - 1)).bind fun t58 => some (((t58.2.length : Int) - 1), t56.2, t58.2))) else some (s43.1, s43.2.1, s43.2.2) : Option (Int × (List Int) × (List (List (Int × Int))))).bind fun s60 => some (s60.1, s60.2.1, s60.2.2))))
theorem home_step {L : Int} {n k : Nat} {D : Dd} (h : Dr L n D) (h1 : 1 ≤ L) (h4 : L ≤ 4) (n9 : n ≤ 800) {c : Int} (c0 : 0 ≤ c) (c1 : c < n) {w : List Int} (hk : k < 2 ^ 40) (hw : WeC k w) (x : Int) : ∃ r, homC L (c, w, D) x = some r ∧ ∃ m, n ≤ m ∧ m ≤ n + 1 ∧ Dr L m r.2.2 ∧ 0 ≤ r.1 ∧ r.1 < m ∧ WeC (k + 1) r.2.1 := by
  have l8 := stL_len h1 h4
  have ei := idx_row c0 (by rw [h.len]; exact c1)
  unfold homC
  refine bndX (stepsC_run h1 h4) (bndX (lcG_some (fun s => if (go D c s).isSome = true then none else some s) (by rw [sizeL]; omega) fun s _ => ?_) ?_)
  · refine bindS ei ?_
    cases e : go D c s with
    | none =>
      have e' : dGet (row D c) s = none := e
      rw [e']
      rfl
    | some b =>
      have e' : dGet (row D c) s = some b := e
      rw [e']
      rfl
  have ml : ((stL L).filterMap fun s => if (go D c s).isSome = true then none else some s).length ≤ 8 := Nat.le_trans (List.length_filterMap_le _ _) l8
  have mm : ∀ s ∈ (stL L).filterMap (fun s => if (go D c s).isSome = true then none else some s), Sok L s ∧ go D c s = none := fun s hs => by
    obtain ⟨t, ht, e⟩ := List.mem_filterMap.mp hs
    split at e
    · cases e
    · rename_i hn
      cases e
      refine ⟨mem_stL.mp ht, ?_⟩
      cases eg : go D c s with
      | none => rfl
      | some b => rw [eg] at hn; exact absurd rfl hn
  generalize ((stL L).filterMap fun s => if (go D c s).isSome = true then none else some s) = gaps at ml mm
  by_cases hg : gaps = []
  · exact ⟨(c, w, D), bindS (if_neg (by rw [hg]; simp)) rfl, n, Nat.le_refl _, by omega, h, c0, c1, hw.mono (by omega)⟩
  · have hp := List.length_pos_iff.mpr hg
    obtain ⟨v, p, e1, a1, b1, k1⟩ := tkC (by omega) hw (many := (gaps.length : Int)) (by omega) (by omega)
    obtain ⟨s, e2, ms⟩ := idx_mem a1 b1
    obtain ⟨hs, gs⟩ := mm s ms
    obtain ⟨d2, g2⟩ := h.app
    have dl : (D ++ [[]]).length = n + 1 := d2.len
    have n0 : go (D ++ [[]]) (n : Int) (-s) = none := by
      unfold go row
      rw [List.getD_eq_getElem?_getD, List.getElem?_append_right (by rw [h.len]; omega), h.len, Int.toNat_natCast, Nat.sub_self]
      rfl
    have ed : (((D ++ [[]]).length : Int) - 1) = (n : Int) := by rw [dl]; omega
    have r1 := row_len d2 h1 h4 (a := c) c0 (by omega)
    have r2 := row_len d2 h1 h4 (a := (n : Int)) (by omega) (by omega)
    have e3 : C_laid (D ++ [[]]) c s (((D ++ [[]]).length : Int) - 1) = some ((), putD (D ++ [[]]) c s (n : Int)) := by
      rw [ed]
      exact laid_ok c0 (by rw [dl]; omega) (by omega) (by rw [dl]; omega) (by omega) (by omega)
    have pl : (((putD (D ++ [[]]) c s (n : Int)).length : Int) - 1) = (n : Int) := by rw [putD_len, dl]; omega
    refine ⟨((n : Int), p, putD (D ++ [[]]) c s (n : Int)), bindS (a := ((n : Int), p, putD (D ++ [[]]) c s (n : Int))) ((if_pos (by simpa using hg)).trans (bindS (app_ok (by rw [h.len, sizeL]; omega)) (bindS e1 (bindS e2 (bindS e3 ?_))))) rfl, n + 1, by omega, Nat.le_refl _, d2.put c0 (by omega) (by omega) (by omega) hs (by rw [g2 c s c0]; exact gs) n0, by show (0 : Int) ≤ n; omega, by show (n : Int) < ((n + 1 : Nat) : Int); omega, k1⟩
    show some ((((putD (D ++ [[]]) c s (n : Int)).length : Int) - 1), p, putD (D ++ [[]]) c s (n : Int)) = _
    rw [pl]
theorem C_web_eq (w : List Int) (L most : Int) : C_web w L most = ((C_take w most).bind fun t1 => ((rngO 0 (1 + t1.1)).bind fun t4 => ((lp (fun (s5 : (List (List (Int × Int)))) (room6 : Int) => ((appO s5 ([] : (List (Int × Int)))).bind fun t11 => some t11)) t4 ([] : (List (List (Int × Int))))).bind fun f7 => ((rngO 1 (L + 1)).bind fun t14 => ((lp (tabF (1 + t1.1)) t14 (f7, t1.2)).bind fun f17 => ((C_take f17.2 4).bind fun t40 => (idx ([0, 0, 1, 2]) t40.1).bind fun t41 => (rngO 0 t41).bind fun t42 => ((lp (homC L) t42 (0, t40.2, f17.1)).bind fun f45 => ((C_named L f45.2.2 f45.1).bind fun t63 => some (t63.1, f45.2.1))))))))) := rfl
theorem webC_ok {k : Nat} (hk : k < 2 ^ 30) {L most : Int} {w : List Int} (h : WeC k w) (h1 : 1 ≤ L) (h4 : L ≤ 4) (m1 : 1 ≤ most) (m2 : most ≤ 50) : ∃ r, C_web w L most = some r ∧ ((∃ E, Web L r.1.2 E) ∧ r.1.1 = L ∧ (r.1.2.length : Int) ≤ most + 2 ∧ WeC (k + 2000) r.2) := by
  rw [C_web_eq]
  obtain ⟨v1, p1, e1, a1, b1, k1⟩ := tkC (by omega) h (many := most) (by omega) (by omega)
  have hlc : (range' 0 (1 + v1)).length = (1 + v1).toNat := by rw [rng_len]; omega
  have e2 := replC 0 (range' 0 (1 + v1)) [] (by rw [hlc]; show 0 + _ ≤ _; omega)
  rw [List.nil_append, hlc] at e2
  obtain ⟨⟨D, p2⟩, e3, d3, k3⟩ := tabC_ok (by omega) k1 h1 h4 (count := 1 + v1) (by omega) (by omega)
  have d3 : Dr L (1 + v1).toNat D := d3
  obtain ⟨v4, p4, e4, a4, b4, k4⟩ := tkC (by omega) k3 (many := 4) (by decide) (by decide)
  obtain ⟨t, e5, ht⟩ := idx_mem (xs := [0, 0, 1, (2 : Int)]) a4 (by show v4 < ((4 : Nat) : Int); omega)
  have ht2 : 0 ≤ t ∧ t ≤ 2 := by
    simp only [List.mem_cons, List.not_mem_nil, or_false] at ht
    omega
  have hlt : (range' 0 t).length = t.toNat := by rw [rng_len]; omega
  refine bndX e1 (bndX (rngO_ok (by omega)) (bndX e2 (bndX (rngO_ok (by omega)) (bndX e3 (bndX e4 (bndX e5 (bndX (rngO_ok (by omega)) ?_)))))))
  refine lpX (fun i s => ∃ m, 1 ≤ m ∧ m ≤ (1 + v1).toNat + i ∧ Dr L m s.2.2 ∧ 0 ≤ s.1 ∧ s.1 < m ∧ WeC (k + 1100 + i) s.2.1) ⟨(1 + v1).toNat, by omega, by omega, d3, Int.le_refl _, by show (0 : Int) < _; omega, k4.mono (by omega)⟩ (fun i x s hx hs => ?_) (fun s hs => ?_)
  · obtain ⟨c, q, E⟩ := s
    obtain ⟨m, m1', m2', dm, c0, c1, kw⟩ := hs
    have hi : i < t.toNat := by
      have := (List.getElem?_eq_some_iff.mp hx).1
      omega
    obtain ⟨r, e, m', q1, q2, q3, q4, q5, q6⟩ := home_step dm h1 h4 (by omega) c0 c1 (by omega) kw x
    exact ⟨r, e, m', by omega, by omega, q3, q4, q5, q6.mono (by omega)⟩
  · obtain ⟨c, q, E⟩ := s
    rw [hlt] at hs
    obtain ⟨m, m1', m2', dm, c0, c1, kw⟩ := hs
    have kw : WeC (k + 1100 + t.toNat) q := kw
    obtain ⟨r, e, r1, r2, r3⟩ := namedC_ok dm h1 h4 m1' (by omega) c0 c1
    exact ⟨(r.1, q), bindS e rfl, r3, r1, by show (r.1.2.length : Int) ≤ _; omega, kw.mono (by omega)⟩
end Z
namespace Z
open PySem PySem.Spec L2
def fwStep (D : Dd) (a : Int) (ws : List (Int × List Int)) (s : Int) : List (Int × List Int) := match go D a s with
  | none => ws
  | some g => if (dGet ws g).isSome = true then ws else dPut ws g ((dGet ws a).getD [] ++ [s])
def visS (D : Dd) (a : Int) (o : List Int) (s : Int) : List Int := match go D a s with
  | none => o
  | some g => vis o g
def fwRow (L : Int) (D : Dd) (ws : List (Int × List Int)) (a : Int) : List (Int × List Int) := (stL L).foldl (fwStep D a) ws
def fwAll (L : Int) (D : Dd) (l : List Int) : List (Int × List Int) := l.foldl (fwRow L D) [(0, [])]
theorem visS_all (D : Dd) (a : Int) : ∀ (ss o : List Int), ss.foldl (visS D a) o = visA o (ss.filterMap (go D a))
  | [], o => rfl
  | s :: ss, o => by
    rw [List.foldl_cons, visS_all D a ss]
    unfold visS
    cases e : go D a s with
    | none => rw [List.filterMap_cons_none e]
    | some g => rw [List.filterMap_cons_some e, visA_cons]
theorem fwStep_inv {L : Int} {n k : Nat} {D : Dd} (h : Dr L n D) {a : Int} (a0 : 0 ≤ a) {ws : List (Int × List Int)} {o wa : List Int} (hM : Fw L (k + 1) ws o) (hwa : dGet ws a = some wa) (wl : wa.length ≤ k) (wo : ∀ x ∈ wa, Sok L x) (s : Int) : Fw L (k + 1) (fwStep D a ws s) (visS D a o s) ∧ dGet (fwStep D a ws s) a = some wa := by
  unfold fwStep visS
  cases hg : go D a s with
  | none => exact ⟨hM, hwa⟩
  | some g =>
    obtain ⟨g0, _, sok, _⟩ := h.ok a s g a0 hg
    show Fw L (k + 1) (if (dGet ws g).isSome = true then ws else dPut ws g ((dGet ws a).getD [] ++ [s])) (vis o g) ∧ dGet (if (dGet ws g).isSome = true then ws else dPut ws g ((dGet ws a).getD [] ++ [s])) a = some wa
    by_cases hm : g ∈ o
    · have hv : vis o g = o := if_pos hm
      rw [hv, if_pos ((hM.1 g).mpr hm)]
      exact ⟨hM, hwa⟩
    · have hv : vis o g = o ++ [g] := if_neg hm
      have hnone : ¬ (dGet ws g).isSome = true := fun z => hm ((hM.1 g).mp z)
      rw [hv, if_neg hnone, hwa]
      have hga : g ≠ a := fun e => by
        rw [e, hwa] at hnone
        exact hnone rfl
      refine ⟨⟨fun x => ?_, ?_, fun x w e => ?_⟩, by rw [dGet_put, if_neg hga]; exact hwa⟩
      · rw [dGet_put, List.mem_append, List.mem_singleton]
        by_cases e : g = x
        · subst e; simp
        · rw [if_neg e, hM.1 x]
          exact ⟨.inl, fun z => z.elim id fun z => absurd z.symm e⟩
      · have := dput_len ws g ((some wa).getD [] ++ [s])
        have := hM.2.1
        rw [List.length_append]
        show _ ≤ o.length + 1
        omega
      · rw [dGet_put] at e
        by_cases eg : g = x
        · rw [if_pos eg] at e
          cases e
          refine ⟨fun y hy => ?_, by show (wa ++ [s]).length ≤ _; rw [List.length_append]; show wa.length + 1 ≤ _; omega⟩
          rcases List.mem_append.mp hy with hy | hy
          · exact wo y hy
          · exact List.mem_singleton.mp hy ▸ sok
        · rw [if_neg eg] at e
          exact hM.2.2 x w e
theorem prog_fw {L : Int} {n k : Nat} {D : Dd} (h : Dr L n D) (hk : k ≤ 10000) {a : Int} {wa : List Int} (wl : wa.length ≤ k) (wo : ∀ x ∈ wa, Sok L x) (a0 : 0 ≤ a) (a1 : a < D.length) : ∀ (ss o : List Int) (ws : List (Int × List Int)), o.length + ss.length ≤ 10000 → Fw L (k + 1) ws o → dGet ws a = some wa →
    lp (fun (s8 : (List (Int × (List Int)))) (step9 : Int) => ((idx D a).bind fun t13 => (match (dGet t13 step9) with | none => (some s8) | some goal14 => ((if (true && (!(dGet s8 goal14).isSome)) = true then ((dGet s8 a).bind fun t15 => (catO (α := Int) t15 ([step9])).bind fun t16 => (dPutO s8 goal14 t16).bind fun t17 => some t17) else some s8 : Option (List (Int × (List Int)))).bind fun s18 => some s18)))) ss ws = some (ss.foldl (fwStep D a) ws) ∧ Fw L (k + 1) (ss.foldl (fwStep D a) ws) (ss.foldl (visS D a) o) ∧ dGet (ss.foldl (fwStep D a) ws) a = some wa
  | [], o, ws, _, hM, hwa => ⟨rfl, hM, hwa⟩
  | s :: ss, o, ws, hl, hM, hwa => by
    rw [List.length_cons] at hl
    obtain ⟨i1, i2⟩ := fwStep_inv h a0 hM hwa wl wo s
    have vl : (visS D a o s).length ≤ o.length + 1 := by
      unfold visS
      cases go D a s with
      | none => exact Nat.le_succ _
      | some g =>
        show (vis o g).length ≤ _
        unfold vis
        split
        · exact Nat.le_succ _
        · rw [List.length_append]; exact Nat.le_refl _
    obtain ⟨e, q⟩ := prog_fw h hk wl wo a0 a1 ss (visS D a o s) (fwStep D a ws s) (by omega) i1 i2
    refine ⟨?_, q⟩
    unfold lp
    refine bindS (a := fwStep D a ws s) ?_ e
    refine bindS (idx_row a0 a1) ?_
    have hm2 := hM.2.1
    unfold fwStep
    cases hg : go D a s with
    | none =>
      have hg' : dGet (row D a) s = none := hg
      rw [hg']
    | some g =>
      have hg' : dGet (row D a) s = some g := hg
      rw [hg']
      by_cases hs : (dGet ws g).isSome = true
      · exact bindS (a := ws) (if_neg (by simp [hs])) (congrArg some (if_pos hs).symm)
      · refine bindS (a := dPut ws g (wa ++ [s])) ((if_pos (by simpa using hs)).trans (bindS hwa (bindS (cat_ok (by rw [sizeL]; show wa.length + 1 ≤ _; omega)) (bindS (putO_ok (by rw [sizeL]; omega)) rfl)))) ?_
        show some (dPut ws g (wa ++ [s])) = some (if (dGet ws g).isSome = true then ws else dPut ws g ((dGet ws a).getD [] ++ [s]))
        rw [if_neg hs, hwa]
        rfl
theorem law_fw {L : Int} {n k i : Nat} {D : Dd} (h : Dr L n D) (hk : k ≤ 10000) {a : Int} {wa : List Int} (wl : wa.length ≤ k) (wo : ∀ x ∈ wa, Sok L x) (a0 : 0 ≤ a) (a1 : a < D.length) : ∀ (ss o : List Int) (ws : List (Int × List Int)), o[i]? = some a → o.length + ss.length ≤ 10000 → Fw L (k + 1) ws o → dGet ws a = some wa →
    lp (fun (s13 : ((List Int) × (List (Int × (List Int))))) (step14 : Int) => ((if (dGet (row D a) step14).isSome = true then ((dGet (row D a) step14).bind fun t18 => some (!(dGet s13.2 t18).isSome)) else some false).bind fun t19 => ((if t19 = true then ((idx s13.1 (i : Int)).bind fun t20 => (dGet s13.2 t20).bind fun t21 => (catO (α := Int) t21 ([step14])).bind fun t22 => (dGet (row D a) step14).bind fun t23 => (dPutO s13.2 t23 t22).bind fun t24 => ((dGet (row D a) step14).bind fun t25 => (appO s13.1 t25).bind fun t26 => some (t26, t24))) else some (s13.1, s13.2) : Option ((List Int) × (List (Int × (List Int))))).bind fun s27 => some (s27.1, s27.2)))) ss (o, ws) = some (ss.foldl (visS D a) o, ss.foldl (fwStep D a) ws)
  | [], o, ws, _, _, hM, hwa => rfl
  | s :: ss, o, ws, ho, hl, hM, hwa => by
    rw [List.length_cons] at hl
    obtain ⟨i1, i2⟩ := fwStep_inv h a0 hM hwa wl wo s
    have hi := (List.getElem?_eq_some_iff.mp ho).1
    have vl : (visS D a o s).length ≤ o.length + 1 ∧ (visS D a o s)[i]? = some a := by
      unfold visS
      cases go D a s with
      | none => exact ⟨Nat.le_succ _, ho⟩
      | some g =>
        show (vis o g).length ≤ _ ∧ (vis o g)[i]? = some a
        unfold vis
        split
        · exact ⟨Nat.le_succ _, ho⟩
        · exact ⟨by rw [List.length_append]; exact Nat.le_refl _, by rw [List.getElem?_append_left hi]; exact ho⟩
    have e := law_fw h hk wl wo a0 a1 ss (visS D a o s) (fwStep D a ws s) vl.2 (by omega) i1 i2
    unfold lp
    refine bindS (a := (visS D a o s, fwStep D a ws s)) ?_ e
    have eo : idx o (i : Int) = some a := idx_of (by omega) (by rw [Int.toNat_natCast]; exact ho)
    have hm2 := hM.2.1
    unfold fwStep visS
    cases hg : go D a s with
    | none =>
      have hg' : dGet (row D a) s = none := hg
      rw [hg']
      rfl
    | some g =>
      have hg' : dGet (row D a) s = some g := hg
      rw [hg']
      by_cases hs : (dGet ws g).isSome = true
      · have hv : vis o g = o := if_pos ((hM.1 g).mp hs)
        refine bindS (a := false) ((if_pos rfl).trans (bindS rfl (congrArg some (by rw [hs]; rfl)))) (bindS (a := (o, ws)) (if_neg (by simp)) ?_)
        show some (o, ws) = some (vis o g, if (dGet ws g).isSome = true then ws else _)
        rw [hv, if_pos hs]
      · have hv : vis o g = o ++ [g] := if_neg fun z => hs ((hM.1 g).mpr z)
        refine bindS (a := true) ((if_pos rfl).trans (bindS rfl (congrArg some (by simpa using hs)))) (bindS (a := (o ++ [g], dPut ws g (wa ++ [s]))) ((if_pos rfl).trans (bindS eo (bindS hwa (bindS (cat_ok (by rw [sizeL]; show wa.length + 1 ≤ _; omega)) (bindS rfl (bindS (putO_ok (by show ws.length < _; rw [sizeL]; omega)) (bindS rfl (bindS (app_ok (by show o.length < _; rw [sizeL]; omega)) rfl)))))))) ?_)
        show some (o ++ [g], dPut ws g (wa ++ [s])) = some (vis o g, if (dGet ws g).isSome = true then ws else dPut ws g ((dGet ws a).getD [] ++ [s]))
        rw [hv, if_neg hs, hwa]
        rfl
theorem fwAll_snoc (L : Int) (D : Dd) (l : List Int) (a : Int) : fwAll L D (l ++ [a]) = fwRow L D (fwAll L D l) a := by
  unfold fwAll
  rw [List.foldl_append]
  rfl
theorem take_snoc {l : List Int} {i : Nat} {a : Int} (h : l[i]? = some a) : l.take (i + 1) = l.take i ++ [a] := by
  obtain ⟨hi, e⟩ := List.getElem?_eq_some_iff.mp h
  rw [List.take_succ_eq_append_getElem hi, e]
theorem ord_row {L : Int} {D : Dd} {i : Nat} {a : Int} (h : (ord (nbr L D) i)[i]? = some a) : (stL L).foldl (visS D a) (ord (nbr L D) i) = ord (nbr L D) (i + 1) := by
  rw [visS_all]
  show _ = (match (ord (nbr L D) i)[i]? with | some a => visA (ord (nbr L D) i) (nbr L D a) | none => ord (nbr L D) i)
  rw [h]
  rfl
theorem fw_zero (L : Int) (D : Dd) : Fw L 0 (fwAll L D []) (ord (nbr L D) 0) := by
  refine ⟨fun g => ?_, Nat.le_refl _, fun g w e => ?_⟩
  · show (dGet [((0 : Int), ([] : List Int))] g).isSome = true ↔ g ∈ [(0 : Int)]
    rw [dGet_cons, List.mem_singleton]
    by_cases e : (0 : Int) = g
    · subst e; simp
    · rw [if_neg e]
      exact ⟨(fun z => by cases z), fun z => absurd z.symm e⟩
  · have e : dGet [((0 : Int), ([] : List Int))] g = some w := e
    rw [dGet_cons] at e
    split at e
    · cases e
      exact ⟨(fun _ z => nomatch z), Nat.le_refl _⟩
    · cases e
theorem first_waysW_ok {L : Int} {n : Nat} {D : Dd} (h : Dr L n D) (h1 : 1 ≤ L) (h4 : L ≤ 4) (n1 : 1 ≤ n) (n9 : n ≤ 900) : Q_first_ways L D 0 = some (fwAll L D (ord (nbr L D) n)) ∧ Fw L n (fwAll L D (ord (nbr L D) n)) (ord (nbr L D) n) := by
  have hnb := h.nbr
  have l8 := stL_len h1 h4
  have ol := ord_len n1 hnb n
  obtain ⟨ws, e, ew, hF⟩ := lp_goN (f := (fun (s2 : (List (Int × (List Int)))) (room3 : Int) => ((Q_steps_of L).bind fun t7 => ((lp (fun (s8 : (List (Int × (List Int)))) (step9 : Int) => ((idx D room3).bind fun t13 => (match (dGet t13 step9) with | none => (some s8) | some goal14 => ((if (true && (!(dGet s8 goal14).isSome)) = true then ((dGet s8 room3).bind fun t15 => (catO (α := Int) t15 ([step9])).bind fun t16 => (dPutO s8 goal14 t16).bind fun t17 => some t17) else some s8 : Option (List (Int × (List Int)))).bind fun s18 => some s18)))) t7 s2).bind fun f10 => some f10)))) (xs := ord (nbr L D) n) (fun i ws => ws = fwAll L D ((ord (nbr L D) n).take i) ∧ Fw L i ws (ord (nbr L D) i)) (fun i a ws hx hs => by
    obtain ⟨rfl, hF⟩ := hs
    obtain ⟨hin, hat, _⟩ := ord_at n1 hnb hx
    have hmem := List.mem_of_getElem? hat
    obtain ⟨a0, a1⟩ := (ord_in n1 hnb i).1 a hmem
    have oi := ord_len n1 hnb i
    obtain ⟨wa, hwa⟩ := Option.isSome_iff_exists.mp ((hF.1 a).mpr hmem)
    obtain ⟨wo, wl⟩ := hF.2.2 a wa hwa
    obtain ⟨e, q, _⟩ := prog_fw h (k := i) (by omega) wl wo a0 (by rw [h.len]; exact a1) (stL L) (ord (nbr L D) i) _ (by omega) (hF.mono (by omega)) hwa
    rw [ord_row hat] at q
    refine ⟨_, bindS (steps_of_ok h1 h4) (bindS e rfl), ?_, q⟩
    rw [take_snoc hx, fwAll_snoc]
    rfl) (s0 := [(0, [])]) ⟨rfl, fw_zero L D⟩
  rw [List.take_length] at ew
  have hend : ord (nbr L D) (ord (nbr L D) n).length = ord (nbr L D) n := by
    refine ord_end n1 hnb ol ?_
    refine Classical.byContradiction fun hc => ?_
    obtain ⟨a, ha⟩ : ∃ a, (ord (nbr L D) (ord (nbr L D) n).length)[(ord (nbr L D) n).length]? = some a := ⟨_, List.getElem?_eq_getElem (by omega)⟩
    obtain ⟨t, et⟩ := ord_pre (nbr L D) (ord (nbr L D) n).length (n - (ord (nbr L D) n).length)
    rw [show (ord (nbr L D) n).length + (n - (ord (nbr L D) n).length) = n by omega] at et
    have := congrArg List.length et
    rw [List.length_append] at this
    omega
  rw [hend] at hF
  subst ew
  exact ⟨bindS (first_order_ok h h1 h4 n1 n9) (bindS e rfl), hF.mono ol⟩
theorem firstsC_ok {L : Int} {rows : List (List Int)} {D : Dd} (W : Web L rows D) : C_firsts (L, rows) = some (fwAll L D (ord (nbr L D) rows.length)) := by
  have h := W.rep.1
  have n1 := W.n1
  have n9 := W.n9
  have h1 := W.reg.l1
  have h4 := W.reg.l4
  have hnb := h.nbr
  have l8 := stL_len h1 h4
  have hlr : (range' 0 (rows.length : Int)).length = rows.length := by rw [rng_len]; omega
  unfold C_firsts
  have eD : C_doors (L, rows) = some D := by rw [doorsC_eq]; exact W.dof
  obtain ⟨⟨o, ws⟩, e, ew⟩ := lp_goN (f := (fun (s5 : ((List Int) × (List (Int × (List Int))))) (at_6 : Int) => ((idx s5.1 at_6).bind fun t10 => (idx D t10).bind fun t11 => ((C_steps L).bind fun t12 => ((lp (fun (s13 : ((List Int) × (List (Int × (List Int))))) (step14 : Int) => ((if (dGet t11 step14).isSome = true then ((dGet t11 step14).bind fun t18 => some (!(dGet s13.2 t18).isSome)) else some false).bind fun t19 => ((if t19 = true then ((idx s13.1 at_6).bind fun t20 => (dGet s13.2 t20).bind fun t21 => (catO (α := Int) t21 ([step14])).bind fun t22 => (dGet t11 step14).bind fun t23 => (dPutO s13.2 t23 t22).bind fun t24 => ((dGet t11 step14).bind fun t25 => (appO s13.1 t25).bind fun t26 => some (t26, t24))) else some (s13.1, s13.2) : Option ((List Int) × (List (Int × (List Int))))).bind fun s27 => some (s27.1, s27.2)))) t12 (s5.1, s5.2)).bind fun f15 => some (f15.1, f15.2)))))) (xs := range' 0 (rows.length : Int)) (fun i s => s = (ord (nbr L D) i, fwAll L D ((ord (nbr L D) rows.length).take i)) ∧ Fw L i s.2 (ord (nbr L D) i)) (fun i x s hx hs => by
    obtain ⟨rfl, hF⟩ := hs
    obtain ⟨ex, hi⟩ := rng_at hx
    have ex : x = (i : Int) := by omega
    subst ex
    have hx2 : (ord (nbr L D) rows.length)[i]? = some (i : Int) := by
      rw [W.bfs]
      exact hx
    obtain ⟨hin, hat, _⟩ := ord_at n1 hnb hx2
    have hmem := List.mem_of_getElem? hat
    have oi := ord_len n1 hnb i
    have hF : Fw L i (fwAll L D ((ord (nbr L D) rows.length).take i)) (ord (nbr L D) i) := hF
    obtain ⟨wa, hwa⟩ := Option.isSome_iff_exists.mp ((hF.1 (i : Int)).mpr hmem)
    obtain ⟨wo, wl⟩ := hF.2.2 (i : Int) wa hwa
    have a1 : (i : Int) < D.length := by rw [h.len]; omega
    obtain ⟨_, q, _⟩ := prog_fw h (k := i) (by omega) wl wo (by omega) a1 (stL L) (ord (nbr L D) i) _ (by omega) (hF.mono (by omega)) hwa
    have e2 := law_fw h (k := i) (i := i) (by omega) wl wo (by omega) a1 (stL L) (ord (nbr L D) i) _ hat (by omega) (hF.mono (by omega)) hwa
    rw [ord_row hat] at q e2
    refine ⟨_, bindS (idx_of (by omega) (by rw [Int.toNat_natCast]; exact hat)) (bindS (idx_row (by omega) a1) (bindS (stepsC_run h1 h4) (bindS e2 rfl))), ?_, q⟩
    rw [take_snoc hx2, fwAll_snoc]
    rfl) (s0 := ([0], [(0, [])])) ⟨rfl, fw_zero L D⟩
  rw [hlr] at ew
  have e2 := ew.1
  rw [List.take_of_length_le (ord_len n1 hnb _)] at e2
  refine bindS eD (bindS (rngO_ok (by show -(2 ^ 62) ≤ (0 : Int) ∧ (0 : Int) < 2 ^ 62 ∧ -(2 ^ 62) ≤ (rows.length : Int) ∧ (rows.length : Int) < 2 ^ 62; omega)) (bindS e ?_))
  rw [e2]
end Z
namespace Z
open PySem PySem.Spec L2
theorem klt_snoc {u v : List Int} (s t : Int) (h : klt u v = true) : klt (u ++ [s]) (v ++ [t]) = true := by
  have key : ∀ u v : List Int, u.length = v.length → clt u v = true → clt (u ++ [s]) (v ++ [t]) = true := by
    intro u
    induction u with
    | nil =>
      intro v hl hc
      cases v with
      | nil => rw [clt_irr] at hc; cases hc
      | cons _ _ => cases hl
    | cons x u ih =>
      intro v hl hc
      cases v with
      | nil => cases hl
      | cons y v =>
        rw [clt_cons] at hc
        show clt (x :: (u ++ [s])) (y :: (v ++ [t])) = true
        rw [clt_cons]
        by_cases e : codeS x = codeS y
        · rw [if_pos e] at hc ⊢
          exact ih v (Nat.succ.inj hl) hc
        · rw [if_neg e] at hc ⊢
          exact hc
  by_cases hl : u.length = v.length
  · rw [klt_same hl] at h
    rw [klt_same (by rw [List.length_append, List.length_append, hl]; rfl)]
    exact key u v hl h
  · rw [klt_len hl, decide_eq_true_eq] at h
    rw [klt_len (by rw [List.length_append, List.length_append]; show u.length + 1 ≠ v.length + 1; omega), decide_eq_true_eq, List.length_append, List.length_append]
    show u.length + 1 < v.length + 1
    omega
theorem klt_last {s t : Int} (h : codeS s < codeS t) : ∀ u : List Int, klt (u ++ [s]) (u ++ [t]) = true := fun u => by
  rw [klt_same (by rw [List.length_append, List.length_append]; rfl)]
  induction u with
  | nil =>
    show clt [s] [t] = true
    rw [clt_cons, if_neg (by omega)]
    exact decide_eq_true h
  | cons x u ih =>
    show clt (x :: (u ++ [s])) (x :: (u ++ [t])) = true
    rw [clt_cons, if_pos rfl]
    exact ih
theorem klt_nil (u : List Int) (s : Int) : klt [] (u ++ [s]) = true := by
  rw [klt_len (by rw [List.length_append]; show 0 ≠ u.length + 1; omega), decide_eq_true_eq, List.length_append]
  show 0 < u.length + 1
  omega
def wv (ws : List (Int × List Int)) (g : Int) : List Int := (dGet ws g).getD []
/-- what holds while the room a is gone through, the steps pre behind -/
structure Fi (L : Int) (D : Dd) (ws : List (Int × List Int)) (o : List Int) (a : Int) (pre : List Int) : Prop where
  key : ∀ g, (dGet ws g).isSome = true ↔ g ∈ o
  zero : dGet ws 0 = some []
  led : ∀ g ∈ o, goW D 0 (wv ws g) = some g
  asc : ∀ (i j : Nat) (x y : Int), o[i]? = some x → o[j]? = some y → i < j → klt (wv ws x) (wv ws y) = true
  par : ∀ g ∈ o, wv ws g = [] ∨ ∃ v s, wv ws g = v ++ [s] ∧ (klt v (wv ws a) = true ∨ (v = wv ws a ∧ s ∈ pre))
theorem Fi.below {L : Int} {D : Dd} {ws : List (Int × List Int)} {o pre : List Int} {a t : Int} (f : Fi L D ws o a pre) (hp : ∀ s ∈ pre, codeS s < codeS t) {g : Int} (hg : g ∈ o) : klt (wv ws g) (wv ws a ++ [t]) = true := by
  rcases f.par g hg with e | ⟨v, s, e, h | ⟨rfl, h⟩⟩
  · rw [e]; exact klt_nil _ _
  · rw [e]; exact klt_snoc s t h
  · rw [e]; exact klt_last (hp s h) _
theorem Fi.step {L : Int} {n : Nat} {D : Dd} (h : Dr L n D) {ws : List (Int × List Int)} {o pre : List Int} {a t : Int} (a0 : 0 ≤ a) (f : Fi L D ws o a pre) (ha : a ∈ o) (hp : ∀ s ∈ pre, codeS s < codeS t) :
    Fi L D (fwStep D a ws t) (visS D a o t) a (pre ++ [t]) ∧ (∀ g ∈ o, wv (fwStep D a ws t) g = wv ws g) ∧ (∀ g ∈ o, g ∈ visS D a o t) ∧ ∀ g, go D a t = some g → g ∈ visS D a o t ∧ (wv (fwStep D a ws t) g = wv ws a ++ [t] ∨ klt (wv (fwStep D a ws t) g) (wv ws a ++ [t]) = true) := by
  have wid : Fi L D ws o a (pre ++ [t]) := ⟨f.key, f.zero, f.led, f.asc, fun g hg => (f.par g hg).imp id fun ⟨v, s, e, q⟩ => ⟨v, s, e, q.imp id fun q => ⟨q.1, List.mem_append_left _ q.2⟩⟩⟩
  unfold fwStep visS
  cases hgo : go D a t with
  | none => exact ⟨wid, fun _ _ => rfl, fun _ z => z, fun _ z => nomatch z⟩
  | some g =>
    show Fi L D (if (dGet ws g).isSome = true then ws else dPut ws g ((dGet ws a).getD [] ++ [t])) (vis o g) a (pre ++ [t]) ∧ (∀ x ∈ o, wv (if (dGet ws g).isSome = true then ws else dPut ws g ((dGet ws a).getD [] ++ [t])) x = wv ws x) ∧ (∀ x ∈ o, x ∈ vis o g) ∧ ∀ x, some g = some x → x ∈ vis o g ∧ (wv (if (dGet ws g).isSome = true then ws else dPut ws g ((dGet ws a).getD [] ++ [t])) x = wv ws a ++ [t] ∨ klt (wv (if (dGet ws g).isSome = true then ws else dPut ws g ((dGet ws a).getD [] ++ [t])) x) (wv ws a ++ [t]) = true)
    by_cases hm : g ∈ o
    · have hv : vis o g = o := if_pos hm
      rw [hv, if_pos ((f.key g).mpr hm)]
      refine ⟨wid, fun _ _ => rfl, fun _ z => z, fun x e => ?_⟩
      cases e
      exact ⟨hm, .inr (f.below hp hm)⟩
    · have hv : vis o g = o ++ [g] := if_neg hm
      have hnone : ¬ (dGet ws g).isSome = true := fun z => hm ((f.key g).mp z)
      rw [hv, if_neg hnone]
      have new : wv (dPut ws g ((dGet ws a).getD [] ++ [t])) g = wv ws a ++ [t] := by
        unfold wv
        rw [dGet_put, if_pos rfl]
        rfl
      have old : ∀ x ∈ o, wv (dPut ws g ((dGet ws a).getD [] ++ [t])) x = wv ws x := fun x hx => by
        have hgx : g ≠ x := fun e => hm (by rw [e]; exact hx)
        unfold wv
        rw [dGet_put, if_neg hgx]
      have h0 : (0 : Int) ∈ o := (f.key 0).mp (by rw [f.zero]; rfl)
      have hg0 : g ≠ 0 := fun e => hm (e ▸ h0)
      refine ⟨⟨fun x => ?_, by rw [dGet_put, if_neg hg0]; exact f.zero, fun x hx => ?_, fun i j x y hx hy hij => ?_, fun x hx => ?_⟩, old, fun x hx => List.mem_append_left _ hx, fun x e => by cases e; exact ⟨by simp, .inl new⟩⟩
      · rw [dGet_put, List.mem_append, List.mem_singleton]
        by_cases e : g = x
        · subst e; simp
        · rw [if_neg e, f.key x]
          exact ⟨.inl, fun z => z.elim id fun z => absurd z.symm e⟩
      · rcases List.mem_append.mp hx with hx | hx
        · rw [old x hx]
          exact f.led x hx
        · rw [List.mem_singleton.mp hx, new, goW_app, f.led a ha]
          show (match go D a t with | some b => goW D b [] | none => none) = some g
          rw [hgo]
          rfl
      · have hjl := (List.getElem?_eq_some_iff.mp hy).1
        rw [List.length_append] at hjl
        have hjl : j < o.length + 1 := hjl
        have hx' : o[i]? = some x := by rw [List.getElem?_append_left (by omega)] at hx; exact hx
        have mx := List.mem_of_getElem? hx'
        by_cases hj : j < o.length
        · rw [List.getElem?_append_left hj] at hy
          rw [old x mx, old y (List.mem_of_getElem? hy)]
          exact f.asc i j x y hx' hy hij
        · have ej : j = o.length := by omega
          rw [ej, List.getElem?_append_right (Nat.le_refl _), Nat.sub_self] at hy
          have ey : g = y := Option.some.inj hy
          rw [← ey, new, old x mx]
          exact f.below hp mx
      · rcases List.mem_append.mp hx with hx | hx
        · rw [old x hx, old a ha]
          exact wid.par x hx
        · rw [List.mem_singleton.mp hx, new, old a ha]
          exact .inr ⟨wv ws a, t, rfl, .inr ⟨rfl, by simp⟩⟩
/-- what is so of the pairs that are behind -/
def Done (D : Dd) (ws : List (Int × List Int)) (o : List Int) (b s : Int) : Prop := ∀ g, go D b s = some g → g ∈ o ∧ (wv ws g = wv ws b ++ [s] ∨ klt (wv ws g) (wv ws b ++ [s]) = true)
theorem Fi.all {L : Int} {n : Nat} {D : Dd} (h : Dr L n D) {a : Int} (a0 : 0 ≤ a) : ∀ (ss pre : List Int) (ws : List (Int × List Int)) (o : List Int), Fi L D ws o a pre → a ∈ o → (pre ++ ss).Pairwise (fun s t => codeS s < codeS t) →
    Fi L D (ss.foldl (fwStep D a) ws) (ss.foldl (visS D a) o) a (pre ++ ss) ∧ (∀ g ∈ o, wv (ss.foldl (fwStep D a) ws) g = wv ws g) ∧ (∀ g ∈ o, g ∈ ss.foldl (visS D a) o) ∧ (∀ b s, b ∈ o → Done D ws o b s → Done D (ss.foldl (fwStep D a) ws) (ss.foldl (visS D a) o) b s) ∧ ∀ s ∈ ss, Done D (ss.foldl (fwStep D a) ws) (ss.foldl (visS D a) o) a s
  | [], pre, ws, o, f, _, _ => by
    rw [List.append_nil]
    exact ⟨f, fun _ _ => rfl, fun _ z => z, fun _ _ _ z => z, fun _ z => nomatch z⟩
  | s :: ss, pre, ws, o, f, ha, hp => by
    have hp1 : ∀ x ∈ pre, codeS x < codeS s := fun x hx => (List.pairwise_append.mp hp).2.2 x hx s List.mem_cons_self
    obtain ⟨f1, k1, o1, d1⟩ := f.step h a0 ha hp1
    have e : pre ++ s :: ss = (pre ++ [s]) ++ ss := by rw [List.append_assoc]; rfl
    obtain ⟨f2, k2, o2, d2, n2⟩ := Fi.all h a0 ss (pre ++ [s]) (fwStep D a ws s) (visS D a o s) f1 (o1 a ha) (by rw [← e]; exact hp)
    rw [e]
    have carry : ∀ b t, b ∈ o → Done D ws o b t → Done D (fwStep D a ws s) (visS D a o s) b t := fun b t hb hd g hg => by
      obtain ⟨z1, z2⟩ := hd g hg
      rw [k1 g z1, k1 b hb]
      exact ⟨o1 g z1, z2⟩
    refine ⟨f2, fun g hg => by rw [List.foldl_cons, k2 g (o1 g hg), k1 g hg], fun g hg => o2 g (o1 g hg), fun b t hb hd => d2 b t (o1 b hb) (carry b t hb hd), fun t ht => ?_⟩
    rcases List.mem_cons.mp ht with rfl | ht
    · refine d2 a t (o1 a ha) fun g hg => ?_
      obtain ⟨z1, z2⟩ := d1 g hg
      rw [k1 a ha]
      exact ⟨z1, z2⟩
    · exact n2 t ht
theorem fw_all {L : Int} {n : Nat} {D : Dd} (h : Dr L n D) (h1 : 1 ≤ L) (h4 : L ≤ 4) (n1 : 1 ≤ n) : ∀ i : Nat, i ≤ (ord (nbr L D) n).length → (∀ g, (dGet (fwAll L D ((ord (nbr L D) n).take i)) g).isSome = true ↔ g ∈ ord (nbr L D) i) ∧ dGet (fwAll L D ((ord (nbr L D) n).take i)) 0 = some [] ∧ (∀ g ∈ ord (nbr L D) i, goW D 0 (wv (fwAll L D ((ord (nbr L D) n).take i)) g) = some g) ∧
    (∀ (p q : Nat) (x y : Int), (ord (nbr L D) i)[p]? = some x → (ord (nbr L D) i)[q]? = some y → p < q → klt (wv (fwAll L D ((ord (nbr L D) n).take i)) x) (wv (fwAll L D ((ord (nbr L D) n).take i)) y) = true) ∧
    (∀ a, (ord (nbr L D) n)[i]? = some a → ∀ g ∈ ord (nbr L D) i, wv (fwAll L D ((ord (nbr L D) n).take i)) g = [] ∨ ∃ v s, wv (fwAll L D ((ord (nbr L D) n).take i)) g = v ++ [s] ∧ klt v (wv (fwAll L D ((ord (nbr L D) n).take i)) a) = true) ∧
    (∀ (j : Nat) (b s : Int), j < i → (ord (nbr L D) n)[j]? = some b → s ∈ stL L → Done D (fwAll L D ((ord (nbr L D) n).take i)) (ord (nbr L D) i) b s)
  | 0, _ => by
    have z0 : fwAll L D ((ord (nbr L D) n).take 0) = [(0, [])] := rfl
    have o0 : ord (nbr L D) 0 = [0] := rfl
    rw [z0, o0]
    have w0 : wv [((0 : Int), ([] : List Int))] 0 = [] := rfl
    refine ⟨(fw_zero L D).1, rfl, fun g hg => ?_, fun p q x y hx hy hpq => ?_, fun a _ g hg => ?_, fun j b s hj => absurd hj (Nat.not_lt_zero _)⟩
    · rw [List.mem_singleton.mp hg]
      rfl
    · have := (List.getElem?_eq_some_iff.mp hy).1
      have : q < 1 := this
      omega
    · rw [List.mem_singleton.mp hg]
      exact .inl w0
  | i + 1, hi => by
    obtain ⟨a, ha⟩ : ∃ a, (ord (nbr L D) n)[i]? = some a := ⟨_, List.getElem?_eq_getElem (by omega)⟩
    obtain ⟨q1, q2, q3, q4, q5, q6⟩ := fw_all h h1 h4 n1 i (by omega)
    have hnb := h.nbr
    obtain ⟨hin, hat, _⟩ := ord_at n1 hnb ha
    have hmem := List.mem_of_getElem? hat
    obtain ⟨a0, a1⟩ := (ord_in n1 hnb i).1 a hmem
    have f : Fi L D (fwAll L D ((ord (nbr L D) n).take i)) (ord (nbr L D) i) a [] := ⟨q1, q2, q3, q4, fun g hg => (q5 a ha g hg).imp id fun ⟨v, s, e, z⟩ => ⟨v, s, e, .inl z⟩⟩
    obtain ⟨f2, k2, o2, d2, n2⟩ := Fi.all h a0 (stL L) [] _ _ f hmem (by rw [List.nil_append]; exact stL_srt h1 h4)
    rw [ord_row hat] at f2 o2 d2 n2
    have eq : fwAll L D ((ord (nbr L D) n).take (i + 1)) = (stL L).foldl (fwStep D a) (fwAll L D ((ord (nbr L D) n).take i)) := by
      rw [take_snoc ha, fwAll_snoc]
      rfl
    rw [eq]
    refine ⟨f2.key, f2.zero, f2.led, f2.asc, fun b hb g hg => ?_, fun j b s hj hb hs => ?_⟩
    · have hb2 : (ord (nbr L D) (i + 1))[i + 1]? = some b := (ord_at n1 hnb hb).2.1
      have ha2 : (ord (nbr L D) (i + 1))[i]? = some a := by
        obtain ⟨t, e⟩ := ord_ext (nbr L D) i
        rw [e, List.getElem?_append_left (List.getElem?_eq_some_iff.mp hat).1]
        exact hat
      have up := f2.asc i (i + 1) a b ha2 hb2 (by omega)
      rcases f2.par g hg with e | ⟨v, s, e, z | ⟨z, _⟩⟩
      · exact .inl e
      · exact .inr ⟨v, s, e, klt_trans z up⟩
      · exact .inr ⟨v, s, e, by rw [z]; exact up⟩
    · by_cases hji : j = i
      · subst hji
        rw [ha] at hb
        cases hb
        exact n2 s hs
      · have hbo : b ∈ ord (nbr L D) i := by
          obtain ⟨_, hbj, _⟩ := ord_at n1 hnb hb
          obtain ⟨t, e⟩ := ord_pre (nbr L D) j (i - j)
          rw [show j + (i - j) = i by omega] at e
          rw [e]
          exact List.mem_append_left _ (List.mem_of_getElem? hbj)
        exact d2 b s hbo (q6 j b s (by omega) hb hs)
end Z
namespace Z
open PySem PySem.Spec L2
theorem ord_fix {L : Int} {n : Nat} {D : Dd} (h : Dr L n D) (n1 : 1 ≤ n) : ord (nbr L D) (ord (nbr L D) n).length = ord (nbr L D) n := by
  have hnb := h.nbr
  have ol := ord_len n1 hnb n
  refine ord_end n1 hnb ol ?_
  refine Classical.byContradiction fun hc => ?_
  obtain ⟨t, et⟩ := ord_pre (nbr L D) (ord (nbr L D) n).length (n - (ord (nbr L D) n).length)
  rw [show (ord (nbr L D) n).length + (n - (ord (nbr L D) n).length) = n by omega] at et
  have := congrArg List.length et
  rw [List.length_append] at this
  omega
theorem fw_least {L : Int} {n : Nat} {D : Dd} (h : Dr L n D) (h1 : 1 ≤ L) (h4 : L ≤ 4) (n1 : 1 ≤ n) {u : List Int} {g : Int} (hu : goW D 0 u = some g) : ∃ w, dGet (fwAll L D (ord (nbr L D) n)) g = some w ∧ goW D 0 w = some g ∧ (w = u ∨ klt w u = true) := by
  obtain ⟨q1, q2, q3, _, _, q6⟩ := fw_all h h1 h4 n1 (ord (nbr L D) n).length (Nat.le_refl _)
  rw [List.take_length, ord_fix h n1] at q1 q3 q6
  rw [List.take_length] at q2
  have key : ∀ (k : Nat) (u : List Int) (g : Int), u.length = k → goW D 0 u = some g → g ∈ ord (nbr L D) n ∧ (wv (fwAll L D (ord (nbr L D) n)) g = u ∨ klt (wv (fwAll L D (ord (nbr L D) n)) g) u = true) := by
    intro k
    induction k with
    | zero =>
      intro u g hl e
      have : u = [] := List.eq_nil_of_length_eq_zero hl
      subst this
      cases e
      exact ⟨(q1 0).mp (by rw [q2]; rfl), .inl (by unfold wv; rw [q2]; rfl)⟩
    | succ k ih =>
      intro u g hl e
      obtain ⟨v, s, rfl⟩ : ∃ v s, u = v ++ [s] := ⟨u.dropLast, u.getLast (by intro z; rw [z] at hl; cases hl), (List.dropLast_concat_getLast _).symm⟩
      rw [List.length_append] at hl
      have hl : v.length + 1 = k + 1 := hl
      rw [goW_app] at e
      cases ev : goW D 0 v with
      | none => rw [ev] at e; cases e
      | some a =>
        rw [ev] at e
        have e : (match go D a s with | some b => goW D b [] | none => none) = some g := e
        cases es : go D a s with
        | none => rw [es] at e; cases e
        | some b =>
          rw [es] at e
          have e : some b = some g := e
          cases e
          obtain ⟨z1, z2⟩ := ih v a (by omega) ev
          obtain ⟨a0, a1⟩ := (ord_in n1 h.nbr n).1 a z1
          obtain ⟨j, hj⟩ := List.mem_iff_getElem?.mp z1
          obtain ⟨y1, y2⟩ := q6 j a s (List.getElem?_eq_some_iff.mp hj).1 hj (mem_stL.mpr (h.ok a s g a0 es).2.2.1) g es
          refine ⟨y1, ?_⟩
          rcases z2 with z2 | z2
          · rw [z2] at y2
            exact y2
          · rcases y2 with y2 | y2
            · exact .inr (by rw [y2]; exact klt_snoc s s z2)
            · exact .inr (klt_trans y2 (klt_snoc s s z2))
  obtain ⟨z1, z2⟩ := key u.length u g rfl hu
  obtain ⟨w, ew⟩ := Option.isSome_iff_exists.mp ((q1 g).mpr z1)
  have e : wv (fwAll L D (ord (nbr L D) n)) g = w := by unfold wv; rw [ew]; rfl
  have := q3 g z1
  rw [e] at z2 this
  exact ⟨w, ew, this, z2⟩
theorem fl_full : ∀ (w s : List Int), (fl s w).length = s.length + w.length → fl s w = w.reverse ++ s
  | [], s, _ => rfl
  | x :: w, s, h => by
    have e : fl s (x :: w) = fl (psh s x) w := rfl
    have h2 := fl_len w (psh s x)
    have h3 := psh_len s x
    rw [e, List.length_cons] at h
    have hp : psh s x = x :: s := by
      cases s with
      | nil => rfl
      | cons y s =>
        by_cases hy : y = -x
        · have e1 : psh (y :: s) x = s := if_pos hy
          rw [e1] at h h2
          rw [List.length_cons] at h
          omega
        · exact if_neg hy
    rw [e, hp]
    rw [hp] at h
    rw [fl_full w (x :: s) (by rw [h, List.length_cons]; omega), List.reverse_cons, List.append_assoc]
    rfl
theorem red_same {w : List Int} (h : (red w).length = w.length) : red w = w := by
  unfold red at h ⊢
  rw [List.length_reverse] at h
  rw [fl_full w [] (by rw [h]; exact (Nat.zero_add _).symm), List.append_nil, List.reverse_reverse]
theorem goW_red {L : Int} {n : Nat} {D : Dd} (h : Dr L n D) (n1 : 1 ≤ n) {w : List Int} {g : Int} (e : goW D 0 w = some g) : goW D 0 (red w) = some g := by
  have hs := goW_sok h w 0 g (Int.le_refl _) e
  have ha := goW_act w 0 g e
  rw [← act_red h (home_pc h n1) (sok_nz hs)] at ha
  have := act_goW (D := D) (red w) 0 (red_gd w)
  cases e2 : goW D 0 (red w) with
  | none =>
    rw [e2] at this
    exact absurd (by rw [ha]) this
  | some b =>
    rw [e2, ha] at this
    have : g = b := congrArg (fun q : Int × List Int => q.1) this
    rw [this]
/-- the first way of a room: straight, leads there, is the least that does -/
theorem first_way {L : Int} {n : Nat} {D : Dd} (h : Dr L n D) (h1 : 1 ≤ L) (h4 : L ≤ 4) (n1 : 1 ≤ n) {u : List Int} {g : Int} (hu : goW D 0 u = some g) : ∃ w, dGet (fwAll L D (ord (nbr L D) n)) g = some w ∧ goW D 0 w = some g ∧ Gd w ∧ (∀ x ∈ w, Sok L x) ∧ ∀ v, goW D 0 v = some g → w = v ∨ klt w v = true := by
  obtain ⟨w, e, l, _⟩ := fw_least h h1 h4 n1 hu
  have least : ∀ v, goW D 0 v = some g → w = v ∨ klt w v = true := fun v hv => by
    obtain ⟨w', e', _, q⟩ := fw_least h h1 h4 n1 hv
    rw [e] at e'
    cases e'
    exact q
  refine ⟨w, e, l, ?_, goW_sok h w 0 g (Int.le_refl _) l, least⟩
  have hr : w = red w := by
    rcases least (red w) (goW_red h n1 l) with q | q
    · exact q
    · have hl := red_len w
      by_cases c : w.length = (red w).length
      · exact (red_same c.symm).symm
      · rw [klt_len c, decide_eq_true_eq] at q
        omega
  rw [hr]
  exact red_gd w
end Z
namespace Z
open PySem PySem.Spec L2
theorem goW_cons_some {D : Dd} {a s b : Int} {w : List Int} (e : go D a s = some b) : goW D a (s :: w) = goW D b w := by
  show (match go D a s with | some b => goW D b w | none => none) = _
  rw [e]
theorem goW_cons_none {D : Dd} {a s : Int} {w : List Int} (e : go D a s = none) : goW D a (s :: w) = none := by
  show (match go D a s with | some b => goW D b w | none => none) = _
  rw [e]
end Z
namespace Z
open PySem PySem.Spec L2
structure TrA (L : Int) (n : Nat) (home : Int) (D0 D : Dd) : Prop where
  dr : Dr L n D
  sub : ∀ a s b, 0 ≤ a → go D a s = some b → go D0 a s = some b
  lo : ∀ w, Gd w → goW D0 home w = some home → goW D home w = some home
theorem TrA.del {L : Int} {n : Nat} {home : Int} (hh : 0 ≤ home) {D0 D : Dd} {r k g : Int} (T : TrA L n home D0 D) (r0 : 0 ≤ r) (r1 : r < n) (rh : r ≠ home) (hr : row D r = [(k, g)]) :
    TrA L n home D0 (delD D r k g) ∧ neR n (delD D r k g) < neR n D ∧ g ≠ r ∧ go D r k = some g ∧ delD D r k g = setI (setI D g (dDel (row D g) (-k))) r [] := by
  have r2 : r < D.length := by rw [T.dr.len]; exact r1
  have hg : go D r k = some g := by
    unfold go
    rw [hr, dGet_cons, if_pos rfl]
  obtain ⟨g0, g1, sk, hb⟩ := T.dr.ok r k g r0 hg
  have gl' : g < D.length := by rw [T.dr.len]; exact g1
  have hgr : g ≠ r := fun z => by
    subst z
    unfold go at hb
    rw [hr, dGet_cons] at hb
    have := sk.1
    rw [if_neg (by omega)] at hb
    cases hb
  have hD : delD D r k g = setI (setI D g (dDel (row D g) (-k))) r [] := by
    unfold delD
    rw [row_set r0 r2 g0, if_neg (Ne.symm hgr), hr]
    rw [show dDel [(k, g)] k = [] from by simp [dDel]]
    exact setI_comm r0 r2 g0 gl' (Ne.symm hgr) _ _
  have rw1 : ∀ x : Int, 0 ≤ x → row (delD D r k g) x = if x = g then dDel (row D g) (-k) else if x = r then [] else row D x := fun x x0 => by
    unfold delD
    rw [row_set g0 (by rw [setI_len]; exact gl') x0, row_set r0 r2 g0, if_neg (Ne.symm hgr), row_set r0 r2 x0, hr]
    by_cases e1 : x = g
    · rw [if_pos e1.symm, if_pos e1]
    · rw [if_neg (fun z => e1 z.symm), if_neg e1]
      by_cases e2 : x = r
      · rw [if_pos e2.symm, if_pos e2]
        simp [dDel]
      · rw [if_neg (fun z => e2 z.symm), if_neg e2]
  refine ⟨⟨T.dr.del r0 hg, fun a s b a0 hx => ?_, fun w gw hw => loops_del T.dr r0 rh hr w home hh (Ne.symm rh) gw (T.lo w gw hw)⟩, ?_, hgr, hg, hD⟩
  · rw [go_del r0 r2 g0 gl' sk.1 a0] at hx
    split at hx
    · cases hx
    · exact T.sub a s b a0 hx
  · refine flt_lt (g := r) (fun x hx hp => ?_) (mem_rng'.mpr ⟨r0, r1⟩) ?_ (by simp [hr])
    · have x0 := (mem_rng hx).1
      rw [rw1 x x0] at hp
      refine decide_eq_true fun z => ?_
      have hp := of_decide_eq_true hp
      split at hp
      · rename_i e1
        rw [e1] at z
        rw [z] at hp
        exact hp rfl
      · split at hp
        · exact hp rfl
        · exact hp z
    · rw [rw1 r r0, if_neg (Ne.symm hgr), if_pos rfl]
      simp
end Z
namespace Z
open PySem PySem.Spec L2
theorem iv_sok {L : Int} {u : List Int} (h : ∀ x ∈ u, Sok L x) : ∀ x ∈ iv u, Sok L x := fun x hx => by
  obtain ⟨y, hy, rfl⟩ := List.mem_map.mp hx
  exact (h y (List.mem_reverse.mp hy)).neg
theorem cell_app {rows : List (List Int)} {i j : Nat} {x : Int} (hj : j < rows.length) (hr : (rows.getD j []).length = i) {a l : Int} (a0 : 0 ≤ a) (l0 : 0 ≤ l) : cell (rows.set j (rows.getD j [] ++ [x])) a l = if a = j ∧ l = i then x else cell rows a l := by
  unfold cell
  rw [getD_set' rows j a.toNat _ [] hj]
  by_cases ea : a = j
  · have e1 : j = a.toNat := by omega
    rw [if_pos e1, ← e1]
    generalize rows.getD j [] = r at hr ⊢
    by_cases el : l = i
    · rw [if_pos ⟨ea, el⟩, List.getD_eq_getElem?_getD, List.getElem?_append_right (by omega)]
      rw [show l.toNat - r.length = 0 by omega]
      rfl
    · rw [if_neg (fun z => el z.2)]
      by_cases lt : l.toNat < i
      · rw [List.getD_eq_getElem?_getD, List.getD_eq_getElem?_getD, List.getElem?_append_left (by omega)]
      · rw [List.getD_eq_getElem?_getD, List.getD_eq_getElem?_getD, List.getElem?_eq_none (by rw [List.length_append]; show _ + 1 ≤ _; omega), List.getElem?_eq_none (by omega)]
  · rw [if_neg (by omega), if_neg (fun z => ea z.1)]
structure Dw (N i j : Nat) (rows : List (List Int)) (free : List Int) : Prop where
  len : rows.length = N
  rl : ∀ a : Nat, a < N → (rows.getD a []).length = if a < j then i + 1 else i
  cb : ∀ a l : Int, 0 ≤ a → 0 ≤ l → -1 ≤ cell rows a l ∧ cell rows a l < N
  one : ∀ a b l k : Int, 0 ≤ a → 0 ≤ b → 0 ≤ l → 0 ≤ k → cell rows a l = k → cell rows b l = k → a = b
  fd : free.Nodup
  fr : ∀ x ∈ free, 0 ≤ x ∧ x < N
  fo : ∀ a : Int, 0 ≤ a → cell rows a i ∉ free
  fl : N ≤ free.length + j
  fu : free.length ≤ N
theorem Dw.step {N i j : Nat} {rows : List (List Int)} {free : List Int} (D : Dw N i j rows free) (hj : j < N) {x : Int} {free' : List Int} (hx : -1 ≤ x ∧ x < N) (h1 : ∀ a : Int, 0 ≤ a → 0 ≤ x → cell rows a i ≠ x) (h2 : free'.Nodup) (h3 : ∀ y ∈ free', y ∈ free ∧ y ≠ x) (h4 : free.length ≤ free'.length + 1) (h5 : free'.length ≤ free.length) : Dw N i (j + 1) (rows.set j (rows.getD j [] ++ [x])) free' := by
  have hl := D.len
  have hr := D.rl j hj
  rw [if_neg (by omega)] at hr
  have ce := fun {a l : Int} (a0 : 0 ≤ a) (l0 : 0 ≤ l) => cell_app (x := x) (show j < rows.length by omega) hr a0 l0
  refine ⟨by rw [List.length_set]; exact hl, fun a ha => ?_, fun a l a0 l0 => ?_, fun a b l k a0 b0 l0 k0 e1 e2 => ?_, h2, fun y hy => D.fr y (h3 y hy).1, fun a a0 => ?_, by have := D.fl; omega, by have := D.fu; omega⟩
  · rw [getD_set' rows j a _ [] (by omega)]
    by_cases e : j = a
    · rw [if_pos e, List.length_append, hr, if_pos (by omega)]
      rfl
    · rw [if_neg e, D.rl a ha]
      by_cases q : a < j
      · rw [if_pos q, if_pos (by omega)]
      · rw [if_neg q, if_neg (by omega)]
  · rw [ce a0 l0]
    split
    · exact hx
    · exact D.cb a l a0 l0
  · rw [ce a0 l0] at e1
    rw [ce b0 l0] at e2
    by_cases q1 : a = j ∧ l = i
    · rw [if_pos q1] at e1
      by_cases q2 : b = j ∧ l = i
      · exact q1.1.trans q2.1.symm
      · rw [if_neg q2] at e2
        exfalso
        refine h1 b b0 (by omega) ?_
        rw [← q1.2, e2, e1]
    · rw [if_neg q1] at e1
      by_cases q2 : b = j ∧ l = i
      · rw [if_pos q2] at e2
        exfalso
        refine h1 a a0 (by omega) ?_
        rw [← q2.2, e1, e2]
      · rw [if_neg q2] at e2
        exact D.one a b l k a0 b0 l0 k0 e1 e2
  · rw [ce a0 (by omega)]
    split
    · exact fun z => (h3 x z).2 rfl
    · exact fun z => D.fo a a0 (h3 _ z).1
theorem Dw.next {N i : Nat} {rows : List (List Int)} {free : List Int} (D : Dw N i N rows free) : Dw N (i + 1) 0 rows (range' 0 (N : Int)) := by
  have hl := D.len
  refine ⟨hl, fun a ha => ?_, D.cb, D.one, rng_nd _ _, fun x hx => mem_rng hx, fun a a0 z => ?_, by rw [rng_len]; omega, by rw [rng_len]; omega⟩
  · rw [D.rl a ha, if_pos ha, if_neg (Nat.not_lt_zero _)]
  · have : cell rows a ((i + 1 : Nat) : Int) = -1 := by
      refine cell_out ?_
      by_cases h : a.toNat < N
      · refine .inr fun r hr => ?_
        have := D.rl a.toNat h
        rw [if_pos h, List.getD_eq_getElem?_getD, hr] at this
        have this : r.length = i + 1 := this
        omega
      · exact .inl (by omega)
    rw [this] at z
    have := (mem_rng z).1
    omega
theorem web_nothing {L : Int} (h1 : 1 ≤ L) (h4 : L ≤ 4) : ∃ E, Web L [List.replicate L.toNat (-1)] E := web_none h1 h4
theorem web_whole {L : Int} (h1 : 1 ≤ L) (h4 : L ≤ 4) : ∃ E, Web L [List.replicate L.toNat 0] E := by
  have key : ∀ {L : Int} (D : Dd), 1 ≤ L → L ≤ 4 → Dr L 1 D → ((ord (nbr L D) 1).map fun a => (range' 1 (L + 1)).map (cellF D (ord (nbr L D) 1) a)) = [List.replicate L.toNat 0] → ∃ E, Web L [List.replicate L.toNat 0] E := fun D l1 l4 h e => by
    obtain ⟨E, hE⟩ := web_of_doors h l1 l4 (Nat.le_refl 1) (by decide) (fun a a1 a2 => by omega)
    rw [e] at hE
    exact ⟨E, hE⟩
  have dr : ∀ {L : Int}, 1 ≤ L → L ≤ 4 → Dr L 1 [(stL L).map fun s => (s, (0 : Int))] := fun {L} l1 l4 => by
    refine ⟨rfl, fun d hd => ?_, fun a s b a0 hg => ?_⟩
    · rw [List.mem_singleton.mp hd, List.map_map]
      have : ((stL L).map (Prod.fst ∘ fun s => (s, (0 : Int)))) = stL L := by
        rw [show (Prod.fst ∘ fun s : Int => (s, (0 : Int))) = id from rfl, List.map_id]
      rw [this]
      exact stL_nd l1 l4
    · have ha := go_lt a0 hg
      have ha : a = 0 := by
        have : a < 1 := ha
        omega
      subst ha
      have hm := dGet_mem hg
      have hm : (s, b) ∈ (stL L).map fun s => (s, (0 : Int)) := hm
      obtain ⟨t, ht, e⟩ := List.mem_map.mp hm
      cases e
      refine ⟨Int.le_refl _, by decide, mem_stL.mp ht, ?_⟩
      refine mem_dGet (d := (stL L).map fun s => (s, (0 : Int))) ?_ (List.mem_map.mpr ⟨-s, mem_stL.mpr (mem_stL.mp ht).neg, rfl⟩)
      rw [List.map_map, show (Prod.fst ∘ fun s : Int => (s, (0 : Int))) = id from rfl, List.map_id]
      exact stL_nd l1 l4
  refine key _ h1 h4 (dr h1 h4) ?_
  exact four (P := fun L => ((ord (nbr L [(stL L).map fun s => (s, (0 : Int))]) 1).map fun a => (range' 1 (L + 1)).map (cellF [(stL L).map fun s => (s, (0 : Int))] (ord (nbr L [(stL L).map fun s => (s, (0 : Int))]) 1) a)) = [List.replicate L.toNat 0]) h1 h4 (by decide) (by decide) (by decide) (by decide)
end Z
namespace Z
open PySem PySem.Spec L2
def Q_ways_of (web : (Int × (List (List Int)))) : Option (List (Tri Int Int Int)) :=
  ((lp (fun (s1 : (List (Tri Int Int Int))) (x2 : (Int × (List Int))) => ((lcF (fun (x6 : (Int × Int)) => (decide (0 ≤ x6.2))) (fun (x6 : (Int × Int)) => (Tri.mk x2.1 (x6.1 + 1) x6.2)) (enum x2.2)).bind fun t8 => (catO (α := (Tri Int Int Int)) s1 t8).bind fun t9 => some t9)) (enum web.2) ([] : (List (Tri Int Int Int)))).bind fun f3 => some f3)
def wysL (rows : List (List Int)) : List (Tri Int Int Int) := (enum rows).flatMap fun x => ((enum x.2).filter fun y => decide (0 ≤ y.2)).map fun y => Tri.mk x.1 (y.1 + 1) y.2
def wy (rows : List (List Int)) : Nat := (rows.map fun r => (r.filter fun x => decide (0 ≤ x)).length).sum
theorem enum_snd {α : Type} (xs : List α) : (enum xs).map Prod.snd = xs := by
  unfold enum
  rw [List.map_map]
  exact (List.map_congr_left fun _ _ => rfl).trans (List.zipIdx_map_fst 0 xs)
theorem flt_map_len {α β : Type} (f : α → β) (p : β → Bool) : ∀ l : List α, ((l.map f).filter p).length = (l.filter fun x => p (f x)).length
  | [] => rfl
  | x :: l => by
    rw [List.map_cons, List.filter_cons, List.filter_cons]
    split <;> simp [flt_map_len f p l]
theorem wysL_len (rows : List (List Int)) : (wysL rows).length = wy rows := by
  unfold wysL wy
  rw [List.length_flatMap]
  have : ∀ l : List (Int × List Int), (l.map fun x => (((enum x.2).filter fun y => decide (0 ≤ y.2)).map fun y => Tri.mk x.1 (y.1 + 1) y.2).length) = (l.map Prod.snd).map fun r => (r.filter fun x => decide (0 ≤ x)).length := fun l => by
    rw [List.map_map]
    refine List.map_congr_left fun x _ => ?_
    rw [List.length_map]
    show _ = (x.2.filter fun x => decide (0 ≤ x)).length
    conv => rhs; rw [← enum_snd x.2]
    rw [flt_map_len]
  rw [this, enum_snd]
theorem flat_take {α β : Type} (f : α → List β) {l : List α} {i : Nat} {x : α} (h : l[i]? = some x) : (l.take (i + 1)).flatMap f = (l.take i).flatMap f ++ f x := by
  rw [List.take_add_one, h, List.flatMap_append]
  show _ ++ ([x].flatMap f) = _
  rw [List.flatMap_cons, List.flatMap_nil, List.append_nil]
theorem ways_of_ok {L : Int} {rows : List (List Int)} (R : Reg L rows) (hn : rows.length ≤ 1000) : Q_ways_of (L, rows) = some (wysL rows) := by
  have l4 := R.l4
  obtain ⟨s, e, hs, _⟩ := lp_goN (f := fun (s1 : (List (Tri Int Int Int))) (x2 : (Int × (List Int))) => ((lcF (fun (x6 : (Int × Int)) => (decide (0 ≤ x6.2))) (fun (x6 : (Int × Int)) => (Tri.mk x2.1 (x6.1 + 1) x6.2)) (enum x2.2)).bind fun t8 => (catO (α := (Tri Int Int Int)) s1 t8).bind fun t9 => some t9)) (xs := enum rows)
    (fun i s => s = ((enum rows).take i).flatMap (fun x => ((enum x.2).filter fun y => decide (0 ≤ y.2)).map fun y => Tri.mk x.1 (y.1 + 1) y.2) ∧ s.length ≤ 4 * i) (fun i x s hx ⟨hs, hl⟩ => by
      have hi := (List.getElem?_eq_some_iff.mp hx).1
      rw [enum_len] at hi
      obtain ⟨_, h2⟩ := enum_get hx
      have hr := R.rl x.2 (List.mem_of_getElem? h2)
      have hf : (((enum x.2).filter fun y => decide (0 ≤ y.2)).map fun y => Tri.mk x.1 (y.1 + 1) y.2).length ≤ 4 := by
        rw [List.length_map]
        refine Nat.le_trans (List.length_filter_le _ _) ?_
        rw [enum_len, hr]
        omega
      refine ⟨s ++ (((enum x.2).filter fun y => decide (0 ≤ y.2)).map fun y => Tri.mk x.1 (y.1 + 1) y.2), bindS (if_pos (by rw [enum_len, hr, sizeL]; omega)) (bindS (cat_ok (by rw [sizeL]; omega)) rfl), ?_, by rw [List.length_append]; omega⟩
      rw [flat_take _ hx, ← hs]) (s0 := []) ⟨rfl, Nat.le_refl _⟩
  rw [List.take_length] at hs
  unfold Q_ways_of
  rw [show wysL rows = s from hs.symm]
  exact bindS e rfl
theorem cell_at {rows : List (List Int)} {a l : Nat} {r : List Int} (hr : rows[a]? = some r) (hl : l < r.length) : cell rows (a : Int) (l : Int) = r[l] := by
  unfold cell
  rw [Int.toNat_natCast, Int.toNat_natCast, List.getD_eq_getElem?_getD, List.getD_eq_getElem?_getD, hr]
  show (r[l]?).getD (-1) = _
  rw [List.getElem?_eq_getElem hl]
  rfl
theorem row_cells {L : Int} {rows : List (List Int)} (R : Reg L rows) {a : Nat} {r : List Int} (hr : rows[a]? = some r) : r = (range' 1 (L + 1)).map fun l => cell rows (a : Int) (l - 1) := by
  have l1 := R.l1
  have hl := R.rl r (List.mem_of_getElem? hr)
  refine List.ext_getElem? fun i => ?_
  by_cases hi : i < r.length
  · rw [List.getElem?_map]
    unfold range'
    rw [List.getElem?_map, List.getElem?_range (by omega), List.getElem?_eq_getElem hi]
    show some r[i] = some (cell rows (a : Int) (1 + (i : Int) - 1))
    rw [show (1 : Int) + (i : Int) - 1 = (i : Int) by omega, cell_at hr hi]
  · rw [List.getElem?_eq_none (by omega), List.getElem?_eq_none (by rw [List.length_map, rng_len]; omega)]
/-- doors that lead forward, doors that lead back -/
def vF (L : Int) (n : Nat) (E : Dd) : List (Int × Int) := (range' 0 (n : Int)).flatMap fun a => ((range' 1 (L + 1)).filter fun l => (go E a l).isSome).map fun l => (a, l)
theorem rngX_at {n i : Nat} (h : i < n) : (range' 0 (n : Int))[i]? = some (i : Int) := by
  unfold range'
  rw [List.getElem?_map, List.getElem?_range (by omega)]
  show some (0 + (i : Int)) = some (i : Int)
  rw [Int.zero_add]
theorem vF_len {L : Int} {rows : List (List Int)} {E : Dd} (W : Web L rows E) : (vF L rows.length E).length = wy rows := by
  unfold vF wy
  rw [List.length_flatMap]
  congr 1
  refine List.ext_getElem? fun i => ?_
  rw [List.getElem?_map, List.getElem?_map]
  by_cases hi : i < rows.length
  · have hr : rows[i]? = some rows[i] := List.getElem?_eq_getElem hi
    rw [rngX_at hi, hr]
    show some (((range' 1 (L + 1)).filter fun l => (go E (i : Int) l).isSome).map fun l => ((i : Int), l)).length = some (rows[i].filter fun x => decide (0 ≤ x)).length
    rw [List.length_map]
    conv => rhs; rw [row_cells W.reg hr]
    rw [flt_map_len]
    refine congrArg (fun z => some (List.length z)) (List.filter_congr fun l hl => ?_)
    obtain ⟨l1, l2⟩ := mem_rng hl
    have hh := fun y => W.rep.2 (i : Int) l y (by omega) (by omega)
    cases e : go E (i : Int) l with
    | some y =>
      obtain ⟨y0, hc⟩ := (hh y).mp e
      rw [hc]
      simp [y0]
    | none =>
      by_cases z : 0 ≤ cell rows (i : Int) (l - 1)
      · have := (hh _).mpr ⟨z, rfl⟩
        rw [e] at this
        cases this
      · simp [z]
  · have : (range' 0 (rows.length : Int))[i]? = none := List.getElem?_eq_none (by rw [rng_len]; omega)
    rw [this, List.getElem?_eq_none (by omega)]
    rfl
end Z
namespace Z
open PySem PySem.Spec L2
theorem mem_enum {α : Type} {l : List α} {x : Int × α} (h : x ∈ enum l) : ∃ i : Nat, x.1 = (i : Int) ∧ l[i]? = some x.2 := by
  obtain ⟨i, hi⟩ := List.mem_iff_getElem?.mp h
  obtain ⟨a, b⟩ := enum_get hi
  exact ⟨i, a, b⟩
theorem enum_mem {α : Type} {l : List α} {i : Nat} {x : α} (h : l[i]? = some x) : ((i : Int), x) ∈ enum l := by
  have hi := (List.getElem?_eq_some_iff.mp h).1
  have hl : i < (enum l).length := by rw [enum_len]; exact hi
  have e := List.getElem?_eq_getElem hl
  obtain ⟨a, b⟩ := enum_get e
  rw [h] at b
  have : (enum l)[i] = ((i : Int), x) := Prod.ext a (Option.some.inj b).symm
  rw [← this]
  exact List.getElem_mem hl
theorem mem_wysL {L : Int} {rows : List (List Int)} {E : Dd} (W : Web L rows E) {w : Tri Int Int Int} (h : w ∈ wysL rows) : 0 ≤ w.a ∧ w.a < rows.length ∧ 0 < w.b ∧ go E w.a w.b = some w.c := by
  obtain ⟨x, hx, h⟩ := List.mem_flatMap.mp h
  obtain ⟨y, hy, rfl⟩ := List.mem_map.mp h
  obtain ⟨hy, y0⟩ := List.mem_filter.mp hy
  rw [decide_eq_true_eq] at y0
  obtain ⟨i, xi, hi⟩ := mem_enum hx
  obtain ⟨j, yj, hj⟩ := mem_enum hy
  have i1 := (List.getElem?_eq_some_iff.mp hi).1
  obtain ⟨j1, j2⟩ := List.getElem?_eq_some_iff.mp hj
  have hc := cell_at hi j1
  refine ⟨by show 0 ≤ x.1; omega, by show x.1 < _; omega, by show 0 < y.1 + 1; omega, ?_⟩
  refine (W.rep.2 x.1 (y.1 + 1) y.2 (by omega) (by omega)).mpr ⟨y0, ?_⟩
  rw [xi, yj, show (j : Int) + 1 - 1 = (j : Int) by omega, hc]
  exact j2
theorem wysL_mem {L : Int} {rows : List (List Int)} {E : Dd} (W : Web L rows E) {a l b : Int} (a0 : 0 ≤ a) (l0 : 0 < l) (h : go E a l = some b) : Tri.mk a l b ∈ wysL rows := by
  obtain ⟨b0, b1, hs, _⟩ := W.rep.1.ok a l b a0 h
  have a1 := go_lt a0 h
  rw [W.rep.1.len] at a1
  obtain ⟨_, hc⟩ := (W.rep.2 a l b a0 l0).mp h
  obtain ⟨i, rfl⟩ : ∃ i : Nat, a = (i : Int) := ⟨a.toNat, by omega⟩
  obtain ⟨j, hj⟩ : ∃ j : Nat, l = (j : Int) + 1 := ⟨l.toNat - 1, by omega⟩
  have hi : i < rows.length := by omega
  have hr : rows[i]? = some rows[i] := List.getElem?_eq_getElem hi
  have hl := W.reg.rl rows[i] (List.getElem_mem hi)
  have hj1 : j < rows[i].length := by
    have := hs.2.2
    omega
  have hc2 := cell_at hr hj1
  rw [show l - 1 = (j : Int) by omega, hc2] at hc
  refine List.mem_flatMap.mpr ⟨((i : Int), rows[i]), enum_mem hr, List.mem_map.mpr ⟨((j : Int), b), List.mem_filter.mpr ⟨enum_mem (by rw [List.getElem?_eq_getElem hj1, hc]), by simp [b0]⟩, ?_⟩⟩
  rw [hj]
end Z
namespace L13
open PySem PySem.Spec L2 Z
theorem firsts_eq (web : Int × List (List Int)) : m_l_firsts web = C_firsts web := rfl
theorem ways_eq (web : Int × List (List Int)) : m_l_ways web = Q_ways_of web := rfl
theorem ways_eqP (web : Int × List (List Int)) : m_p_ways_of web = Q_ways_of web := rfl
theorem need_eq (web : Int × List (List Int)) : m_p_need_web web = Q_need_web web := rfl
theorem doors_eq (rows : List (List Int)) : m_p_doors_of rows = Q_doors_of rows := rfl
theorem fw_eq (L : Int) (D : Dd) (h : Int) : m_p_first_ways L D h = Q_first_ways L D h := rfl
theorem back_ok {w : List Int} (h : w.length ≤ 100000) : m_l_back w = some (iv w) := by
  unfold m_l_back
  refine bindS (lcT_some _ (by rw [List.length_reverse, sizeL]; omega)) ?_
  unfold iv
  simp only [Int.zero_sub]
theorem turned_ok {w : List Int} (h : w.length ≤ 100000) : m_p_turned_back w = some (iv w) := by
  unfold m_p_turned_back
  exact bindS (lcT_some _ (by rw [List.length_reverse, sizeL]; omega)) rfl
theorem gone_eq (a s b : Int) : m_p_way_gone a s b = some (if 0 < s then Tri.mk a s b else Tri.mk b (-s) a) := by
  unfold m_p_way_gone
  by_cases z : 0 < s
  · rw [if_pos z, if_pos (decide_eq_true z)]
  · rw [if_neg z, if_neg (by simpa using z)]
theorem exElse {α : Type} {c : Prop} [Decidable c] {x y : Option α} {P : α → Prop} (hc : ¬c) (h : ∃ r, y = some r ∧ P r) : ∃ r, (if c then x else y) = some r ∧ P r := by
  rw [if_neg hc]
  exact h
theorem klt_nilR {w : List Int} (h : klt w [] = true) : False := by
  by_cases z : w = []
  · subst z
    rw [klt_irr] at h
    cases h
  · have hl := List.length_pos_iff.mpr z
    rw [klt_len (by show w.length ≠ 0; omega), decide_eq_true_eq] at h
    have h : w.length < 0 := h
    omega
theorem dGet_of_mem {κ β : Type} [DecidableEq κ] : ∀ {d : List (κ × β)}, (d.map Prod.fst).Nodup → ∀ {p : κ × β}, p ∈ d → dGet d p.1 = some p.2
  | [], _, _, h => nomatch h
  | q :: d, nd, p, h => by
    rw [List.map_cons, List.nodup_cons] at nd
    rw [dGet_cons]
    rcases List.mem_cons.mp h with e | e
    · subst e
      rw [if_pos rfl]
    · rw [if_neg fun z => nd.1 (List.mem_map.mpr ⟨p, e, z.symm⟩)]
      exact dGet_of_mem nd.2 e
theorem wysK_le {L : Int} {rows : List (List Int)} {E : Dd} (W : Web L rows E) : (wysL rows).length ≤ 4 * rows.length := by
  have h4 := W.reg.l4
  rw [wysL_len, ← vF_len W]
  unfold vF
  rw [List.length_flatMap]
  have : ∀ l : List Int, (l.map fun a => (((range' 1 (L + 1)).filter fun l => (go E a l).isSome).map fun l => (a, l)).length).sum ≤ 4 * l.length := fun l => by
    induction l with
    | nil => exact Nat.le_refl _
    | cons x l ih =>
      have c := List.length_filter_le (fun l : Int => (go E x l).isSome) (range' 1 (L + 1))
      rw [rng_len] at c
      rw [List.map_cons, List.sum_cons, List.length_cons, List.length_map]
      omega
  have := this (range' 0 (rows.length : Int))
  rw [rng_len] at this
  omega
theorem srt_eq {α : Type} {f : α → Int} : ∀ {u v : List α}, u.Pairwise (fun a b => f a < f b) → v.Pairwise (fun a b => f a < f b) → (∀ x, x ∈ u ↔ x ∈ v) → u = v
  | [], [], _, _, _ => rfl
  | [], y :: v, _, _, h => absurd ((h y).mpr List.mem_cons_self) (by simp)
  | x :: u, [], _, _, h => absurd ((h x).mp List.mem_cons_self) (by simp)
  | x :: u, y :: v, hu, hv, h => by
    obtain ⟨u1, u2⟩ := List.pairwise_cons.mp hu
    obtain ⟨v1, v2⟩ := List.pairwise_cons.mp hv
    have e : x = y := by
      rcases List.mem_cons.mp ((h x).mp List.mem_cons_self) with e | e
      · exact e
      · rcases List.mem_cons.mp ((h y).mpr List.mem_cons_self) with e' | e'
        · exact e'.symm
        · have := v1 x e
          have := u1 y e'
          omega
    subst e
    rw [srt_eq u2 v2 fun z => ?_]
    constructor
    · intro hz
      rcases List.mem_cons.mp ((h z).mp (List.mem_cons_of_mem _ hz)) with e | e
      · subst e
        have := u1 z hz
        omega
      · exact e
    · intro hz
      rcases List.mem_cons.mp ((h z).mpr (List.mem_cons_of_mem _ hz)) with e | e
      · subst e
        have := v1 z hz
        omega
      · exact e
theorem strict_of {u : List T3} (h : u.Pairwise fun a b => cd3 a ≤ cd3 b) (nd : u.Nodup) (hb : ∀ x ∈ u, bd3 x = true) : u.Pairwise fun a b => cd3 a < cd3 b := by
  induction u with
  | nil => exact .nil
  | cons x u ih =>
    obtain ⟨h1, h2⟩ := List.pairwise_cons.mp h
    obtain ⟨n1, n2⟩ := List.nodup_cons.mp nd
    refine List.pairwise_cons.mpr ⟨fun y hy => ?_, ih h2 n2 fun z hz => hb z (List.mem_cons_of_mem _ hz)⟩
    have := h1 y hy
    by_cases e : cd3 x = cd3 y
    · exact absurd (cd3_inj (hb x List.mem_cons_self) (hb y (List.mem_cons_of_mem _ hy)) e ▸ hy) n1
    · omega
theorem enum_pw {α : Type} (l : List α) : (enum l).Pairwise fun a b => a.1 < b.1 := by
  rw [List.pairwise_iff_getElem]
  intro i j hi hj lt
  obtain ⟨a, _⟩ := enum_get (List.getElem?_eq_getElem hi)
  obtain ⟨b, _⟩ := enum_get (List.getElem?_eq_getElem hj)
  rw [a, b]
  omega
theorem dcs_keys {α : Type} [DecidableEq α] : ∀ (xs : List α) (w : List (α × Bool)), ∃ d, dcS (fun way1 => (some (some (way1, true)) : Option (Option (α × Bool)))) xs w = some d ∧ ∀ x, (dGet d x).isSome = true ↔ (dGet w x).isSome = true ∨ x ∈ xs
  | [], w => ⟨w, rfl, fun x => by simp⟩
  | y :: xs, w => by
    obtain ⟨d, e, h⟩ := dcs_keys xs (dPut w y true)
    refine ⟨d, bindS rfl e, fun x => ?_⟩
    rw [h, dGet_put]
    by_cases q : y = x
    · subst q
      simp
    · rw [if_neg q, List.mem_cons]
      constructor
      · rintro (z | z)
        · exact .inl z
        · exact .inr (.inr z)
      · rintro (z | z | z)
        · exact .inl z
        · exact absurd z.symm q
        · exact .inr z
section
variable {L : Int} {rows : List (List Int)} {E : Dd} (W : Web L rows E) (h14 : rows.length ≤ 14)
include W h14
abbrev wsA (L : Int) (rows : List (List Int)) (E : Dd) : List (Int × List Int) := fwAll L E (ord (nbr L E) rows.length)
theorem ws_nd : ((wsA L rows E).map Prod.fst).Nodup := by
  have one : ∀ (a s : Int) (ws : List (Int × List Int)), (ws.map Prod.fst).Nodup → ((fwStep E a ws s).map Prod.fst).Nodup := fun a s ws h => by
    unfold fwStep
    split
    · exact h
    · split
      · exact h
      · exact dPut_nd h _ _
  have row : ∀ (ss : List Int) (a : Int) (ws : List (Int × List Int)), (ws.map Prod.fst).Nodup → ((ss.foldl (fwStep E a) ws).map Prod.fst).Nodup := fun ss a => by
    induction ss with
    | nil => exact fun _ h => h
    | cons s ss ih => exact fun ws h => ih _ (one a s ws h)
  have all : ∀ (l : List Int) (ws : List (Int × List Int)), (ws.map Prod.fst).Nodup → ((l.foldl (fwRow L E) ws).map Prod.fst).Nodup := fun l => by
    induction l with
    | nil => exact fun _ h => h
    | cons a l ih => exact fun ws h => ih _ (row _ a ws h)
  exact all _ _ (by simp)
/-- the first way to a room -/
theorem ws_at {a : Int} (a0 : 0 ≤ a) (a1 : a < rows.length) : ∃ w, dGet (wsA L rows E) a = some w ∧ goW E 0 w = some a ∧ (∀ x ∈ w, Sok L x) ∧ w.length ≤ 14 ∧ ∀ v, goW E 0 v = some a → w = v ∨ klt w v = true := by
  obtain ⟨u, hu⟩ := room_walk W a0 a1
  obtain ⟨w, e, g, _, s, l⟩ := first_way W.rep.1 W.reg.l1 W.reg.l4 W.n1 hu
  have F := (first_waysW_ok W.rep.1 W.reg.l1 W.reg.l4 W.n1 W.n9).2
  have := (F.2.2 a w e).2
  exact ⟨w, e, g, s, by omega, l⟩
theorem ws_in {a : Int} {w : List Int} (h : dGet (wsA L rows E) a = some w) : 0 ≤ a ∧ a < rows.length := by
  have F := (first_waysW_ok W.rep.1 W.reg.l1 W.reg.l4 W.n1 W.n9).2
  have hm := (F.1 a).mp (by rw [h]; rfl)
  rw [W.bfs] at hm
  exact mem_rng hm
theorem ws_zero {w : List Int} (h : dGet (wsA L rows E) 0 = some w) : w = [] := by
  have n1 := W.n1
  obtain ⟨w', e, _, _, _, l⟩ := ws_at W h14 (a := 0) (Int.le_refl _) (by omega)
  rw [e] at h
  cases h
  rcases l [] rfl with z | z
  · exact z
  · exact (klt_nilR z).elim
/-- each way but () goes on from another first way -/
theorem ws_step {b : Int} {w : List Int} (h : dGet (wsA L rows E) b = some w) (hb : b ≠ 0) : ∃ a s v, w = v ++ [s] ∧ dGet (wsA L rows E) a = some v ∧ go E a s = some b ∧ 0 ≤ a := by
  obtain ⟨b0, b1⟩ := ws_in W h14 h
  obtain ⟨w', e, g, _, _, l⟩ := ws_at W h14 b0 b1
  rw [h] at e
  cases e
  obtain ⟨v, s, rfl⟩ : ∃ v s, w = v ++ [s] := by
    rcases List.eq_nil_or_concat w with z | ⟨a, s, z⟩
    · subst z
      cases g
      exact absurd rfl hb
    · exact ⟨a, s, by rw [z, List.concat_eq_append]⟩
  rw [goW_app] at g
  obtain ⟨a, g1, g2⟩ := Option.bind_eq_some_iff.mp g
  have g3 : go E a s = some b := by
    cases q : go E a s with
    | none => rw [goW_cons_none q] at g2; cases g2
    | some c => rw [goW_cons_some q] at g2; exact g2
  have n1 := W.n1
  obtain ⟨a0, a1⟩ := goW_in W.rep.1 v 0 (Int.le_refl _) (by omega) a g1
  obtain ⟨m, em, gm, _, _, lm⟩ := ws_at W h14 a0 a1
  have gmb : goW E 0 (m ++ [s]) = some b := by
    rw [goW_app, gm]
    show goW E a [s] = some b
    rw [goW_cons_some g3]
    rfl
  refine ⟨a, s, v, rfl, ?_, g3, a0⟩
  rcases lm v g1 with z | z
  · rw [← z]; exact em
  · rcases l (m ++ [s]) gmb with q | q
    · have : v = m := (List.append_inj' q rfl).1
      rw [this]; exact em
    · have := klt_asym (klt_snoc s s z)
      rw [this] at q
      cases q
/-- the way on the tree to a room -/
def twOf (a s b : Int) : T3 := if 0 < s then Tri.mk a s b else Tri.mk b (-s) a
def Tw (L : Int) (rows : List (List Int)) (E : Dd) (b : Int) (t : T3) : Prop := ∃ a s v, dGet (wsA L rows E) b = some (v ++ [s]) ∧ dGet (wsA L rows E) a = some v ∧ go E a s = some b ∧ 0 ≤ a ∧ t = twOf a s b
theorem tw_in {b : Int} {t : T3} (h : Tw L rows E b t) : t ∈ wysL rows ∧ (0 ≤ t.a ∧ t.a < rows.length) ∧ (0 < t.b ∧ t.b ≤ 4) ∧ 0 ≤ t.c ∧ t.c < rows.length := by
  obtain ⟨a, s, v, e1, e2, g, a0, rfl⟩ := h
  obtain ⟨b0, b1, hs, gb⟩ := W.rep.1.ok a s b a0 g
  have h4 := W.reg.l4
  obtain ⟨_, a1⟩ := ws_in W h14 e2
  unfold twOf
  by_cases z : 0 < s
  · rw [if_pos z]
    exact ⟨wysL_mem W a0 z g, ⟨a0, a1⟩, ⟨z, by have := hs.2.2; show s ≤ 4; omega⟩, b0, b1⟩
  · rw [if_neg z]
    have := hs.1
    exact ⟨wysL_mem W b0 (by omega) gb, ⟨b0, b1⟩, ⟨by show 0 < -s; omega, by have := hs.2.1; show -s ≤ 4; omega⟩, a0, a1⟩
theorem tw_one {b b' : Int} {t : T3} (h : Tw L rows E b t) (h' : Tw L rows E b' t) : b = b' := by
  obtain ⟨a, s, v, e1, e2, g, _, rfl⟩ := h
  obtain ⟨a', s', v', e1', e2', g', _, e⟩ := h'
  have sw : ∀ {a b a' b' : Int} {v v' : List Int} {s s' : Int}, dGet (wsA L rows E) b = some (v ++ [s]) → dGet (wsA L rows E) a = some v → dGet (wsA L rows E) b' = some (v' ++ [s']) → dGet (wsA L rows E) a' = some v' → a = b' → b = a' → False := fun h1 h2 h3 h4 q1 q2 => by
    subst q1 q2
    rw [h1] at h4
    rw [h2] at h3
    cases h4
    have := congrArg (fun o : Option (List Int) => (o.getD []).length) h3
    simp at this
  unfold twOf at e
  by_cases z : 0 < s
  · rw [if_pos z] at e
    by_cases z' : 0 < s'
    · rw [if_pos z'] at e
      injection e
    · rw [if_neg z'] at e
      injection e with q1 q2 q3
      exact (sw e1 e2 e1' e2' q1 q3).elim
  · rw [if_neg z] at e
    by_cases z' : 0 < s'
    · rw [if_pos z'] at e
      injection e with q1 q2 q3
      exact (sw e1 e2 e1' e2' q3 q1).elim
    · rw [if_neg z'] at e
      injection e
/-- what the law asks of a way of the tree -/
def onT (L : Int) (rows : List (List Int)) (E : Dd) (t : T3) : Bool := decide (dGet (wsA L rows E) t.c = (dGet (wsA L rows E) t.a).map fun v => v ++ [t.b]) || decide (dGet (wsA L rows E) t.a = (dGet (wsA L rows E) t.c).map fun v => v ++ [0 - t.b])
def trT (L : Int) (rows : List (List Int)) (E : Dd) : List T3 := (wysL rows).filter (onT L rows E)
theorem tw_on {t : T3} : (∃ b, Tw L rows E b t) ↔ t ∈ trT L rows E := by
  unfold trT
  rw [List.mem_filter]
  constructor
  · rintro ⟨b, h⟩
    refine ⟨(tw_in W h14 h).1, ?_⟩
    obtain ⟨a, s, v, e1, e2, g, _, rfl⟩ := h
    unfold onT twOf
    by_cases z : 0 < s
    · rw [if_pos z]
      simp [e1, e2]
    · rw [if_neg z]
      have : (0 : Int) - -s = s := by omega
      simp [e1, e2, this]
  · rintro ⟨hm, ho⟩
    obtain ⟨a0, a1, l0, hg⟩ := mem_wysL W hm
    obtain ⟨c0, c1, hs, hb⟩ := W.rep.1.ok _ _ _ a0 hg
    obtain ⟨u, eu, _⟩ := ws_at W h14 a0 a1
    obtain ⟨v, ev, _⟩ := ws_at W h14 c0 c1
    unfold onT at ho
    rw [eu, ev, Bool.or_eq_true, decide_eq_true_eq, decide_eq_true_eq] at ho
    rcases ho with e | e
    · have e : v = u ++ [t.b] := Option.some.inj e
      subst e
      exact ⟨t.c, t.a, t.b, u, ev, eu, hg, a0, by unfold twOf; rw [if_pos l0]⟩
    · have e : u = v ++ [0 - t.b] := Option.some.inj e
      subst e
      refine ⟨t.a, t.c, 0 - t.b, v, eu, ev, by rw [Int.zero_sub]; exact hb, c0, ?_⟩
      unfold twOf
      rw [if_neg (by omega), Int.zero_sub, Int.neg_neg]
theorem wys_srt : (wysL rows).Pairwise fun a b => cd3 a < cd3 b := by
  have n9 := W.n9
  have h4 := W.reg.l4
  unfold wysL
  have inR : ∀ x : Int × List Int, x ∈ enum rows → ∀ t ∈ ((enum x.2).filter fun y => decide (0 ≤ y.2)).map fun y => Tri.mk x.1 (y.1 + 1) y.2, t.a = x.1 ∧ 0 ≤ t.b ∧ t.b ≤ 10 ∧ 0 ≤ t.c ∧ t.c < 1000 := fun x hx t ht => by
    obtain ⟨y, hy, rfl⟩ := List.mem_map.mp ht
    obtain ⟨hy, y0⟩ := List.mem_filter.mp hy
    rw [decide_eq_true_eq] at y0
    obtain ⟨i, xi, hi⟩ := mem_enum hx
    obtain ⟨j, yj, hj⟩ := mem_enum hy
    have rm := List.mem_of_getElem? hi
    have rl := W.reg.rl x.2 rm
    have jl := (List.getElem?_eq_some_iff.mp hj).1
    have rb := W.reg.rb x.2 rm y.2 (List.mem_of_getElem? hj)
    exact ⟨rfl, by show 0 ≤ y.1 + 1; omega, by show y.1 + 1 ≤ 10; omega, y0, by show y.2 < 1000; omega⟩
  refine List.pairwise_flatMap.mpr ⟨fun x hx => ?_, ?_⟩
  · refine List.pairwise_map.mpr (((enum_pw x.2).filter _).imp_of_mem fun {p q} hp hq lt => ?_)
    have a := inR x hx _ (List.mem_map.mpr ⟨p, hp, rfl⟩)
    have b := inR x hx _ (List.mem_map.mpr ⟨q, hq, rfl⟩)
    unfold cd3
    obtain ⟨_, a1, a2, a3, a4⟩ := a
    obtain ⟨_, b1, b2, b3, b4⟩ := b
    have a3 : 0 ≤ p.2 := a3
    have a4 : p.2 < 1000 := a4
    have b3 : 0 ≤ q.2 := b3
    show (x.1 * 1000000 + (p.1 + 1)) * 1000000 + p.2 < (x.1 * 1000000 + (q.1 + 1)) * 1000000 + q.2
    omega
  · refine (enum_pw rows).imp_of_mem fun {x y} hx hy lt t ht u hu => ?_
    obtain ⟨a0, a1, a2, a3, a4⟩ := inR x hx t ht
    obtain ⟨b0, b1, b2, b3, b4⟩ := inR y hy u hu
    unfold cd3
    omega
def treeF (E : Dd) (s1 : List T3) (x2 : Int × List Int) : Option (List T3) := ((if (!decide (x2.1 = 0)) = true then ((idx E x2.1).bind fun t6 => (idx x2.2 (-1)).bind fun t7 => (dGet t6 (-t7)).bind fun t8 => (idx x2.2 (-1)).bind fun t9 => (m_p_way_gone t8 t9 x2.1).bind fun t10 => (appO s1 t10).bind fun t11 => some t11) else some s1 : Option (List (Tri Int Int Int))).bind fun s12 => some s12)
theorem tree_lp : ∀ (V U : List (Int × List Int)) (S : List T3), U ++ V = wsA L rows E → S.length ≤ U.length → S.Nodup → (∀ t, t ∈ S ↔ ∃ p ∈ U, Tw L rows E p.1 t) →
    ∃ S', lp (treeF E) V S = some S' ∧ S'.length ≤ (wsA L rows E).length ∧ S'.Nodup ∧ ∀ t, t ∈ S' ↔ ∃ p ∈ wsA L rows E, Tw L rows E p.1 t
  | [], U, S, e, h1, h2, h3 => by
    rw [List.append_nil] at e
    subst e
    exact ⟨S, rfl, h1, h2, h3⟩
  | p :: V, U, S, e, h1, h2, h3 => by
    have nd := ws_nd W h14
    have F := (first_waysW_ok W.rep.1 W.reg.l1 W.reg.l4 W.n1 W.n9).2
    have wl : (wsA L rows E).length ≤ 14 := by
      have q : (wsA L rows E).length ≤ (ord (nbr L E) rows.length).length := F.2.1
      rw [W.bfs, rng_len] at q
      omega
    have ul : U.length ≤ 14 := by
      rw [← e, List.length_append] at wl
      omega
    have pm : p ∈ wsA L rows E := by rw [← e]; exact List.mem_append_right _ List.mem_cons_self
    have pg : dGet (wsA L rows E) p.1 = some p.2 := dGet_of_mem nd pm
    have e' : (U ++ [p]) ++ V = wsA L rows E := by rw [← e, List.append_assoc]; rfl
    have pn : ∀ q ∈ U, q.1 ≠ p.1 := fun q hq z => by
      rw [← e, List.map_append, List.nodup_append] at nd
      exact nd.2.2 q.1 (List.mem_map.mpr ⟨q, hq, rfl⟩) p.1 (List.mem_map.mpr ⟨p, List.mem_cons_self, rfl⟩) z
    unfold lp
    by_cases z : p.1 = 0
    · obtain ⟨S', e1, r⟩ := tree_lp V (U ++ [p]) S e' (by rw [List.length_append]; omega) h2 fun t => by
        rw [h3]
        constructor
        · rintro ⟨q, hq, ht⟩
          exact ⟨q, List.mem_append_left _ hq, ht⟩
        · rintro ⟨q, hq, ht⟩
          rcases List.mem_append.mp hq with hq | hq
          · exact ⟨q, hq, ht⟩
          · rw [List.mem_singleton.mp hq, z] at ht
            obtain ⟨a, s, v, q1, _⟩ := ht
            have := ws_zero W h14 q1
            simp at this
      exact ⟨S', bindS (bindS (a := S) (if_neg (by simp [z])) rfl) e1, r⟩
    · obtain ⟨a, s, v, q1, q2, g, a0⟩ := ws_step W h14 pg z
      obtain ⟨b0, b1, hs, gb⟩ := W.rep.1.ok a s p.1 a0 g
      have T : Tw L rows E p.1 (twOf a s p.1) := ⟨a, s, v, by rw [pg, q1], q2, g, a0, rfl⟩
      have il : idx p.2 (-1) = some s := by
        rw [q1]
        exact idx_last (by rw [List.length_append]; simp)
      have ir := idx_row (D := E) b0 (by rw [W.rep.1.len]; exact b1)
      have nS : twOf a s p.1 ∉ S := fun hm => by
        obtain ⟨q, hq, ht⟩ := (h3 _).mp hm
        exact pn q hq (tw_one W h14 ht T)
      have run : treeF E S p = some (S ++ [twOf a s p.1]) := by
        refine bindS (a := S ++ [twOf a s p.1]) ((if_pos (by simp [z])).trans (bindS ir (bindS il (bindS gb (bindS il (bindS (gone_eq a s p.1) (bindS (app_ok (by rw [sizeL]; omega)) rfl))))))) rfl
      obtain ⟨S', e1, r⟩ := tree_lp V (U ++ [p]) (S ++ [twOf a s p.1]) e' (by rw [List.length_append, List.length_append]; show _ + 1 ≤ _ + 1; omega) (by
          rw [List.nodup_append]
          exact ⟨h2, by simp, fun x hx y hy => by rw [List.mem_singleton.mp hy]; exact fun z => nS (z ▸ hx)⟩) fun t => by
        rw [List.mem_append, h3, List.mem_singleton]
        constructor
        · rintro (⟨q, hq, ht⟩ | rfl)
          · exact ⟨q, List.mem_append_left _ hq, ht⟩
          · exact ⟨p, List.mem_append_right _ List.mem_cons_self, T⟩
        · rintro ⟨q, hq, ht⟩
          rcases List.mem_append.mp hq with hq | hq
          · exact .inl ⟨q, hq, ht⟩
          · rw [List.mem_singleton.mp hq] at ht
            right
            obtain ⟨a', s', v', w1, w2, _, _, rfl⟩ := ht
            rw [pg, q1] at w1
            obtain ⟨e1, e2⟩ := List.append_inj' (Option.some.inj w1) rfl
            cases e2
            subst e1
            have ea : a = a' := by
              obtain ⟨x0, x1⟩ := ws_in W h14 q2
              obtain ⟨y0, y1⟩ := ws_in W h14 w2
              obtain ⟨m, em, gm, _⟩ := ws_at W h14 x0 x1
              obtain ⟨m', em', gm', _⟩ := ws_at W h14 y0 y1
              rw [q2] at em
              rw [w2] at em'
              cases em
              cases em'
              rw [gm] at gm'
              exact Option.some.inj gm'
            rw [ea]
      exact ⟨S', bindS run e1, r⟩
theorem tree_ok : m_p_tree (L, rows) = some (trT L rows E) := by
  have F := first_waysW_ok W.rep.1 W.reg.l1 W.reg.l4 W.n1 W.n9
  have wl : (wsA L rows E).length ≤ 14 := by
    have q : (wsA L rows E).length ≤ (ord (nbr L E) rows.length).length := F.2.2.1
    rw [W.bfs, rng_len] at q
    omega
  obtain ⟨S, e, sl, nd, hm⟩ := tree_lp W h14 (wsA L rows E) [] [] rfl (Nat.le_refl _) .nil fun t => by simp
  have bd : ∀ x ∈ S, bd3 x = true := fun x hx => by
    obtain ⟨p, _, ht⟩ := (hm x).mp hx
    obtain ⟨_, ⟨a0, a1⟩, ⟨b0, b1⟩, c0, c1⟩ := tw_in W h14 ht
    exact decide_eq_true ⟨a0, by omega, by omega, by omega, c0, by omega⟩
  have pm := srt3_perm S
  have same : srt3 S = trT L rows E := srt_eq (strict_of (srt3_srt S) (pm.nodup_iff.mpr nd) fun x hx => bd x (pm.mem_iff.mp hx)) ((wys_srt W h14).filter _) fun x => by
    rw [pm.mem_iff, hm, ← tw_on W h14]
    constructor
    · rintro ⟨p, _, ht⟩
      exact ⟨p.1, ht⟩
    · rintro ⟨b, ht⟩
      have ht2 := ht
      obtain ⟨a, s, v, q1, _⟩ := ht
      exact ⟨(b, v ++ [s]), dGet_mem q1, ht2⟩
  have so : srtO3 S = some (trT L rows E) := by
    unfold srtO3
    rw [if_pos ⟨by omega, List.all_eq_true.mpr bd⟩, same]
  unfold m_p_tree
  simp only [need_eq, doors_eq, fw_eq]
  exact bindS (need_web_ok W) (bindS W.dof (bindS F.1 (bindS (bindS e (bindS so rfl)) rfl)))
theorem ltree_ok : m_l_tree (L, rows) = some (trT L rows E) := by
  have wl := W.n9
  have ew := ways_of_ok W.reg (by omega)
  have lw : (wysL rows).length ≤ 4 * rows.length := wysK_le W
  unfold m_l_tree
  simp only [firsts_eq, ways_eq]
  refine bindS (firstsC_ok W) (bindS ew ?_)
  have key : ∀ (V U S : List T3), U ++ V = wysL rows → S = U.filter (onT L rows E) → lp (fun (s4 : (List (Tri Int Int Int))) (x5 : (Tri Int Int Int)) => ((dGet (wsA L rows E) x5.c).bind fun t9 => (dGet (wsA L rows E) x5.a).bind fun t10 => (catO (α := Int) t10 ([x5.b])).bind fun t11 => (if (decide (t9 = t11)) = true then some true else ((dGet (wsA L rows E) x5.a).bind fun t12 => (dGet (wsA L rows E) x5.c).bind fun t13 => (catO (α := Int) t13 ([(0 - x5.b)])).bind fun t14 => some (decide (t12 = t14)))).bind fun t15 => ((if t15 = true then ((appO s4 (Tri.mk x5.a x5.b x5.c)).bind fun t16 => some t16) else some s4 : Option (List (Tri Int Int Int))).bind fun s17 => some s17))) V S = some (trT L rows E) := by
    intro V
    induction V with
    | nil =>
      intro U S e hS
      rw [List.append_nil] at e
      subst hS
      rw [e]
      rfl
    | cons t V ih =>
      intro U S e hS
      have tm : t ∈ wysL rows := by rw [← e]; exact List.mem_append_right _ List.mem_cons_self
      obtain ⟨a0, a1, l0, hg⟩ := mem_wysL W tm
      obtain ⟨c0, c1, _, _⟩ := W.rep.1.ok _ _ _ a0 hg
      obtain ⟨u, eu, _, _, ul, _⟩ := ws_at W h14 a0 a1
      obtain ⟨v, ev, _, _, vl, _⟩ := ws_at W h14 c0 c1
      have sl : S.length ≤ 4 * rows.length := by
        rw [hS]
        have := List.length_filter_le (onT L rows E) U
        rw [← e, List.length_append] at lw
        omega
      have on : onT L rows E t = (decide (v = u ++ [t.b]) || decide (u = v ++ [0 - t.b])) := by
        unfold onT
        rw [eu, ev]
        simp
      unfold lp
      have c1' : (if (decide (v = u ++ [t.b])) = true then some true else ((dGet (wsA L rows E) t.a).bind fun t12 => (dGet (wsA L rows E) t.c).bind fun t13 => (catO (α := Int) t13 ([(0 - t.b)])).bind fun t14 => some (decide (t12 = t14)))) = some (onT L rows E t) := by
        rw [on]
        by_cases z : v = u ++ [t.b]
        · rw [if_pos (decide_eq_true z), decide_eq_true z]
          rfl
        · rw [if_neg (by simpa using z), decide_eq_false z, Bool.false_or]
          exact bindS eu (bindS ev (bindS (cat_ok (by rw [sizeL]; show v.length + 1 ≤ _; omega)) rfl))
      by_cases q : onT L rows E t = true
      · refine bindS (a := S ++ [t]) (bindS ev (bindS eu (bindS (cat_ok (by rw [sizeL]; show u.length + 1 ≤ _; omega)) (bindS c1' (bindS (a := S ++ [t]) ((if_pos q).trans (bindS (app_ok (by rw [sizeL]; omega)) rfl)) rfl))))) (ih (U ++ [t]) (S ++ [t]) (by rw [← e, List.append_assoc]; rfl) ?_)
        rw [hS, List.filter_append, List.filter_cons, if_pos q]
        rfl
      · refine bindS (a := S) (bindS ev (bindS eu (bindS (cat_ok (by rw [sizeL]; show u.length + 1 ≤ _; omega)) (bindS c1' (bindS (a := S) (if_neg q) rfl))))) (ih (U ++ [t]) S (by rw [← e, List.append_assoc]; rfl) ?_)
        rw [hS, List.filter_append, List.filter_cons, if_neg q]
        simp
  exact bindS (key (wysL rows) [] [] rfl rfl) rfl
def othT (L : Int) (rows : List (List Int)) (E : Dd) : List T3 := (wysL rows).filter fun t => !decide (t ∈ trT L rows E)
def bsW (L : Int) (rows : List (List Int)) (E : Dd) (t : T3) : List Int := red ((((dGet (wsA L rows E) t.a).getD []) ++ [t.b]) ++ iv ((dGet (wsA L rows E) t.c).getD []))
theorem oth_parts {t : T3} (h : t ∈ wysL rows) : ∃ u v, dGet (wsA L rows E) t.a = some u ∧ dGet (wsA L rows E) t.c = some v ∧ u.length ≤ 14 ∧ v.length ≤ 14 ∧ bsW L rows E t = red ((u ++ [t.b]) ++ iv v) ∧ (∀ x ∈ (u ++ [t.b]) ++ iv v, Sok L x) := by
  obtain ⟨a0, a1, l0, hg⟩ := mem_wysL W h
  obtain ⟨c0, c1, hs, _⟩ := W.rep.1.ok _ _ _ a0 hg
  obtain ⟨u, eu, _, us, ul, _⟩ := ws_at W h14 a0 a1
  obtain ⟨v, ev, _, vs, vl, _⟩ := ws_at W h14 c0 c1
  refine ⟨u, v, eu, ev, ul, vl, ?_, fun x hx => ?_⟩
  · unfold bsW
    rw [eu, ev]
    rfl
  · rcases List.mem_append.mp hx with hx | hx
    · rcases List.mem_append.mp hx with hx | hx
      · exact us x hx
      · rw [List.mem_singleton.mp hx]; exact hs
    · exact iv_sok vs x hx
theorem others_ok : m_p_others_of (L, rows) (trT L rows E) = some (othT L rows E) := by
  have lw : (wysL rows).length ≤ 4 * rows.length := wysK_le W
  have ew := ways_of_ok W.reg (by omega)
  have tl : (trT L rows E).length ≤ 4 * rows.length := Nat.le_trans (List.length_filter_le _ _) lw
  obtain ⟨d, ed, hd⟩ := dcs_keys (trT L rows E) []
  unfold m_p_others_of
  simp only [ways_eqP]
  refine bindS (a := ()) ?_ (bindS ed (bindS ew (bindS (a := othT L rows E) ((if_pos (by rw [sizeL]; omega)).trans (congrArg some ?_)) rfl)))
  · unfold lenO
    rw [if_pos (by rw [sizeL]; omega)]
  · rw [List.map_id']
    unfold othT
    refine List.filter_congr fun t _ => ?_
    have := hd t
    cases q : (dGet d t).isSome with
    | true =>
      rw [q] at this
      have : t ∈ trT L rows E := (this.mp rfl).elim (fun z => by cases z) id
      simp [this]
    | false =>
      rw [q] at this
      have : t ∉ trT L rows E := fun z => by cases this.mpr (.inr z)
      simp [this]
theorem lothers_ok : m_l_others (L, rows) = some (othT L rows E) := by
  have lw : (wysL rows).length ≤ 4 * rows.length := wysK_le W
  have ew := ways_of_ok W.reg (by omega)
  unfold m_l_others
  simp only [ways_eq]
  refine bindS (ltree_ok W h14) (bindS ew (bindS (a := othT L rows E) ((if_pos (by rw [sizeL]; omega)).trans (congrArg some ?_)) rfl))
  rw [List.map_id']
  unfold othT
  refine List.filter_congr fun t _ => ?_
  simp [hasD]
theorem basis_ok : m_p_basis (L, rows) = some ((othT L rows E).map (bsW L rows E)) := by
  have F := first_waysW_ok W.rep.1 W.reg.l1 W.reg.l4 W.n1 W.n9
  have lw : (wysL rows).length ≤ 4 * rows.length := wysK_le W
  have ol : (othT L rows E).length ≤ 4 * rows.length := Nat.le_trans (List.length_filter_le _ _) lw
  have et := tree_ok W h14
  unfold m_p_tree at et
  simp only [need_eq, doors_eq, fw_eq] at et
  obtain ⟨_, _, et⟩ := Option.bind_eq_some_iff.mp et
  obtain ⟨t2, q2, et⟩ := Option.bind_eq_some_iff.mp et
  obtain ⟨t3, q3, et⟩ := Option.bind_eq_some_iff.mp et
  obtain ⟨t4, q4, et⟩ := Option.bind_eq_some_iff.mp et
  cases et
  have key : ∀ (V : List T3) (S : List (List Int)), (∀ t ∈ V, t ∈ wysL rows) → S.length + V.length ≤ 1000 → lp (fun (s6 : (List (List Int))) (x7 : (Tri Int Int Int)) => ((dGet t3 x7.a).bind fun t11 => (catO (α := Int) t11 ([x7.b])).bind fun t12 => (dGet t3 x7.c).bind fun t13 => (m_p_turned_back t13).bind fun t14 => (catO (α := Int) t12 t14).bind fun t15 => (m_p_straightened t15).bind fun t16 => (appO s6 t16).bind fun t17 => some t17)) V S = some (S ++ V.map (bsW L rows E)) := by
    have e2 : t2 = E := Option.some.inj (q2.symm.trans W.dof)
    rw [e2] at q3
    have e3 : t3 = wsA L rows E := Option.some.inj (q3.symm.trans F.1)
    subst e3
    intro V
    induction V with
    | nil => intro S _ _; rw [List.map_nil, List.append_nil]; rfl
    | cons t V ih =>
      intro S hV hl
      rw [List.length_cons] at hl
      obtain ⟨u, v, eu, ev, ul, vl, eb, _⟩ := oth_parts W h14 (hV t List.mem_cons_self)
      have lv := iv_len v
      have l1 : (u ++ [t.b]).length ≤ 15 := by rw [List.length_append]; show u.length + 1 ≤ _; omega
      have l2 : ((u ++ [t.b]) ++ iv v).length ≤ 29 := by rw [List.length_append]; omega
      unfold lp
      refine bindS (a := S ++ [bsW L rows E t]) (bindS eu (bindS (cat_ok (by rw [sizeL]; show u.length + 1 ≤ _; omega)) (bindS ev (bindS (turned_ok (by omega)) (bindS (cat_ok (by rw [sizeL]; omega)) (bindS (a := bsW L rows E t) (by rw [eb]; exact straightW_ok (by omega)) (bindS (app_ok (by rw [sizeL]; omega)) rfl))))))) ((ih _ (fun x hx => hV x (List.mem_cons_of_mem _ hx)) (by rw [List.length_append]; show S.length + 1 + _ ≤ _; omega)).trans ?_)
      rw [List.map_cons, List.append_assoc]
      rfl
  unfold m_p_basis
  simp only [need_eq, doors_eq, fw_eq]
  refine bindS (need_web_ok W) (bindS q2 (bindS q3 (bindS q4 (bindS (others_ok W h14) (bindS (key (othT L rows E) [] (fun t ht => (List.mem_filter.mp ht).1) (by show 0 + _ ≤ _; omega)) ?_)))))
  rw [List.nil_append]
theorem lbasis_ok : m_l_basis (L, rows) = some ((othT L rows E).map (bsW L rows E)) := by
  have lw : (wysL rows).length ≤ 4 * rows.length := wysK_le W
  have ol : (othT L rows E).length ≤ 4 * rows.length := Nat.le_trans (List.length_filter_le _ _) lw
  unfold m_l_basis
  simp only [firsts_eq]
  refine bindS (firstsC_ok W) (bindS (lothers_ok W h14) (bindS (lcO_some (bsW L rows E) (by rw [sizeL]; omega) fun t ht => ?_) rfl))
  obtain ⟨u, v, eu, ev, ul, vl, eb, _⟩ := oth_parts W h14 (List.mem_filter.mp ht).1
  have lv := iv_len v
  have l1 : (u ++ [t.b]).length ≤ 15 := by rw [List.length_append]; show u.length + 1 ≤ _; omega
  have l2 : ((u ++ [t.b]) ++ iv v).length ≤ 29 := by rw [List.length_append]; omega
  exact bindS eu (bindS (cat_ok (by rw [sizeL]; show u.length + 1 ≤ _; omega)) (bindS ev (bindS (back_ok (by omega)) (bindS (cat_ok (by rw [sizeL]; omega)) (bindS (a := bsW L rows E t) (by rw [eb]; exact straightC_ok (by rw [sizeL]; omega)) rfl)))))
theorem rep_tree : reprO (PyData.list (List.map (eP3 PyData.int PyData.int PyData.int) (trT L rows E))) = some (PyData.list (List.map (eP3 PyData.int PyData.int PyData.int) (trT L rows E))).shown := by
  have lw : (wysL rows).length ≤ 4 * rows.length := wysK_le W
  have tl : (trT L rows E).length ≤ 4 * rows.length := Nat.le_trans (List.length_filter_le _ _) lw
  have := txt_list (k := 1) (n := 100) (ds := (trT L rows E).map (eP3 PyData.int PyData.int PyData.int)) fun d hd => by
    obtain ⟨t, ht, rfl⟩ := List.mem_map.mp hd
    obtain ⟨a0, a1, l0, hg⟩ := mem_wysL W (List.mem_filter.mp ht).1
    obtain ⟨c0, c1, hs, _⟩ := W.rep.1.ok _ _ _ a0 hg
    have h4 := W.reg.l4
    have hs2 := hs.2.2
    have := txt_tup (k := 0) (n := 21) (ds := [PyData.int t.a, PyData.int t.b, PyData.int t.c]) fun d hd => by
      simp only [List.mem_cons, List.not_mem_nil, or_false] at hd
      rcases hd with rfl | rfl | rfl
      · exact txt_int (k := 20) (by decide) (by decide) (by omega)
      · exact txt_int (k := 20) (by decide) (by decide) (by omega)
      · exact txt_int (k := 20) (by decide) (by decide) (by omega)
    exact ⟨this.1, this.2.1, this.2.2.1, Nat.le_trans this.2.2.2 (by show 3 * (21 + 2) + 3 ≤ 100; decide)⟩
  rw [List.length_map] at this
  exact this.repr (by decide) (by rw [sizeL]; omega)
theorem rep_basis : reprO (PyData.list (List.map (eT PyData.int) ((othT L rows E).map (bsW L rows E)))) = some (PyData.list (List.map (eT PyData.int) ((othT L rows E).map (bsW L rows E)))).shown := by
  have lw : (wysL rows).length ≤ 4 * rows.length := wysK_le W
  have ol : (othT L rows E).length ≤ 4 * rows.length := Nat.le_trans (List.length_filter_le _ _) lw
  have h4 := W.reg.l4
  have := txt_list (k := 1) (n := 400) (ds := ((othT L rows E).map (bsW L rows E)).map (eT PyData.int)) fun d hd => by
    obtain ⟨u, hu, rfl⟩ := List.mem_map.mp hd
    obtain ⟨t, ht, rfl⟩ := List.mem_map.mp hu
    obtain ⟨x, y, _, _, xl, yl, eb, hs⟩ := oth_parts W h14 (List.mem_filter.mp ht).1
    rw [eb]
    have lr := red_len ((x ++ [t.b]) ++ iv y)
    have lv := iv_len y
    rw [List.length_append, List.length_append] at lr
    have lr : (red ((x ++ [t.b]) ++ iv y)).length ≤ x.length + 1 + (iv y).length := lr
    have := txt_tup (k := 0) (n := 4) (ds := (red ((x ++ [t.b]) ++ iv y)).map PyData.int) fun d hd => by
      obtain ⟨z, hz, rfl⟩ := List.mem_map.mp hd
      have := red_mem hs z hz
      exact txt_int (k := 3) (by decide) (by decide) (by have := this.2; omega)
    rw [List.length_map] at this
    exact ⟨this.1, this.2.1, this.2.2.1, Nat.le_trans this.2.2.2 (by omega)⟩
  rw [List.length_map, List.length_map] at this
  exact this.repr (by decide) (by rw [sizeL]; omega)
theorem right_ok : m_l_right (L, rows) = some true := by
  have lw : (wysL rows).length ≤ 4 * rows.length := wysK_le W
  have tl : (trT L rows E).length ≤ 4 * rows.length := Nat.le_trans (List.length_filter_le _ _) lw
  have ol : (othT L rows E).length ≤ 4 * rows.length := Nat.le_trans (List.length_filter_le _ _) lw
  have rt := rep_tree W h14
  have rb := rep_basis W h14
  have et := tree_ok W h14
  have eb := basis_ok W h14
  unfold m_l_right
  refine bindS (ltree_ok W h14) (bindS rt (bindS (lbasis_ok W h14) (bindS rb (bindS et (bindS rt ((if_neg (by simp)).trans ?_))))))
  refine bindS (app_ok (by rw [sizeL]; omega)) (bindS eb (bindS rb ((if_neg (by simp)).trans ?_)))
  refine bindS (app_ok (by rw [List.length_reverse, List.length_map, sizeL]; omega)) (bindS et (bindS rt (bindS (a := true) ?_ rfl)))
  exact (if_pos (decide_eq_true rfl)).trans (bindS eb (bindS rb (congrArg some (decide_eq_true rfl))))
end
theorem law_true (ns : List Int) (hn : ns.length ≤ 63) : m_l_law ns = some true := by
  have key : ∃ r, m_l_law ns = some r ∧ r = true := by
    unfold m_l_law
    have hb : 1 ≤ maxI 1 (minI 3 (ns.length : Int)) ∧ maxI 1 (minI 3 (ns.length : Int)) ≤ 3 := by
      unfold maxI minI
      constructor <;> (repeat' split) <;> omega
    refine bndX (rngO_ok (by omega)) (lpRY (fun _ _ => True) trivial (fun i k s hk _ => ?_) (fun s _ => ⟨_, rfl, rfl⟩))
    obtain ⟨w0, e0, k0⟩ := wellC_ok (ns := ns) (by omega) (mem_rng (List.mem_of_getElem? hk)).1
    obtain ⟨v, w1, e1, a1, b1, k1⟩ := tkC (by decide) k0 (many := 4) (by decide) (by decide)
    obtain ⟨u, w2, e2, a2, b2, k2⟩ := tkC (by decide) k1 (many := 3) (by decide) (by decide)
    obtain ⟨t, e3, ht⟩ := idx_mem (xs := [2, 5, (10 : Int)]) a2 (by show u < ((3 : Nat) : Int); omega)
    have ht2 : 1 ≤ t ∧ t ≤ 10 := by
      simp only [List.mem_cons, List.not_mem_nil, or_false] at ht
      omega
    have hL1 : 1 ≤ 1 + v := by omega
    have hL4 : 1 + v ≤ 4 := by omega
    obtain ⟨⟨⟨L, rows⟩, w3⟩, e4, ⟨D, W⟩, r2, r3, k3⟩ := webC_ok (by decide) k2 hL1 hL4 (most := t) ht2.1 (by omega)
    have r2 : L = 1 + v := r2
    subst r2
    have W : Web (1 + v) rows D := W
    have r3 : (rows.length : Int) ≤ t + 2 := r3
    have k3 : WeC (0 + 1 + 1 + 2000) w3 := k3
    obtain ⟨v2, w4, e5, a5, b5, k5⟩ := tkC (by decide) k3 (many := 4) (by decide) (by decide)
    have hM1 : 1 ≤ 1 + v2 := by omega
    have hM4 : 1 + v2 ≤ 4 := by omega
    obtain ⟨⟨⟨L2, rows2⟩, w5⟩, e6, ⟨D2, W2⟩, r4, r5, _⟩ := webC_ok (by decide) k5 hM1 hM4 (most := 4) (by decide) (by decide)
    have r4 : L2 = 1 + v2 := r4
    subst r4
    have W2 : Web (1 + v2) rows2 D2 := W2
    have r5 : (rows2.length : Int) ≤ 4 + 2 := r5
    have q1 := right_ok W (by omega)
    have q2 := right_ok W2 (by omega)
    obtain ⟨E0, W0⟩ := web_nothing hL1 hL4
    obtain ⟨E1, W1⟩ := web_whole hL1 hL4
    have q3 := right_ok W0 (by show 1 ≤ 14; decide)
    have q4 := right_ok W1 (by show 1 ≤ 14; decide)
    have rp : ∀ z : Int, repT ([z]) (1 + v) = some (List.replicate (1 + v).toNat z) := fun z => by
      unfold repT
      rw [if_pos ⟨by omega, by omega, by show 1 ≤ 1000; decide⟩]
      congr 1
      have : ∀ m : Nat, (List.replicate m [z]).flatten = List.replicate m z := fun m => by
        induction m with
        | zero => rfl
        | succ m ih => rw [List.replicate_succ, List.flatten_cons, ih]; rfl
      exact this _
    refine bndX e0 (bndX e1 (bndX e2 (bndX e3 (bndX e4 (bndX e5 (bndX e6 (bndX q1 (bndX (a := false) ?_ (exElse (by simp) (bndX (rp (-1)) (bndX q3 (bndX (a := false) ?_ (exElse (by simp) ⟨_, rfl, (), rfl, trivial⟩)))))))))))))
    · exact (if_neg (by simp)).trans (bindS q2 (bindS (a := false) ((if_neg (by simp)).trans (bindS q1 rfl)) rfl))
    · exact (if_neg (by simp)).trans (bindS (rp 0) (bindS q4 rfl))
  obtain ⟨r, e, rfl⟩ := key
  exact e
end L13
namespace L13
open PySem PySem.Spec PyProof.Rows L2 Z
theorem tops {l : PySem.W.OpenLaw} {w : World} {K : PySem.W.Frag} {h : Heap} {mg : Str → Option Value} {fa f0 f1 f2 f3 f4 f5 f6 f7 f8 f9 f10 f11 f12 f13 f14 f15 f16 f17 f18 f19 f20 f21 f22 f23 f24 f25 f26 f27 f28 f29 f30 f31 f32 f33 : Addr} (IK : K.In h) (IG : h.Ns mainGlobals mg) (hfa : mg "law" = some (.ref fa))
    {od0 od1 od2 od3 od4 od5 od6 od7 od8 od9 od10 od11 od12 od13 od14 od15 od16 od17 od18 od19 od20 od21 od22 od23 od24 od25 od26 od27 od28 od29 od30 od31 od32 od33 an0 an1 an2 an3 an4 an5 an6 an7 an8 an9 an10 an11 an12 an13 an14 an15 an16 an17 an18 an19 an20 an21 an22 an23 an24 an25 an26 an27 an28 an29 an30 an31 an32 an33 : Option Addr} {sl0 sl1 sl2 sl3 sl4 sl5 sl6 sl7 sl8 sl9 sl10 sl11 sl12 sl13 sl14 sl15 sl16 sl17 sl18 sl19 sl20 sl21 sl22 sl23 sl24 sl25 sl26 sl27 sl28 sl29 sl30 sl31 sl32 sl33 : Array (Option Value)} {oc0 oc1 oc2 oc3 oc4 oc5 oc6 oc7 oc8 oc9 oc10 oc11 oc12 oc13 oc14 oc15 oc16 oc17 oc18 oc19 oc20 oc21 oc22 oc23 oc24 oc25 oc26 oc27 oc28 oc29 oc30 oc31 oc32 oc33 kV0 kV1 kV2 kV3 kV4 kV5 kV6 kV7 kV8 kV9 kV10 kV11 kV12 kV13 kV14 kV15 kV16 kV17 kV18 kV19 kV20 kV21 kV22 kV23 kV24 kV25 kV26 kV27 kV28 kV29 kV30 kV31 kV32 kV33 dc0 dc1 dc2 dc3 dc4 dc5 dc6 dc7 dc8 dc9 dc10 dc11 dc12 dc13 dc14 dc15 dc16 dc17 dc18 dc19 dc20 dc21 dc22 dc23 dc24 dc25 dc26 dc27 dc28 dc29 dc30 dc31 dc32 dc33 pm0 pm1 pm2 pm3 pm4 pm5 pm6 pm7 pm8 pm9 pm10 pm11 pm12 pm13 pm14 pm15 pm16 pm17 pm18 pm19 pm20 pm21 pm22 pm23 pm24 pm25 pm26 pm27 pm28 pm29 pm30 pm31 pm32 pm33 cd0 cd1 cd2 cd3 cd4 cd5 cd6 cd7 cd8 cd9 cd10 cd11 cd12 cd13 cd14 cd15 cd16 cd17 cd18 cd19 cd20 cd21 cd22 cd23 cd24 cd25 cd26 cd27 cd28 cd29 cd30 cd31 cd32 cd33 ct0 ct1 ct2 ct3 ct4 ct5 ct6 ct7 ct8 ct9 ct10 ct11 ct12 ct13 ct14 ct15 ct16 ct17 ct18 ct19 ct20 ct21 ct22 ct23 ct24 ct25 ct26 ct27 ct28 ct29 ct30 ct31 ct32 ct33 : Value}
    (a0 : PySem.W.nsIn K mainGlobals "steps_of" = some (some (.ref f0)))
    (b0 : K.lookup f0 = some ⟨oc0, od0, .func (PySem.W.fnOf "steps_of" "steps_of" (defArgs s_p_steps_of) (defBody s_p_steps_of) (defScope s_p_steps_of) .none kV0 dc0 pm0 an0 cd0 ct0), sl0⟩)
    (c0 : PySem.W.codeIn K cd0 "steps_of" = true) (d0 : PySem.W.keepIn K (.ref f0) = true)
    (a1 : PySem.W.nsIn K mainGlobals "straightened" = some (some (.ref f1)))
    (b1 : K.lookup f1 = some ⟨oc1, od1, .func (PySem.W.fnOf "straightened" "straightened" (defArgs s_p_straightened) (defBody s_p_straightened) (defScope s_p_straightened) .none kV1 dc1 pm1 an1 cd1 ct1), sl1⟩)
    (c1 : PySem.W.codeIn K cd1 "straightened" = true) (d1 : PySem.W.keepIn K (.ref f1) = true)
    (a2 : PySem.W.nsIn K mainGlobals "turned_back" = some (some (.ref f2)))
    (b2 : K.lookup f2 = some ⟨oc2, od2, .func (PySem.W.fnOf "turned_back" "turned_back" (defArgs s_p_turned_back) (defBody s_p_turned_back) (defScope s_p_turned_back) .none kV2 dc2 pm2 an2 cd2 ct2), sl2⟩)
    (c2 : PySem.W.codeIn K cd2 "turned_back" = true) (d2 : PySem.W.keepIn K (.ref f2) = true)
    (a3 : PySem.W.nsIn K mainGlobals "is_integer" = some (some (.ref f3)))
    (b3 : K.lookup f3 = some ⟨oc3, od3, .func (PySem.W.fnOf "is_integer" "is_integer" (defArgs s_p_is_integer) (defBody s_p_is_integer) (defScope s_p_is_integer) .none kV3 dc3 pm3 an3 cd3 ct3), sl3⟩)
    (c3 : PySem.W.codeIn K cd3 "is_integer" = true) (d3 : PySem.W.keepIn K (.ref f3) = true)
    (a4 : PySem.W.nsIn K mainGlobals "is_letters" = some (some (.ref f4)))
    (b4 : K.lookup f4 = some ⟨oc4, od4, .func (PySem.W.fnOf "is_letters" "is_letters" (defArgs s_p_is_letters) (defBody s_p_is_letters) (defScope s_p_is_letters) .none kV4 dc4 pm4 an4 cd4 ct4), sl4⟩)
    (c4 : PySem.W.codeIn K cd4 "is_letters" = true) (d4 : PySem.W.keepIn K (.ref f4) = true)
    (a5 : PySem.W.nsIn K mainGlobals "is_a_row" = some (some (.ref f5)))
    (b5 : K.lookup f5 = some ⟨oc5, od5, .func (PySem.W.fnOf "is_a_row" "is_a_row" (defArgs s_p_is_a_row) (defBody s_p_is_a_row) (defScope s_p_is_a_row) .none kV5 dc5 pm5 an5 cd5 ct5), sl5⟩)
    (c5 : PySem.W.codeIn K cd5 "is_a_row" = true) (d5 : PySem.W.keepIn K (.ref f5) = true)
    (a6 : PySem.W.nsIn K mainGlobals "doors_of" = some (some (.ref f6)))
    (b6 : K.lookup f6 = some ⟨oc6, od6, .func (PySem.W.fnOf "doors_of" "doors_of" (defArgs s_p_doors_of) (defBody s_p_doors_of) (defScope s_p_doors_of) .none kV6 dc6 pm6 an6 cd6 ct6), sl6⟩)
    (c6 : PySem.W.codeIn K cd6 "doors_of" = true) (d6 : PySem.W.keepIn K (.ref f6) = true)
    (a7 : PySem.W.nsIn K mainGlobals "is_one_way" = some (some (.ref f7)))
    (b7 : K.lookup f7 = some ⟨oc7, od7, .func (PySem.W.fnOf "is_one_way" "is_one_way" (defArgs s_p_is_one_way) (defBody s_p_is_one_way) (defScope s_p_is_one_way) .none kV7 dc7 pm7 an7 cd7 ct7), sl7⟩)
    (c7 : PySem.W.codeIn K cd7 "is_one_way" = true) (d7 : PySem.W.keepIn K (.ref f7) = true)
    (a8 : PySem.W.nsIn K mainGlobals "first_order" = some (some (.ref f8)))
    (b8 : K.lookup f8 = some ⟨oc8, od8, .func (PySem.W.fnOf "first_order" "first_order" (defArgs s_p_first_order) (defBody s_p_first_order) (defScope s_p_first_order) .none kV8 dc8 pm8 an8 cd8 ct8), sl8⟩)
    (c8 : PySem.W.codeIn K cd8 "first_order" = true) (d8 : PySem.W.keepIn K (.ref f8) = true)
    (a9 : PySem.W.nsIn K mainGlobals "is_a_web" = some (some (.ref f9)))
    (b9 : K.lookup f9 = some ⟨oc9, od9, .func (PySem.W.fnOf "is_a_web" "is_a_web" (defArgs s_p_is_a_web) (defBody s_p_is_a_web) (defScope s_p_is_a_web) .none kV9 dc9 pm9 an9 cd9 ct9), sl9⟩)
    (c9 : PySem.W.codeIn K cd9 "is_a_web" = true) (d9 : PySem.W.keepIn K (.ref f9) = true)
    (a10 : PySem.W.nsIn K mainGlobals "need_web" = some (some (.ref f10)))
    (b10 : K.lookup f10 = some ⟨oc10, od10, .func (PySem.W.fnOf "need_web" "need_web" (defArgs s_p_need_web) (defBody s_p_need_web) (defScope s_p_need_web) .none kV10 dc10 pm10 an10 cd10 ct10), sl10⟩)
    (c10 : PySem.W.codeIn K cd10 "need_web" = true) (d10 : PySem.W.keepIn K (.ref f10) = true)
    (a11 : PySem.W.nsIn K mainGlobals "ways_of" = some (some (.ref f11)))
    (b11 : K.lookup f11 = some ⟨oc11, od11, .func (PySem.W.fnOf "ways_of" "ways_of" (defArgs s_p_ways_of) (defBody s_p_ways_of) (defScope s_p_ways_of) .none kV11 dc11 pm11 an11 cd11 ct11), sl11⟩)
    (c11 : PySem.W.codeIn K cd11 "ways_of" = true) (d11 : PySem.W.keepIn K (.ref f11) = true)
    (a12 : PySem.W.nsIn K mainGlobals "first_ways" = some (some (.ref f12)))
    (b12 : K.lookup f12 = some ⟨oc12, od12, .func (PySem.W.fnOf "first_ways" "first_ways" (defArgs s_p_first_ways) (defBody s_p_first_ways) (defScope s_p_first_ways) .none kV12 dc12 pm12 an12 cd12 ct12), sl12⟩)
    (c12 : PySem.W.codeIn K cd12 "first_ways" = true) (d12 : PySem.W.keepIn K (.ref f12) = true)
    (a13 : PySem.W.nsIn K mainGlobals "way_gone" = some (some (.ref f13)))
    (b13 : K.lookup f13 = some ⟨oc13, od13, .func (PySem.W.fnOf "way_gone" "way_gone" (defArgs s_p_way_gone) (defBody s_p_way_gone) (defScope s_p_way_gone) .none kV13 dc13 pm13 an13 cd13 ct13), sl13⟩)
    (c13 : PySem.W.codeIn K cd13 "way_gone" = true) (d13 : PySem.W.keepIn K (.ref f13) = true)
    (a14 : PySem.W.nsIn K mainGlobals "tree_of" = some (some (.ref f14)))
    (b14 : K.lookup f14 = some ⟨oc14, od14, .func (PySem.W.fnOf "tree_of" "tree_of" (defArgs s_p_tree_of) (defBody s_p_tree_of) (defScope s_p_tree_of) .none kV14 dc14 pm14 an14 cd14 ct14), sl14⟩)
    (c14 : PySem.W.codeIn K cd14 "tree_of" = true) (d14 : PySem.W.keepIn K (.ref f14) = true)
    (a15 : PySem.W.nsIn K mainGlobals "tree" = some (some (.ref f15)))
    (b15 : K.lookup f15 = some ⟨oc15, od15, .func (PySem.W.fnOf "tree" "tree" (defArgs s_p_tree) (defBody s_p_tree) (defScope s_p_tree) .none kV15 dc15 pm15 an15 cd15 ct15), sl15⟩)
    (c15 : PySem.W.codeIn K cd15 "tree" = true) (d15 : PySem.W.keepIn K (.ref f15) = true)
    (a16 : PySem.W.nsIn K mainGlobals "others_of" = some (some (.ref f16)))
    (b16 : K.lookup f16 = some ⟨oc16, od16, .func (PySem.W.fnOf "others_of" "others_of" (defArgs s_p_others_of) (defBody s_p_others_of) (defScope s_p_others_of) .none kV16 dc16 pm16 an16 cd16 ct16), sl16⟩)
    (c16 : PySem.W.codeIn K cd16 "others_of" = true) (d16 : PySem.W.keepIn K (.ref f16) = true)
    (a17 : PySem.W.nsIn K mainGlobals "basis" = some (some (.ref f17)))
    (b17 : K.lookup f17 = some ⟨oc17, od17, .func (PySem.W.fnOf "basis" "basis" (defArgs s_p_basis) (defBody s_p_basis) (defScope s_p_basis) .none kV17 dc17 pm17 an17 cd17 ct17), sl17⟩)
    (c17 : PySem.W.codeIn K cd17 "basis" = true) (d17 : PySem.W.keepIn K (.ref f17) = true)
    (a18 : PySem.W.nsIn K mainGlobals "_law_well" = some (some (.ref f18)))
    (b18 : K.lookup f18 = some ⟨oc18, od18, .func (PySem.W.fnOf "_law_well" "_law_well" (defArgs s_l_well) (defBody s_l_well) (defScope s_l_well) .none kV18 dc18 pm18 an18 cd18 ct18), sl18⟩)
    (c18 : PySem.W.codeIn K cd18 "_law_well" = true) (d18 : PySem.W.keepIn K (.ref f18) = true)
    (a19 : PySem.W.nsIn K mainGlobals "_law_take" = some (some (.ref f19)))
    (b19 : K.lookup f19 = some ⟨oc19, od19, .func (PySem.W.fnOf "_law_take" "_law_take" (defArgs s_l_take) (defBody s_l_take) (defScope s_l_take) .none kV19 dc19 pm19 an19 cd19 ct19), sl19⟩)
    (c19 : PySem.W.codeIn K cd19 "_law_take" = true) (d19 : PySem.W.keepIn K (.ref f19) = true)
    (a20 : PySem.W.nsIn K mainGlobals "_law_straight" = some (some (.ref f20)))
    (b20 : K.lookup f20 = some ⟨oc20, od20, .func (PySem.W.fnOf "_law_straight" "_law_straight" (defArgs s_l_straight) (defBody s_l_straight) (defScope s_l_straight) .none kV20 dc20 pm20 an20 cd20 ct20), sl20⟩)
    (c20 : PySem.W.codeIn K cd20 "_law_straight" = true) (d20 : PySem.W.keepIn K (.ref f20) = true)
    (a21 : PySem.W.nsIn K mainGlobals "_law_steps" = some (some (.ref f21)))
    (b21 : K.lookup f21 = some ⟨oc21, od21, .func (PySem.W.fnOf "_law_steps" "_law_steps" (defArgs s_l_steps) (defBody s_l_steps) (defScope s_l_steps) .none kV21 dc21 pm21 an21 cd21 ct21), sl21⟩)
    (c21 : PySem.W.codeIn K cd21 "_law_steps" = true) (d21 : PySem.W.keepIn K (.ref f21) = true)
    (a22 : PySem.W.nsIn K mainGlobals "_law_laid" = some (some (.ref f22)))
    (b22 : K.lookup f22 = some ⟨oc22, od22, .func (PySem.W.fnOf "_law_laid" "_law_laid" (defArgs s_l_laid) (defBody s_l_laid) (defScope s_l_laid) .none kV22 dc22 pm22 an22 cd22 ct22), sl22⟩)
    (c22 : PySem.W.codeIn K cd22 "_law_laid" = true) (d22 : PySem.W.keepIn K (.ref f22) = true)
    (a23 : PySem.W.nsIn K mainGlobals "_law_named" = some (some (.ref f23)))
    (b23 : K.lookup f23 = some ⟨oc23, od23, .func (PySem.W.fnOf "_law_named" "_law_named" (defArgs s_l_named) (defBody s_l_named) (defScope s_l_named) .none kV23 dc23 pm23 an23 cd23 ct23), sl23⟩)
    (c23 : PySem.W.codeIn K cd23 "_law_named" = true) (d23 : PySem.W.keepIn K (.ref f23) = true)
    (a24 : PySem.W.nsIn K mainGlobals "_law_web" = some (some (.ref f24)))
    (b24 : K.lookup f24 = some ⟨oc24, od24, .func (PySem.W.fnOf "_law_web" "_law_web" (defArgs s_l_web) (defBody s_l_web) (defScope s_l_web) .none kV24 dc24 pm24 an24 cd24 ct24), sl24⟩)
    (c24 : PySem.W.codeIn K cd24 "_law_web" = true) (d24 : PySem.W.keepIn K (.ref f24) = true)
    (a25 : PySem.W.nsIn K mainGlobals "_law_doors" = some (some (.ref f25)))
    (b25 : K.lookup f25 = some ⟨oc25, od25, .func (PySem.W.fnOf "_law_doors" "_law_doors" (defArgs s_l_doors) (defBody s_l_doors) (defScope s_l_doors) .none kV25 dc25 pm25 an25 cd25 ct25), sl25⟩)
    (c25 : PySem.W.codeIn K cd25 "_law_doors" = true) (d25 : PySem.W.keepIn K (.ref f25) = true)
    (a26 : PySem.W.nsIn K mainGlobals "_law_firsts" = some (some (.ref f26)))
    (b26 : K.lookup f26 = some ⟨oc26, od26, .func (PySem.W.fnOf "_law_firsts" "_law_firsts" (defArgs s_l_firsts) (defBody s_l_firsts) (defScope s_l_firsts) .none kV26 dc26 pm26 an26 cd26 ct26), sl26⟩)
    (c26 : PySem.W.codeIn K cd26 "_law_firsts" = true) (d26 : PySem.W.keepIn K (.ref f26) = true)
    (a27 : PySem.W.nsIn K mainGlobals "_law_back" = some (some (.ref f27)))
    (b27 : K.lookup f27 = some ⟨oc27, od27, .func (PySem.W.fnOf "_law_back" "_law_back" (defArgs s_l_back) (defBody s_l_back) (defScope s_l_back) .none kV27 dc27 pm27 an27 cd27 ct27), sl27⟩)
    (c27 : PySem.W.codeIn K cd27 "_law_back" = true) (d27 : PySem.W.keepIn K (.ref f27) = true)
    (a28 : PySem.W.nsIn K mainGlobals "_law_ways" = some (some (.ref f28)))
    (b28 : K.lookup f28 = some ⟨oc28, od28, .func (PySem.W.fnOf "_law_ways" "_law_ways" (defArgs s_l_ways) (defBody s_l_ways) (defScope s_l_ways) .none kV28 dc28 pm28 an28 cd28 ct28), sl28⟩)
    (c28 : PySem.W.codeIn K cd28 "_law_ways" = true) (d28 : PySem.W.keepIn K (.ref f28) = true)
    (a29 : PySem.W.nsIn K mainGlobals "_law_tree" = some (some (.ref f29)))
    (b29 : K.lookup f29 = some ⟨oc29, od29, .func (PySem.W.fnOf "_law_tree" "_law_tree" (defArgs s_l_tree) (defBody s_l_tree) (defScope s_l_tree) .none kV29 dc29 pm29 an29 cd29 ct29), sl29⟩)
    (c29 : PySem.W.codeIn K cd29 "_law_tree" = true) (d29 : PySem.W.keepIn K (.ref f29) = true)
    (a30 : PySem.W.nsIn K mainGlobals "_law_others" = some (some (.ref f30)))
    (b30 : K.lookup f30 = some ⟨oc30, od30, .func (PySem.W.fnOf "_law_others" "_law_others" (defArgs s_l_others) (defBody s_l_others) (defScope s_l_others) .none kV30 dc30 pm30 an30 cd30 ct30), sl30⟩)
    (c30 : PySem.W.codeIn K cd30 "_law_others" = true) (d30 : PySem.W.keepIn K (.ref f30) = true)
    (a31 : PySem.W.nsIn K mainGlobals "_law_basis" = some (some (.ref f31)))
    (b31 : K.lookup f31 = some ⟨oc31, od31, .func (PySem.W.fnOf "_law_basis" "_law_basis" (defArgs s_l_basis) (defBody s_l_basis) (defScope s_l_basis) .none kV31 dc31 pm31 an31 cd31 ct31), sl31⟩)
    (c31 : PySem.W.codeIn K cd31 "_law_basis" = true) (d31 : PySem.W.keepIn K (.ref f31) = true)
    (a32 : PySem.W.nsIn K mainGlobals "_law_right" = some (some (.ref f32)))
    (b32 : K.lookup f32 = some ⟨oc32, od32, .func (PySem.W.fnOf "_law_right" "_law_right" (defArgs s_l_right) (defBody s_l_right) (defScope s_l_right) .none kV32 dc32 pm32 an32 cd32 ct32), sl32⟩)
    (c32 : PySem.W.codeIn K cd32 "_law_right" = true) (d32 : PySem.W.keepIn K (.ref f32) = true)
    (a33 : PySem.W.nsIn K mainGlobals "law" = some (some (.ref f33)))
    (b33 : K.lookup f33 = some ⟨oc33, od33, .func (PySem.W.fnOf "law" "law" (defArgs s_l_law) (defBody s_l_law) (defScope s_l_law) .none kV33 dc33 pm33 an33 cd33 ct33), sl33⟩)
    (c33 : PySem.W.codeIn K cd33 "law" = true) (d33 : PySem.W.keepIn K (.ref f33) = true)
    (g_range : PySem.W.nsIn K mainGlobals "range" = some none)
    (g_len : PySem.W.nsIn K mainGlobals "len" = some none)
    (g_tuple : PySem.W.nsIn K mainGlobals "tuple" = some none)
    (g_isinstance : PySem.W.nsIn K mainGlobals "isinstance" = some none)
    (g_int : PySem.W.nsIn K mainGlobals "int" = some none)
    (g_bool : PySem.W.nsIn K mainGlobals "bool" = some none)
    {tk_MOST_LETTERS : Tok}
    (g_MOST_LETTERS : PySem.W.nsIn K mainGlobals "MOST_LETTERS" = some (some (.int 4 tk_MOST_LETTERS)))
    (g_all : PySem.W.nsIn K mainGlobals "all" = some none)
    (g_enumerate : PySem.W.nsIn K mainGlobals "enumerate" = some none)
    (g_set : PySem.W.nsIn K mainGlobals "set" = some none)
    (g_any : PySem.W.nsIn K mainGlobals "any" = some none)
    (g_list : PySem.W.nsIn K mainGlobals "list" = some none)
    (g_sorted : PySem.W.nsIn K mainGlobals "sorted" = some none)
    (g_max : PySem.W.nsIn K mainGlobals "max" = some none)
    (g_repr : PySem.W.nsIn K mainGlobals "repr" = some none)
    (g_min : PySem.W.nsIn K mainGlobals "min" = some none)
    : ∃ fd : FuncData, (∀ (s : Shared) (v : Value), BindsTo s fd ⟨[v], []⟩ [("_law_script", v)]) ∧ ∀ base : Heap, K.In base → base.Ns mainGlobals mg → FnG l.prog w K mg base CX0 8 fa fd ["_law_script"] (LawSp K m_l_law) := by
  have e := hfa.symm.trans (PySem.W.mg_of IK IG a33)
  cases e
  have h_g_range := PySem.W.mg_none_of IK IG g_range
  have h_g_len := PySem.W.mg_none_of IK IG g_len
  have h_g_tuple := PySem.W.mg_none_of IK IG g_tuple
  have h_g_isinstance := PySem.W.mg_none_of IK IG g_isinstance
  have h_g_int := PySem.W.mg_none_of IK IG g_int
  have h_g_bool := PySem.W.mg_none_of IK IG g_bool
  have h_g_MOST_LETTERS := PySem.W.mg_of IK IG g_MOST_LETTERS
  have h_g_all := PySem.W.mg_none_of IK IG g_all
  have h_g_enumerate := PySem.W.mg_none_of IK IG g_enumerate
  have h_g_set := PySem.W.mg_none_of IK IG g_set
  have h_g_any := PySem.W.mg_none_of IK IG g_any
  have h_g_list := PySem.W.mg_none_of IK IG g_list
  have h_g_sorted := PySem.W.mg_none_of IK IG g_sorted
  have h_g_max := PySem.W.mg_none_of IK IG g_max
  have h_g_repr := PySem.W.mg_none_of IK IG g_repr
  have h_g_min := PySem.W.mg_none_of IK IG g_min
  have F0 := fun_mk (st := s_p_steps_of) b0 c0 d0
  have B0 := F0.binds (ps := ["letters"]) fun _ _ _ _ _ _ us hl => match us, hl with | [_], _ => rfl
  have F1 := fun_mk (st := s_p_straightened) b1 c1 d1
  have B1 := F1.binds (ps := ["walk"]) fun _ _ _ _ _ _ us hl => match us, hl with | [_], _ => rfl
  have F2 := fun_mk (st := s_p_turned_back) b2 c2 d2
  have B2 := F2.binds (ps := ["walk"]) fun _ _ _ _ _ _ us hl => match us, hl with | [_], _ => rfl
  have F3 := fun_mk (st := s_p_is_integer) b3 c3 d3
  have B3 := F3.binds (ps := ["value"]) fun _ _ _ _ _ _ us hl => match us, hl with | [_], _ => rfl
  have F4 := fun_mk (st := s_p_is_letters) b4 c4 d4
  have B4 := F4.binds (ps := ["value"]) fun _ _ _ _ _ _ us hl => match us, hl with | [_], _ => rfl
  have F5 := fun_mk (st := s_p_is_a_row) b5 c5 d5
  have B5 := F5.binds (ps := ["value", "letters", "rooms"]) fun _ _ _ _ _ _ us hl => match us, hl with | [_, _, _], _ => rfl
  have F6 := fun_mk (st := s_p_doors_of) b6 c6 d6
  have B6 := F6.binds (ps := ["rows"]) fun _ _ _ _ _ _ us hl => match us, hl with | [_], _ => rfl
  have F7 := fun_mk (st := s_p_is_one_way) b7 c7 d7
  have B7 := F7.binds (ps := ["rows", "letters"]) fun _ _ _ _ _ _ us hl => match us, hl with | [_, _], _ => rfl
  have F8 := fun_mk (st := s_p_first_order) b8 c8 d8
  have B8 := F8.binds (ps := ["letters", "doors", "home"]) fun _ _ _ _ _ _ us hl => match us, hl with | [_, _, _], _ => rfl
  have F9 := fun_mk (st := s_p_is_a_web) b9 c9 d9
  have B9 := F9.binds (ps := ["value"]) fun _ _ _ _ _ _ us hl => match us, hl with | [_], _ => rfl
  have F10 := fun_mk (st := s_p_need_web) b10 c10 d10
  have B10 := F10.binds (ps := ["web"]) fun _ _ _ _ _ _ us hl => match us, hl with | [_], _ => rfl
  have F11 := fun_mk (st := s_p_ways_of) b11 c11 d11
  have B11 := F11.binds (ps := ["web"]) fun _ _ _ _ _ _ us hl => match us, hl with | [_], _ => rfl
  have F12 := fun_mk (st := s_p_first_ways) b12 c12 d12
  have B12 := F12.binds (ps := ["letters", "doors", "home"]) fun _ _ _ _ _ _ us hl => match us, hl with | [_, _, _], _ => rfl
  have F13 := fun_mk (st := s_p_way_gone) b13 c13 d13
  have B13 := F13.binds (ps := ["room", "step", "goal"]) fun _ _ _ _ _ _ us hl => match us, hl with | [_, _, _], _ => rfl
  have F14 := fun_mk (st := s_p_tree_of) b14 c14 d14
  have B14 := F14.binds (ps := ["doors", "firsts"]) fun _ _ _ _ _ _ us hl => match us, hl with | [_, _], _ => rfl
  have F15 := fun_mk (st := s_p_tree) b15 c15 d15
  have B15 := F15.binds (ps := ["web"]) fun _ _ _ _ _ _ us hl => match us, hl with | [_], _ => rfl
  have F16 := fun_mk (st := s_p_others_of) b16 c16 d16
  have B16 := F16.binds (ps := ["web", "known"]) fun _ _ _ _ _ _ us hl => match us, hl with | [_, _], _ => rfl
  have F17 := fun_mk (st := s_p_basis) b17 c17 d17
  have B17 := F17.binds (ps := ["web"]) fun _ _ _ _ _ _ us hl => match us, hl with | [_], _ => rfl
  have F18 := fun_mk (st := s_l_well) b18 c18 d18
  have B18 := F18.binds (ps := ["_law_script", "_law_k"]) fun _ _ _ _ _ _ us hl => match us, hl with | [_, _], _ => rfl
  have F19 := fun_mk (st := s_l_take) b19 c19 d19
  have B19 := F19.binds (ps := ["_law_well_here", "_law_many"]) fun _ _ _ _ _ _ us hl => match us, hl with | [_, _], _ => rfl
  have F20 := fun_mk (st := s_l_straight) b20 c20 d20
  have B20 := F20.binds (ps := ["_law_walk"]) fun _ _ _ _ _ _ us hl => match us, hl with | [_], _ => rfl
  have F21 := fun_mk (st := s_l_steps) b21 c21 d21
  have B21 := F21.binds (ps := ["_law_letters"]) fun _ _ _ _ _ _ us hl => match us, hl with | [_], _ => rfl
  have F22 := fun_mk (st := s_l_laid) b22 c22 d22
  have B22 := F22.binds (ps := ["_law_doors_here", "_law_room", "_law_step", "_law_goal"]) fun _ _ _ _ _ _ us hl => match us, hl with | [_, _, _, _], _ => rfl
  have F23 := fun_mk (st := s_l_named) b23 c23 d23
  have B23 := F23.binds (ps := ["_law_letters", "_law_doors_here", "_law_home"]) fun _ _ _ _ _ _ us hl => match us, hl with | [_, _, _], _ => rfl
  have F24 := fun_mk (st := s_l_web) b24 c24 d24
  have B24 := F24.binds (ps := ["_law_well_here", "_law_letters", "_law_most"]) fun _ _ _ _ _ _ us hl => match us, hl with | [_, _, _], _ => rfl
  have F25 := fun_mk (st := s_l_doors) b25 c25 d25
  have B25 := F25.binds (ps := ["_law_web_here"]) fun _ _ _ _ _ _ us hl => match us, hl with | [_], _ => rfl
  have F26 := fun_mk (st := s_l_firsts) b26 c26 d26
  have B26 := F26.binds (ps := ["_law_web_here"]) fun _ _ _ _ _ _ us hl => match us, hl with | [_], _ => rfl
  have F27 := fun_mk (st := s_l_back) b27 c27 d27
  have B27 := F27.binds (ps := ["_law_walk"]) fun _ _ _ _ _ _ us hl => match us, hl with | [_], _ => rfl
  have F28 := fun_mk (st := s_l_ways) b28 c28 d28
  have B28 := F28.binds (ps := ["_law_web_here"]) fun _ _ _ _ _ _ us hl => match us, hl with | [_], _ => rfl
  have F29 := fun_mk (st := s_l_tree) b29 c29 d29
  have B29 := F29.binds (ps := ["_law_web_here"]) fun _ _ _ _ _ _ us hl => match us, hl with | [_], _ => rfl
  have F30 := fun_mk (st := s_l_others) b30 c30 d30
  have B30 := F30.binds (ps := ["_law_web_here"]) fun _ _ _ _ _ _ us hl => match us, hl with | [_], _ => rfl
  have F31 := fun_mk (st := s_l_basis) b31 c31 d31
  have B31 := F31.binds (ps := ["_law_web_here"]) fun _ _ _ _ _ _ us hl => match us, hl with | [_], _ => rfl
  have F32 := fun_mk (st := s_l_right) b32 c32 d32
  have B32 := F32.binds (ps := ["_law_web_here"]) fun _ _ _ _ _ _ us hl => match us, hl with | [_], _ => rfl
  have F33 := fun_mk (st := s_l_law) b33 c33 d33
  have B33 := F33.binds (ps := ["_law_script"]) fun _ _ _ _ _ _ us hl => match us, hl with | [_], _ => rfl
  refine ⟨PySem.W.fnOf "law" "law" (defArgs s_l_law) (defBody s_l_law) (defScope s_l_law) .none kV33 dc33 pm33 an33 cd33 ct33, fun s v => .of_eq rfl, fun base _ _ => ?_⟩
  have C_p_steps_of := cal_p_steps_of (P := l.prog) (w := w) (base := base) F0 (PySem.W.mg_of IK IG a0) B0 h_g_range
  have C_p_straightened := cal_p_straightened (P := l.prog) (w := w) (base := base) F1 (PySem.W.mg_of IK IG a1) B1 h_g_len h_g_tuple
  have C_p_turned_back := cal_p_turned_back (P := l.prog) (w := w) (base := base) F2 (PySem.W.mg_of IK IG a2) B2 h_g_tuple
  have C_p_is_integer := cal_p_is_integer (P := l.prog) (w := w) (base := base) F3 (PySem.W.mg_of IK IG a3) B3 h_g_isinstance h_g_int h_g_bool
  have C_p_is_letters := cal_p_is_letters (P := l.prog) (w := w) (base := base) F4 (PySem.W.mg_of IK IG a4) B4 C_p_is_integer h_g_MOST_LETTERS
  have C_p_is_a_row := cal_p_is_a_row (P := l.prog) (w := w) (base := base) F5 (PySem.W.mg_of IK IG a5) B5 h_g_isinstance h_g_tuple h_g_len h_g_all C_p_is_integer
  have C_p_doors_of := cal_p_doors_of (P := l.prog) (w := w) (base := base) F6 (PySem.W.mg_of IK IG a6) B6 h_g_enumerate
  have C_p_is_one_way := cal_p_is_one_way (P := l.prog) (w := w) (base := base) F7 (PySem.W.mg_of IK IG a7) B7 h_g_range h_g_len h_g_set
  have C_p_first_order := cal_p_first_order (P := l.prog) (w := w) (base := base) F8 (PySem.W.mg_of IK IG a8) B8 h_g_len C_p_steps_of
  have C_p_is_a_web := cal_p_is_a_web (P := l.prog) (w := w) (base := base) F9 (PySem.W.mg_of IK IG a9) B9 h_g_isinstance h_g_tuple h_g_len C_p_is_letters h_g_all C_p_is_a_row C_p_is_one_way C_p_doors_of h_g_any C_p_first_order h_g_list h_g_range
  have C_p_need_web := cal_p_need_web (P := l.prog) (w := w) (base := base) F10 (PySem.W.mg_of IK IG a10) B10 C_p_is_a_web
  have C_p_ways_of := cal_p_ways_of (P := l.prog) (w := w) (base := base) F11 (PySem.W.mg_of IK IG a11) B11 h_g_enumerate
  have C_p_first_ways := cal_p_first_ways (P := l.prog) (w := w) (base := base) F12 (PySem.W.mg_of IK IG a12) B12 C_p_first_order C_p_steps_of
  have C_p_way_gone := cal_p_way_gone (P := l.prog) (w := w) (base := base) F13 (PySem.W.mg_of IK IG a13) B13 
  have C_p_tree_of := cal_p_tree_of (P := l.prog) (w := w) (base := base) F14 (PySem.W.mg_of IK IG a14) B14 C_p_way_gone h_g_sorted
  have C_p_tree := cal_p_tree (P := l.prog) (w := w) (base := base) F15 (PySem.W.mg_of IK IG a15) B15 C_p_need_web C_p_doors_of C_p_tree_of C_p_first_ways
  have C_p_others_of := cal_p_others_of (P := l.prog) (w := w) (base := base) F16 (PySem.W.mg_of IK IG a16) B16 C_p_ways_of
  have C_p_basis := cal_p_basis (P := l.prog) (w := w) (base := base) F17 (PySem.W.mg_of IK IG a17) B17 C_p_need_web C_p_doors_of C_p_first_ways C_p_others_of C_p_tree_of C_p_straightened C_p_turned_back
  have C_l_well := cal_l_well (P := l.prog) (w := w) (base := base) F18 (PySem.W.mg_of IK IG a18) B18 h_g_len h_g_enumerate h_g_int h_g_max
  have C_l_take := cal_l_take (P := l.prog) (w := w) (base := base) F19 (PySem.W.mg_of IK IG a19) B19 h_g_int
  have C_l_straight := cal_l_straight (P := l.prog) (w := w) (base := base) F20 (PySem.W.mg_of IK IG a20) B20 h_g_tuple
  have C_l_steps := cal_l_steps (P := l.prog) (w := w) (base := base) F21 (PySem.W.mg_of IK IG a21) B21 h_g_range
  have C_l_laid := cal_l_laid (P := l.prog) (w := w) (base := base) F22 (PySem.W.mg_of IK IG a22) B22 
  have C_l_named := cal_l_named (P := l.prog) (w := w) (base := base) F23 (PySem.W.mg_of IK IG a23) B23 h_g_range h_g_len h_g_list C_l_steps h_g_tuple
  have C_l_web := cal_l_web (P := l.prog) (w := w) (base := base) F24 (PySem.W.mg_of IK IG a24) B24 C_l_take h_g_range h_g_list h_g_len C_l_laid C_l_steps C_l_named
  have C_l_doors := cal_l_doors (P := l.prog) (w := w) (base := base) F25 (PySem.W.mg_of IK IG a25) B25 h_g_enumerate C_l_laid
  have C_l_firsts := cal_l_firsts (P := l.prog) (w := w) (base := base) F26 (PySem.W.mg_of IK IG a26) B26 C_l_doors h_g_range h_g_len C_l_steps
  have C_l_back := cal_l_back (P := l.prog) (w := w) (base := base) F27 (PySem.W.mg_of IK IG a27) B27 h_g_tuple
  have C_l_ways := cal_l_ways (P := l.prog) (w := w) (base := base) F28 (PySem.W.mg_of IK IG a28) B28 h_g_enumerate
  have C_l_tree := cal_l_tree (P := l.prog) (w := w) (base := base) F29 (PySem.W.mg_of IK IG a29) B29 C_l_firsts C_l_ways
  have C_l_others := cal_l_others (P := l.prog) (w := w) (base := base) F30 (PySem.W.mg_of IK IG a30) B30 C_l_tree C_l_ways
  have C_l_basis := cal_l_basis (P := l.prog) (w := w) (base := base) F31 (PySem.W.mg_of IK IG a31) B31 C_l_firsts C_l_others C_l_straight C_l_back
  have C_l_right := cal_l_right (P := l.prog) (w := w) (base := base) F32 (PySem.W.mg_of IK IG a32) B32 h_g_repr C_l_tree C_l_basis C_p_tree C_p_basis
  have C_l_law := cal_l_law (P := l.prog) (w := w) (base := base) F33 (PySem.W.mg_of IK IG a33) B33 h_g_range h_g_max h_g_min h_g_len C_l_well C_l_take C_l_web C_l_right
  obtain ⟨f_, fd_, Fn_, G_, hm_, _⟩ := C_l_law.ex
  have e := hm_.symm.trans (PySem.W.mg_of IK IG a33)
  cases e
  obtain ⟨_, _, _, _, _, _, _, _, _, rfl, lk_, _⟩ := Fn_.ex
  rw [b33] at lk_
  cases lk_
  exact G_
end L13
open PySem PySem.W PyProof.Rows
set_option maxRecDepth 100000 in
set_option maxHeartbeats 0 in
theorem PySem.Challenge.cw_walkclubs_k13_trees_and_bases_holds : PySem.Challenge.rw_walkclubs_k13_trees_and_bases.Holds := by
  w_on; o_law; k_head; (case hw => w_witness2)
  k_fill
  refine Z.walk_ofG (l := PySem.Challenge.rw_walkclubs_k13_trees_and_bases) (n := 63) (k := 8) (x := "_law_script") (m := L13.m_l_law) rfl (by decide) rfl ⟨rfl, by decide, by decide⟩ (fun w h Y => PySem.W.kIn_of Y) ?F L13.law_true
  case F =>
    intro w mg fa h KI KG hmg
    refine' L13.tops KI KG hmg ?a0 ?b0 ?c0 ?d0 ?a1 ?b1 ?c1 ?d1 ?a2 ?b2 ?c2 ?d2 ?a3 ?b3 ?c3 ?d3 ?a4 ?b4 ?c4 ?d4 ?a5 ?b5 ?c5 ?d5 ?a6 ?b6 ?c6 ?d6 ?a7 ?b7 ?c7 ?d7 ?a8 ?b8 ?c8 ?d8 ?a9 ?b9 ?c9 ?d9 ?a10 ?b10 ?c10 ?d10 ?a11 ?b11 ?c11 ?d11 ?a12 ?b12 ?c12 ?d12 ?a13 ?b13 ?c13 ?d13 ?a14 ?b14 ?c14 ?d14 ?a15 ?b15 ?c15 ?d15 ?a16 ?b16 ?c16 ?d16 ?a17 ?b17 ?c17 ?d17 ?a18 ?b18 ?c18 ?d18 ?a19 ?b19 ?c19 ?d19 ?a20 ?b20 ?c20 ?d20 ?a21 ?b21 ?c21 ?d21 ?a22 ?b22 ?c22 ?d22 ?a23 ?b23 ?c23 ?d23 ?a24 ?b24 ?c24 ?d24 ?a25 ?b25 ?c25 ?d25 ?a26 ?b26 ?c26 ?d26 ?a27 ?b27 ?c27 ?d27 ?a28 ?b28 ?c28 ?d28 ?a29 ?b29 ?c29 ?d29 ?a30 ?b30 ?c30 ?d30 ?a31 ?b31 ?c31 ?d31 ?a32 ?b32 ?c32 ?d32 ?a33 ?b33 ?c33 ?d33 ?g_range ?g_len ?g_tuple ?g_isinstance ?g_int ?g_bool ?g_MOST_LETTERS ?g_all ?g_enumerate ?g_set ?g_any ?g_list ?g_sorted ?g_max ?g_repr ?g_min
    (case a0 => k_is)
    (case b0 => k_is)
    (case c0 => k_is)
    (case d0 => k_is)
    (case a1 => k_is)
    (case b1 => k_is)
    (case c1 => k_is)
    (case d1 => k_is)
    (case a2 => k_is)
    (case b2 => k_is)
    (case c2 => k_is)
    (case d2 => k_is)
    (case a3 => k_is)
    (case b3 => k_is)
    (case c3 => k_is)
    (case d3 => k_is)
    (case a4 => k_is)
    (case b4 => k_is)
    (case c4 => k_is)
    (case d4 => k_is)
    (case a5 => k_is)
    (case b5 => k_is)
    (case c5 => k_is)
    (case d5 => k_is)
    (case a6 => k_is)
    (case b6 => k_is)
    (case c6 => k_is)
    (case d6 => k_is)
    (case a7 => k_is)
    (case b7 => k_is)
    (case c7 => k_is)
    (case d7 => k_is)
    (case a8 => k_is)
    (case b8 => k_is)
    (case c8 => k_is)
    (case d8 => k_is)
    (case a9 => k_is)
    (case b9 => k_is)
    (case c9 => k_is)
    (case d9 => k_is)
    (case a10 => k_is)
    (case b10 => k_is)
    (case c10 => k_is)
    (case d10 => k_is)
    (case a11 => k_is)
    (case b11 => k_is)
    (case c11 => k_is)
    (case d11 => k_is)
    (case a12 => k_is)
    (case b12 => k_is)
    (case c12 => k_is)
    (case d12 => k_is)
    (case a13 => k_is)
    (case b13 => k_is)
    (case c13 => k_is)
    (case d13 => k_is)
    (case a14 => k_is)
    (case b14 => k_is)
    (case c14 => k_is)
    (case d14 => k_is)
    (case a15 => k_is)
    (case b15 => k_is)
    (case c15 => k_is)
    (case d15 => k_is)
    (case a16 => k_is)
    (case b16 => k_is)
    (case c16 => k_is)
    (case d16 => k_is)
    (case a17 => k_is)
    (case b17 => k_is)
    (case c17 => k_is)
    (case d17 => k_is)
    (case a18 => k_is)
    (case b18 => k_is)
    (case c18 => k_is)
    (case d18 => k_is)
    (case a19 => k_is)
    (case b19 => k_is)
    (case c19 => k_is)
    (case d19 => k_is)
    (case a20 => k_is)
    (case b20 => k_is)
    (case c20 => k_is)
    (case d20 => k_is)
    (case a21 => k_is)
    (case b21 => k_is)
    (case c21 => k_is)
    (case d21 => k_is)
    (case a22 => k_is)
    (case b22 => k_is)
    (case c22 => k_is)
    (case d22 => k_is)
    (case a23 => k_is)
    (case b23 => k_is)
    (case c23 => k_is)
    (case d23 => k_is)
    (case a24 => k_is)
    (case b24 => k_is)
    (case c24 => k_is)
    (case d24 => k_is)
    (case a25 => k_is)
    (case b25 => k_is)
    (case c25 => k_is)
    (case d25 => k_is)
    (case a26 => k_is)
    (case b26 => k_is)
    (case c26 => k_is)
    (case d26 => k_is)
    (case a27 => k_is)
    (case b27 => k_is)
    (case c27 => k_is)
    (case d27 => k_is)
    (case a28 => k_is)
    (case b28 => k_is)
    (case c28 => k_is)
    (case d28 => k_is)
    (case a29 => k_is)
    (case b29 => k_is)
    (case c29 => k_is)
    (case d29 => k_is)
    (case a30 => k_is)
    (case b30 => k_is)
    (case c30 => k_is)
    (case d30 => k_is)
    (case a31 => k_is)
    (case b31 => k_is)
    (case c31 => k_is)
    (case d31 => k_is)
    (case a32 => k_is)
    (case b32 => k_is)
    (case c32 => k_is)
    (case d32 => k_is)
    (case a33 => k_is)
    (case b33 => k_is)
    (case c33 => k_is)
    (case d33 => k_is)
    (case g_range => k_is)
    (case g_len => k_is)
    (case g_tuple => k_is)
    (case g_isinstance => k_is)
    (case g_int => k_is)
    (case g_bool => k_is)
    (case g_MOST_LETTERS => k_is)
    (case g_all => k_is)
    (case g_enumerate => k_is)
    (case g_set => k_is)
    (case g_any => k_is)
    (case g_list => k_is)
    (case g_sorted => k_is)
    (case g_max => k_is)
    (case g_repr => k_is)
    (case g_min => k_is)
