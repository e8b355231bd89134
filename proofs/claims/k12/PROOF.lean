import PyProof.Rows.All
import Wide.All
import OpenK.AllK
import Wide.FinOn
import HandS.ForMost
import HandS.Wide
import HandS.TupAny
import HandS.RaiseMore
import PyProof.ReprRoads
import HandS.Style
import HandS.IsInst
import HandS.Gcd
import KE.KMathGC
import HandS.Conv
import HandS.TupMul
import HandS.RevTup
import PyProof.ListMulRoad
import PyProof.FactsAll.tuple_2
import HandS.Iter
import KE.GoesEnum
import KE.GoesMore
import HandS.Dict
import HandS.SetKeys
import HandS.DictComp
import KE.KDictSum
import HandS.Small
import HandS.NoneIn
import KE.KDictDisplayH
import HandS.Zip
import HandS.WideBits
import HandS.SortInts
import KE.DataCmp
import HandS.Finally
import HandS.TupSets
import HandS.Deep
import KE.DataMinKey
import HandS.SortKw
import KE.KDictPairs
import HandS.TryOnly
import KE.SortData
import HandS.SetFor
import HandS.Strs
import HandS.DictSubView
import PyProof.WalkInts
import KE.SortKeyHeap
import PySem.Challenge.RW_walkclubs_k12_joinings_with_one_wrong_pl
set_option Elab.async false
set_option linter.all false
set_option maxRecDepth 100000
set_option maxHeartbeats 1000000
namespace Z
open PySem PySem.Spec PyProof.Rows L2
def kPD : Key → PyData
  | .inl i => .int i
  | .inr x => .str x
mutual
inductive Dq (H : Hp) : V → PyData → Prop
  | non : Dq H .non .none
  | bl (b : Bool) : Dq H (.bl b) (.bool b)
  | int (i : Int) : Dq H (.int i) (.int i)
  | str (x : Str) : Dq H (.str x) (.str x)
  | lst {a : Addr} {xs : List V} {ds : List PyData} : H a = some (.lst xs) → DqAll H xs ds → Dq H (.ref a) (.list ds)
  | tup {a : Addr} {xs : List V} {ds : List PyData} : H a = some (.tup xs) → DqAll H xs ds → Dq H (.ref a) (.tuple ds)
  | dctK {a : Addr} {o : Obj} {kvs : List (Key × V)} {ps : List (PyData × PyData)} : H a = some (.frz o (.dK kvs)) → kvs.map (fun p => kPD p.1) = ps.map (·.1) → DqAll H (kvs.map (·.2)) (ps.map (·.2)) → Dq H (.ref a) (.dict ps)
  | dctT {a : Addr} {o : Obj} {kvs : List (List Key × V)} {ps : List (PyData × PyData)} : H a = some (.frz o (.dT kvs)) → kvs.map (fun p => PyData.tuple (p.1.map kPD)) = ps.map (·.1) → DqAll H (kvs.map (·.2)) (ps.map (·.2)) → Dq H (.ref a) (.dict ((.none, .none) :: ps))
inductive DqAll (H : Hp) : List V → List PyData → Prop
  | nil : DqAll H [] []
  | cons {v : V} {vs : List V} {d : PyData} {ds : List PyData} : Dq H v d → DqAll H vs ds → DqAll H (v :: vs) (d :: ds)
end
mutual
theorem dq_monoH {H H' : Hp} (e : Same H H') : ∀ {v : V} {d : PyData}, Dq H v d → Dq H' v d
  | _, _, .non => .non
  | _, _, .bl _ => .bl _
  | _, _, .int _ => .int _
  | _, _, .str _ => .str _
  | _, _, .lst hs ha => .lst (e _ _ hs) (dqall_monoH e ha)
  | _, _, .tup hs ha => .tup (e _ _ hs) (dqall_monoH e ha)
  | _, _, .dctK hs hk ha => .dctK (e _ _ hs) hk (dqall_monoH e ha)
  | _, _, .dctT hs hk ha => .dctT (e _ _ hs) hk (dqall_monoH e ha)
theorem dqall_monoH {H H' : Hp} (e : Same H H') : ∀ {vs : List V} {ds : List PyData}, DqAll H vs ds → DqAll H' vs ds
  | _, _, .nil => .nil
  | _, _, .cons h1 h2 => .cons (dq_monoH e h1) (dqall_monoH e h2)
end
theorem dq_mono {H H' : Hp} (e : Same H H') (d : PyData) (v : V) (h : Dq H v d) : Dq H' v d := dq_monoH e h
theorem dqall_mono {H H' : Hp} (e : Same H H') (ds : List PyData) (vs : List V) (h : DqAll H vs ds) : DqAll H' vs ds := dqall_monoH e h
mutual
theorem nod_lay : ∀ d : PyData, d.canLay0 = true → d.hasDict = false
  | .none, _ => by simp [PyData.hasDict]
  | .bool _, _ => by simp [PyData.hasDict]
  | .int _, _ => by simp [PyData.hasDict]
  | .str _, _ => by simp [PyData.hasDict]
  | .list ds, c => by
    simp only [PyData.hasDict]
    exact nodall_lay ds (by simpa [PyData.canLay0] using c)
  | .tuple ds, c => by
    simp only [PyData.hasDict]
    exact nodall_lay ds (by simpa [PyData.canLay0] using c)
  | .dict _, c => by simp [PyData.canLay0] at c
theorem nodall_lay : ∀ ds : List PyData, PyData.canLayAll0 ds = true → PyData.hasDictAll ds = false
  | [], _ => by simp [PyData.hasDictAll]
  | d :: ds, c => by
    have c2 : d.canLay0 = true ∧ PyData.canLayAll0 ds = true := by simpa [PyData.canLayAll0] using c
    simp [PyData.hasDictAll, nod_lay d c2.1, nodall_lay ds c2.2]
end
mutual
theorem dq_dp (K : PySem.W.Frag) {H : Hp} : ∀ (d : PyData) (v : V), d.hasDict = false → Dq H v d → Dp K H v d
  | .none, _, _, h => by cases h; exact .non
  | .bool _, _, _, h => by cases h; exact .bl _
  | .int _, _, _, h => by cases h; exact .int _
  | .str _, _, _, h => by cases h; exact .str _
  | .list ds, _, c, h => by
    cases h with
    | lst hs ha => exact .lst (.of hs) (dqall_dp K ds _ (by simpa [PyData.hasDict] using c) ha)
  | .tuple ds, _, c, h => by
    cases h with
    | tup hs ha => exact .tup (.of hs) (dqall_dp K ds _ (by simpa [PyData.hasDict] using c) ha)
  | .dict _, _, c, h => by simp [PyData.hasDict] at c
theorem dqall_dp (K : PySem.W.Frag) {H : Hp} : ∀ (ds : List PyData) (vs : List V), PyData.hasDictAll ds = false → DqAll H vs ds → DpAll K H vs ds
  | [], _, _, h => by cases h; exact .nil
  | d :: ds, _, c, h => by
    have c2 : d.hasDict = false ∧ PyData.hasDictAll ds = false := by simpa [PyData.hasDictAll] using c
    cases h with
    | cons h1 h2 => exact .cons (dq_dp K d _ c2.1 h1) (dqall_dp K ds _ c2.2 h2)
end
theorem same_upd {H : Hp} {p : Addr} {o : HO} (h : H p = none) : Same H (upd H p o) := fun b x e => by
  rw [upd_ne (ne_of_none e h)]
  exact e
theorem dqall_len {H : Hp} : ∀ {ds : List PyData} {vs : List V}, DqAll H vs ds → vs.length = ds.length
  | [], _, h => by cases h; rfl
  | d :: ds, _, h => by
    cases h with
    | cons h1 h2 => rw [List.length_cons, List.length_cons, dqall_len h2]
theorem dqall_get' {H : Hp} : ∀ {ds : List PyData} {vs : List V} {i : Nat} {d : PyData}, DqAll H vs ds → ds[i]? = some d → ∃ v, vs[i]? = some v ∧ Dq H v d
  | [], _, i, v, h, e => by simp at e
  | d :: ds, _, i, v, h, e => by
    cases h with
    | cons h1 h2 =>
      cases i with
      | zero =>
        simp at e
        subst e
        exact ⟨_, rfl, h1⟩
      | succ i => exact dqall_get' (i := i) h2 (by simpa using e)
theorem dqall_app {H : Hp} : ∀ {ds es : List PyData} {vs us : List V}, DqAll H vs ds → DqAll H us es → DqAll H (vs ++ us) (ds ++ es)
  | [], _, _, _, h, g => by cases h; exact g
  | d :: ds, _, _, _, h, g => by
    cases h with
    | cons h1 h2 => exact .cons h1 (dqall_app h2 g)
theorem dqall_take {H : Hp} : ∀ {ds : List PyData} {vs : List V} (n : Nat), DqAll H vs ds → DqAll H (vs.take n) (ds.take n)
  | _, _, 0, _ => .nil
  | [], _, n + 1, h => by cases h; exact .nil
  | d :: ds, _, n + 1, h => by
    cases h with
    | cons h1 h2 => exact .cons h1 (dqall_take n h2)
theorem dqall_drop {H : Hp} : ∀ {ds : List PyData} {vs : List V} (n : Nat), DqAll H vs ds → DqAll H (vs.drop n) (ds.drop n)
  | _, _, 0, h => h
  | [], _, n + 1, h => by cases h; exact .nil
  | d :: ds, _, n + 1, h => by
    cases h with
    | cons h1 h2 => exact dqall_drop n h2
theorem dqall_set {H : Hp} {v : V} {d : PyData} (hd : Dq H v d) : ∀ {ds : List PyData} {vs : List V} (i : Nat), DqAll H vs ds → DqAll H (vs.set i v) (ds.set i d)
  | [], _, _, h => by cases h; exact .nil
  | d :: ds, _, 0, h => by
    cases h with
    | cons h1 h2 => exact .cons hd h2
  | d :: ds, _, i + 1, h => by
    cases h with
    | cons h1 h2 => exact .cons h1 (dqall_set hd i h2)
theorem dqall_ints {H : Hp} : ∀ (ns : List Int), DqAll H (ns.map V.int) (ns.map PyData.int)
  | [] => .nil
  | n :: ns => .cons (.int n) (dqall_ints ns)
theorem dqall_of_ints {H : Hp} : ∀ (ns : List Int) {vs : List V}, DqAll H vs (ns.map PyData.int) → vs = ns.map V.int
  | [], _, h => by cases h; rfl
  | n :: ns, _, h => by
    cases h with
    | cons h1 h2 =>
      cases h1
      rw [dqall_of_ints ns h2, List.map_cons]
theorem dqall_of_bools {H : Hp} : ∀ (ns : List Bool) {vs : List V}, DqAll H vs (ns.map PyData.bool) → vs = ns.map V.bl
  | [], _, h => by cases h; rfl
  | n :: ns, _, h => by
    cases h with
    | cons h1 h2 =>
      cases h1
      rw [dqall_of_bools ns h2, List.map_cons]
/-- an entry: its address, what is frozen, its own piece of the heap -/
abbrev Ent := Addr → Hp → Hp → Prop
abbrev Os := List (Addr × Ent)
abbrev VP := Hp → V → Prop
abbrev Slot := Hp → Option V → Prop
def Cl (φ : VP) (F : Hp) (v : V) : Prop := ∀ F', Same F F' → φ F' v
theorem Cl.mono {φ : VP} {F F' : Hp} {v : V} (h : Cl φ F v) (e : Same F F') : Cl φ F' v := fun G g => h G (e.trans g)
theorem Cl.now {φ : VP} {F : Hp} {v : V} (h : Cl φ F v) : φ F v := h F (Same.refl F)
def dat (d : PyData) : VP := fun F v => Dq F v d
def own (p : Addr) : VP := fun _ v => v = .ref p
theorem cl_dat {d : PyData} {F : Hp} {v : V} (h : Dq F v d) : Cl (dat d) F v := fun _ e => dq_mono e d v h
theorem cl_own {p : Addr} {F : Hp} : Cl (own p) F (.ref p) := fun _ _ => rfl
/-- the heap with one thing alone -/
def one (p : Addr) (o : HO) : Hp := upd (fun _ => none) p o
theorem one_at {p : Addr} {o : HO} : one p o p = some o := upd_same
theorem one_ne {p q : Addr} {o : HO} (h : q ≠ p) : one p o q = none := by unfold one; rw [upd_ne h]
theorem one_of {p q : Addr} {o : HO} (h : one p o q ≠ none) : q = p := Classical.byContradiction fun k => h (one_ne k)
/-- a list of one's own, its items data -/
def ol (ds : List PyData) : Ent := fun p F h => ∃ vs, h = one p (.lst vs) ∧ DqAll F vs ds
def sl (φ : VP) : Slot := fun F o => ∃ v, o = some v ∧ φ F v
def un : Slot := fun _ _ => True
/-- h over H -/
def ov (h H : Hp) : Hp := fun a => match h a with
  | some o => some o
  | none => H a
theorem ov_some {h H : Hp} {a : Addr} {o : HO} (e : h a = some o) : ov h H a = some o := by unfold ov; rw [e]
theorem ov_none {h H : Hp} {a : Addr} (e : h a = none) : ov h H a = H a := by unfold ov; rw [e]
theorem ov_one {p : Addr} {o : HO} {H : Hp} : ov (one p o) H = upd H p o := by
  funext a
  by_cases h : a = p
  · subst h; rw [ov_some one_at, upd_same]
  · rw [ov_none (one_ne h), upd_ne h]
/-- apart -/
def Ap (h k : Hp) : Prop := ∀ a, h a ≠ none → k a = none
theorem Ap.symm {h k : Hp} (x : Ap h k) : Ap k h := fun a e => Classical.byContradiction fun q => e (x a q)
inductive Pcs (F : Hp) : Os → List Hp → Prop
  | nil : Pcs F [] []
  | cons {q : Addr × Ent} {os : Os} {h : Hp} {hs : List Hp} : (∀ F', Same F F' → q.2 q.1 F' h) → Pcs F os hs → Pcs F (q :: os) (h :: hs)
theorem Pcs.mono {F F' : Hp} (e : Same F F') : ∀ {os : Os} {hs : List Hp}, Pcs F os hs → Pcs F' os hs
  | _, _, .nil => .nil
  | _, _, .cons h1 h2 => .cons (fun G g => h1 G (e.trans g)) (h2.mono e)
theorem Pcs.perm {F : Hp} {os os' : Os} (p : os.Perm os') : ∀ {hs : List Hp}, Pcs F os hs → ∃ hs', Pcs F os' hs' ∧ hs.Perm hs' := by
  induction p with
  | nil => intro hs h; exact ⟨hs, h, List.Perm.refl _⟩
  | cons x p ih =>
    intro hs h
    cases h with
    | cons h1 h2 =>
      obtain ⟨hs', a, b⟩ := ih h2
      exact ⟨_, .cons h1 a, b.cons _⟩
  | swap x y l =>
    intro hs h
    cases h with
    | cons h1 h2 =>
      cases h2 with
      | cons h2 h3 => exact ⟨_, .cons h2 (.cons h1 h3), List.Perm.swap _ _ _⟩
  | trans p q ih1 ih2 =>
    intro hs h
    obtain ⟨hs1, a, b⟩ := ih1 h
    obtain ⟨hs2, c, d⟩ := ih2 a
    exact ⟨hs2, c, b.trans d⟩
/-- no tuples -/
def NT (h : Hp) : Prop := ∀ a xs, h a ≠ some (.tup xs)
theorem nt_one {p : Addr} {o : HO} (h : ∀ xs, o ≠ .tup xs) : NT (one p o) := fun a xs e => by
  by_cases q : a = p
  · rw [q, one_at] at e
    exact h xs (Option.some.inj e)
  · rw [one_ne q] at e
    cases e
structure Ow (F : Hp) (os : Os) (H : Hp) : Prop where
  ex : Same F H
  ps : ∃ hs, Pcs F os hs ∧ (∀ h ∈ hs, Same h H ∧ Ap F h ∧ NT h) ∧ hs.Pairwise Ap
section
variable {F F' H H' : Hp} {os os' : Os} {p : Addr} {e e' : Ent} {o : HO}
theorem Ow.perm (h : Ow F os H) (hp : os.Perm os') : Ow F os' H := by
  obtain ⟨hs, a, b, c⟩ := h.ps
  obtain ⟨hs', a', q⟩ := a.perm hp
  exact ⟨h.ex, hs', a', fun k hk => b k (q.mem_iff.mpr hk), q.pairwise c fun x => x.symm⟩
/-- what is new is frozen -/
theorem Ow.frozen (h : Ow F os H) (hp : H p = none) : Ow (upd F p o) os (upd H p o) := by
  have fp : F p = none := h.ex.free hp
  obtain ⟨hs, a, b, c⟩ := h.ps
  refine ⟨fun q x eb => ?_, hs, a.mono (same_upd fp), fun k hk => ?_, c⟩
  · by_cases hb : q = p
    · subst hb
      rw [upd_same] at eb ⊢
      exact eb
    · rw [upd_ne hb] at eb ⊢
      exact h.ex q x eb
  · obtain ⟨s, x, nt⟩ := b k hk
    have kp : k p = none := s.free hp
    refine ⟨s.trans (same_upd hp), fun q eq => ?_, nt⟩
    by_cases hb : q = p
    · rw [hb]; exact kp
    · rw [upd_ne hb] at eq
      exact x q eq
/-- a piece of new things -/
theorem Ow.newP {k : Hp} (h : Ow F os H) (hk : ∀ a, k a ≠ none → H a = none) (nt : NT k) (he : ∀ F', Same F F' → e p F' k) : Ow F ((p, e) :: os) (ov k H) := by
  obtain ⟨hs, a, b, c⟩ := h.ps
  have s : Same H (ov k H) := fun q x eq => by
    cases z : k q with
    | none => rw [ov_none z]; exact eq
    | some u => rw [hk q (by rw [z]; simp)] at eq; cases eq
  refine ⟨h.ex.trans s, k :: hs, .cons he a, fun g hg => ?_, List.pairwise_cons.mpr ⟨fun g hg => ?_, c⟩⟩
  · rcases List.mem_cons.mp hg with rfl | hg
    · exact ⟨fun q x eq => ov_some eq, Ap.symm fun q eq => h.ex.free (hk q eq), nt⟩
    · exact ⟨(b g hg).1.trans s, (b g hg).2⟩
  · exact fun q eq => (b g hg).1.free (hk q eq)
theorem Ow.new (h : Ow F os H) (hp : H p = none) (he : ∀ F', Same F F' → e p F' (one p o)) (nt : ∀ xs, o ≠ .tup xs := by intro _ z; cases z) : Ow F ((p, e) :: os) (upd H p o) := by
  rw [← ov_one]
  exact h.newP (fun a ha => by rw [one_of ha]; exact hp) (nt_one nt) he
/-- the first piece, and what may stand in its place -/
theorem Ow.wr (h : Ow F ((p, e) :: os) H) : ∃ k, (∀ F', Same F F' → e p F' k) ∧ Same k H ∧ Ap F k ∧ NT k ∧
    ∀ q e' k', (∀ a, k' a ≠ none → k a ≠ none ∨ H a = none) → NT k' → (∀ F', Same F F' → e' q F' k') → Ow F ((q, e') :: os) (ov k' H) := by
  obtain ⟨hs, a, b, c⟩ := h.ps
  cases a with
  | @cons _ _ k hs h1 h2 =>
    obtain ⟨c1, c2⟩ := List.pairwise_cons.mp c
    obtain ⟨s, x, nt⟩ := b k List.mem_cons_self
    refine ⟨k, h1, s, x, nt, fun q e' k' hk nt' he => ?_⟩
    have out : ∀ g : Hp, Same g H → Ap k g → Same g (ov k' H) ∧ Ap k' g := fun g sg ag => by
      have z : ∀ a, k' a ≠ none → g a = none := fun a ha => by
        rcases hk a ha with r | r
        · exact ag a r
        · exact sg.free r
      refine ⟨fun a u eu => ?_, z⟩
      cases y : k' a with
      | none => rw [ov_none y]; exact sg a u eu
      | some w =>
        rw [z a (by rw [y]; simp)] at eu
        cases eu
    obtain ⟨f1, f2⟩ := out F h.ex x.symm
    refine ⟨f1, k' :: hs, .cons he h2, fun g hg => ?_, List.pairwise_cons.mpr ⟨fun g hg => ?_, c2⟩⟩
    · rcases List.mem_cons.mp hg with rfl | hg
      · exact ⟨fun a u eu => ov_some eu, f2.symm, nt'⟩
      · exact ⟨(out g (b g (List.mem_cons_of_mem _ hg)).1 (c1 g hg)).1, (b g (List.mem_cons_of_mem _ hg)).2⟩
    · exact (out g (b g (List.mem_cons_of_mem _ hg)).1 (c1 g hg)).2
theorem Ow.drop (h : Ow F ((p, e) :: os) H) : Ow F os H := by
  obtain ⟨hs, a, b, c⟩ := h.ps
  cases a with
  | cons h1 h2 => exact ⟨h.ex, _, h2, fun g hg => b g (List.mem_cons_of_mem _ hg), (List.pairwise_cons.mp c).2⟩
theorem Ow.freeze (h : Ow F ((p, e) :: os) H) : ∃ k, (∀ F', Same F F' → e p F' k) ∧ Same k H ∧ Ap F k ∧ Same F (ov k F) ∧ Ow (ov k F) os H := by
  obtain ⟨hs, a, b, c⟩ := h.ps
  cases a with
  | @cons _ _ k hs h1 h2 =>
    obtain ⟨c1, c2⟩ := List.pairwise_cons.mp c
    obtain ⟨s, x, _⟩ := b k List.mem_cons_self
    have sf : Same F (ov k F) := fun a u eu => by
      rw [ov_none (x a (by rw [eu]; simp))]
      exact eu
    refine ⟨k, h1, s, x, sf, fun a u eu => ?_, hs, h2.mono sf, fun g hg => ⟨(b g (List.mem_cons_of_mem _ hg)).1, fun a ha => ?_, (b g (List.mem_cons_of_mem _ hg)).2.2⟩, c2⟩
    · cases y : k a with
      | none => rw [ov_none y] at eu; exact h.ex a u eu
      | some w => rw [ov_some y] at eu; cases eu; exact s a _ y
    · cases y : k a with
      | none => rw [ov_none y] at ha; exact (b g (List.mem_cons_of_mem _ hg)).2.1 a ha
      | some w => exact c1 g hg a (by rw [y]; simp)
theorem Ow.grow (h : Ow F os H) (k : Same H H') : Ow F os H' := by
  obtain ⟨hs, a, b, c⟩ := h.ps
  exact ⟨h.ex.trans k, hs, a, fun g hg => ⟨(b g hg).1.trans k, (b g hg).2⟩, c⟩
/-- a tuple that stands is frozen -/
theorem Ow.tup {xs : List V} (h : Ow F os H) (hp : H p = some (.tup xs)) : Same F (upd F p (.tup xs)) ∧ Ow (upd F p (.tup xs)) os H := by
  obtain ⟨hs, a, b, c⟩ := h.ps
  have sf : Same F (upd F p (.tup xs)) := fun q u eu => by
    by_cases z : q = p
    · subst z
      rw [upd_same, ← h.ex q u eu, hp]
    · rw [upd_ne z]
      exact eu
  refine ⟨sf, fun q u eu => ?_, hs, a.mono sf, fun g hg => ⟨(b g hg).1, fun q eq => ?_, (b g hg).2.2⟩, c⟩
  · by_cases z : q = p
    · subst z
      rw [upd_same] at eu
      rw [hp, eu]
    · rw [upd_ne z] at eu
      exact h.ex q u eu
  · by_cases z : q = p
    · subst z
      cases y : g q with
      | none => rfl
      | some w =>
        have e1 := (b g hg).1 q w y
        rw [hp] at e1
        cases e1
        exact ((b g hg).2.2 q xs y).elim
    · rw [upd_ne z] at eq
      exact (b g hg).2.1 q eq
/-- an entry known by less -/
theorem Ow.weak (h : Ow F ((p, e) :: os) H) (k : ∀ F' g, e p F' g → e' p F' g) : Ow F ((p, e') :: os) H := by
  obtain ⟨hs, a, b, c⟩ := h.ps
  cases a with
  | cons h1 h2 => exact ⟨h.ex, _, .cons (fun G g => k G _ (h1 G g)) h2, b, c⟩
/-- entries of one thing -/
def Uni (e : Ent) (r : Hp → HO → Prop) : Prop := ∀ p F h, e p F h → ∃ o, h = one p o ∧ r F o
theorem Ow.atU {r : Hp → HO → Prop} (u : Uni e r) (h : Ow F ((p, e) :: os) H) : F p = none ∧ ∃ o, H p = some o ∧ e p F (one p o) ∧ r F o := by
  obtain ⟨k, h1, s, x, _, _⟩ := h.wr
  obtain ⟨o, rfl, hr⟩ := u p F k (h1 F (Same.refl F))
  exact ⟨Classical.byContradiction fun q => (by have := x p q; rw [one_at] at this; cases this), o, s p o one_at, h1 F (Same.refl F), hr⟩
theorem Ow.putU {r : Hp → HO → Prop} (u : Uni e r) (h : Ow F ((p, e) :: os) H) (he : ∀ F', Same F F' → e' p F' (one p o)) (nt : ∀ xs, o ≠ .tup xs := by intro _ z; cases z) : Ow F ((p, e') :: os) (upd H p o) := by
  obtain ⟨k, h1, s, x, _, w⟩ := h.wr
  obtain ⟨o', rfl, hr⟩ := u p F k (h1 F (Same.refl F))
  rw [← ov_one]
  exact w p e' _ (fun a ha => .inl (by rw [one_of ha, one_at]; simp)) (nt_one nt) he
theorem Ow.freezeU {r : Hp → HO → Prop} (u : Uni e r) (h : Ow F ((p, e) :: os) H) : ∃ o, H p = some o ∧ r F o ∧ Same F (upd F p o) ∧ Ow (upd F p o) os H := by
  obtain ⟨k, h1, s, x, sf, w⟩ := h.freeze
  obtain ⟨o, rfl, hr⟩ := u p F k (h1 F (Same.refl F))
  rw [ov_one] at sf w
  exact ⟨o, s p o one_at, hr, sf, w⟩
theorem uni_ol {ds : List PyData} : Uni (ol ds) (fun F o => ∃ vs, o = .lst vs ∧ DqAll F vs ds) := fun p F h ⟨vs, e, d⟩ => ⟨_, e, vs, rfl, d⟩
theorem Ow.atL {ds : List PyData} (h : Ow F ((p, ol ds) :: os) H) : F p = none ∧ ∃ vs, H p = some (.lst vs) ∧ DqAll F vs ds := by
  obtain ⟨a, o, b, _, vs, rfl, d⟩ := h.atU uni_ol
  exact ⟨a, vs, b, d⟩
theorem Ow.putL {ds ds' : List PyData} {vs : List V} (h : Ow F ((p, ol ds) :: os) H) (hd : DqAll F vs ds') : Ow F ((p, ol ds') :: os) (upd H p (.lst vs)) :=
  h.putU uni_ol fun G g => ⟨vs, rfl, dqall_mono g _ _ hd⟩
end
theorem perm_at {α : Type} : ∀ {l : List α} {k : Nat} {q : α}, l[k]? = some q → l.Perm (q :: l.eraseIdx k)
  | [], k, q, h => by simp at h
  | x :: l, 0, q, h => by
    simp at h
    subst h
    exact List.Perm.refl _
  | x :: l, k + 1, q, h => by
    have h1 : l[k]? = some q := by simpa using h
    exact ((perm_at h1).cons x).trans (List.Perm.swap q x _)
theorem perm_set {α : Type} : ∀ {l : List α} {k : Nat} {q q' : α}, l[k]? = some q → (q' :: l.eraseIdx k).Perm (l.set k q')
  | [], k, q, q', h => by simp at h
  | x :: l, 0, q, q', h => List.Perm.refl _
  | x :: l, k + 1, q, q', h => by
    have h1 : l[k]? = some q := by simpa using h
    exact (List.Perm.swap x q' _).trans ((perm_set (q' := q') h1).cons x)
structure Sl (F : Hp) (es : List Slot) (σ : L2.St) : Prop where
  len : σ.length = es.length
  get : ∀ (i : Nat) (s : Slot), es[i]? = some s → ∃ v : Option V, σ[i]? = some v ∧ ∀ F', Same F F' → s F' v
section
variable {F F' H : Hp} {es : List Slot} {σ : L2.St} {i : Nat} {φ : VP} {v : V}
theorem Sl.mono (h : Sl F es σ) (e : Same F F') : Sl F' es σ := ⟨h.len, fun i s q => let ⟨v, a, b⟩ := h.get i s q; ⟨v, a, fun G g => b G (e.trans g)⟩⟩
theorem Sl.val (h : Sl F es σ) (q : es[i]? = some (sl φ)) : ∃ v, σ[i]? = some (some v) ∧ Cl φ F v := by
  obtain ⟨o, a, b⟩ := h.get i _ q
  obtain ⟨v, rfl, _⟩ := b F (Same.refl F)
  refine ⟨v, a, fun G g => ?_⟩
  obtain ⟨u, e, z⟩ := b G g
  cases e
  exact z
theorem Sl.set (h : Sl F es σ) {s : Slot} {o : Option V} (k : ∀ F', Same F F' → s F' o) : Sl F (es.set i s) (σ.set i o) := by
  refine ⟨by rw [List.length_set, List.length_set, h.len], fun j t q => ?_⟩
  by_cases hj : i = j
  · subst hj
    have hi : i < es.length := by
      have := (List.getElem?_eq_some_iff.mp q).1
      rw [List.length_set] at this
      exact this
    rw [List.getElem?_set_self hi] at q
    cases q
    exact ⟨o, List.getElem?_set_self (by rw [h.len]; exact hi), k⟩
  · rw [List.getElem?_set_ne hj] at q ⊢
    exact h.get j t q
theorem Sl.put (h : Sl F es σ) (k : Cl φ F v) : Sl F (es.set i (sl φ)) (σ.set i (some v)) := h.set fun G g => ⟨v, rfl, k G g⟩
/-- slots may be forgotten: each new one is the old one or un -/
def Wk : List Slot → List Slot → Prop
  | [], [] => True
  | s :: ss, t :: ts => (t = s ∨ t = un) ∧ Wk ss ts
  | _, _ => False
theorem wk_get : ∀ {es es' : List Slot} {i : Nat} {t : Slot}, Wk es es' → es'[i]? = some t → ∃ s, es[i]? = some s ∧ (t = s ∨ t = un)
  | [], [], i, t, _, h => by simp at h
  | [], _ :: _, _, _, h, _ => h.elim
  | _ :: _, [], _, _, h, _ => h.elim
  | s :: ss, t :: ts, 0, u, h, e => by
    simp at e
    subst e
    exact ⟨s, rfl, h.1⟩
  | s :: ss, t :: ts, i + 1, u, h, e => wk_get (i := i) h.2 (by simpa using e)
theorem wk_len : ∀ {es es' : List Slot}, Wk es es' → es.length = es'.length
  | [], [], _ => rfl
  | [], _ :: _, h => h.elim
  | _ :: _, [], h => h.elim
  | s :: ss, t :: ts, h => by rw [List.length_cons, List.length_cons, wk_len h.2]
theorem Sl.weak {es' : List Slot} (h : Sl F es σ) (w : Wk es es') : Sl F es' σ := by
  refine ⟨h.len.trans (wk_len w), fun i t q => ?_⟩
  obtain ⟨s, a, b⟩ := wk_get w q
  obtain ⟨v, c, d⟩ := h.get i s a
  refine ⟨v, c, fun G g => ?_⟩
  rcases b with rfl | rfl
  · exact d G g
  · trivial
end
section
variable (X : Cx)
def WE (e : Expr) (σ : L2.St) (H : Hp) (Q : VK) : Prop := ∀ pins s, Inv X pins σ H s → wpAny (model X.prog X.w) X.A (eval e X.env) (EP X pins σ Q) X.xe s
def WT (e : Expr) (σ : L2.St) (H : Hp) (Q : Bool → Hp → Prop) : Prop := ∀ pins s, Inv X pins σ H s → wpAny (model X.prog X.w) X.A (isTrue e X.env (eval e X.env)) (TP X pins σ Q) X.xe s
def WW (e : Expr) (σ : L2.St) (H : Hp) (Q : Bool → Hp → Prop) : Prop := ∀ (whole : Sem Value) pins s, Inv X pins σ H s → wpAny (model X.prog X.w) X.A (isTrue e X.env whole) (TP X pins σ Q) X.xe s
def WA (es : List Expr) (σ : L2.St) (H : Hp) (Q : List V → Hp → Prop) : Prop := ∀ pos pins s, Inv X pins σ H s → wpAny (model X.prog X.w) X.A (spliced (backTo pos (starEach es X.env))) (AP X pins σ Q) X.xe s
def WS (st : Stmt) (D : Ends) (σ : L2.St) (H : Hp) : Prop := ∀ pins s, Inv X pins σ H s → wpAny (model X.prog X.w) X.A (exec st X.env) (SP X pins D) X.xe s
def WPs (sts : List Stmt) (D : Ends) (σ : L2.St) (H : Hp) : Prop := ∀ pins s, Inv X pins σ H s → wpAny (model X.prog X.w) X.A (execs sts X.env) (SP X pins D) X.xe s
end
section
variable {X : Cx} {e : Expr} {es : List Expr} {st : Stmt} {sts : List Stmt} {σ : L2.St} {H : Hp} {Q : VK} {te : TE} {tt : TT} {ta : TA} {ts : TS}
theorem pe_u : PE X e (WE X e) := ⟨fun pins s _ _ _ I h => h pins s I⟩
theorem pt_u : PT X e (WT X e) := ⟨fun pins s _ _ _ I h => h pins s I⟩
theorem pw_u : PW X e (WW X e) := ⟨fun w pins s _ _ _ I h => h w pins s I⟩
theorem pa_u : PA X es (WA X es) := ⟨fun pos pins s _ _ _ I h => h pos pins s I⟩
theorem ps_u : PS X st (WS X st) := ⟨fun pins s _ _ _ I h => h pins s I⟩
theorem pss_u : PSs X sts (WPs X sts) := ⟨fun pins s _ _ _ I h => h pins s I⟩
theorem we_of (h : PE X e te) (q : te σ H Q) : WE X e σ H Q := fun pins s I => h.run pins s σ H Q I q
theorem wt_of {Q : Bool → Hp → Prop} (h : PT X e tt) (q : tt σ H Q) : WT X e σ H Q := fun pins s I => h.run pins s σ H Q I q
theorem ww_of {Q : Bool → Hp → Prop} (h : PW X e tt) (q : tt σ H Q) : WW X e σ H Q := fun w pins s I => h.run w pins s σ H Q I q
theorem wa_of {Q : List V → Hp → Prop} (h : PA X es ta) (q : ta σ H Q) : WA X es σ H Q := fun pos pins s I => h.run pos pins s σ H Q I q
theorem ws_of {D : Ends} (h : PS X st ts) (q : ts D σ H) : WS X st D σ H := fun pins s I => h.run pins s σ H D I q
theorem wps_of {D : Ends} (h : PSs X sts ts) (q : ts D σ H) : WPs X sts D σ H := fun pins s I => h.run pins s σ H D I q
theorem wps_cons {D : Ends} (h : WS X st { D with nx := WPs X sts D } σ H) : WPs X (st :: sts) D σ H := wps_of (pss_cons ps_u pss_u) h
theorem wps_nil {D : Ends} (h : D.nx σ H) : WPs X [] D σ H := wps_of pss_nil h
end
def ClA : List VP → Hp → List V → Prop
  | [], _, vs => vs = []
  | φ :: φs, F, vs => ∃ v r, vs = v :: r ∧ Cl φ F v ∧ ClA φs F r
theorem cla_len {F : Hp} : ∀ {φs : List VP} {vs : List V}, ClA φs F vs → vs.length = φs.length
  | [], _, h => by rw [h]; rfl
  | φ :: φs, _, ⟨v, r, e1, h1, h2⟩ => by rw [e1, List.length_cons, List.length_cons, cla_len h2]
section
variable (X : Cx) (es : List Slot) (os : Os)
/-- e gives a value of which φ holds; what is owned goes from os to os' -/
def EX (e : Expr) (φ : VP) (os' : Os) : Prop := ∀ F σ H Q, Ow F os H → Sl F es σ → (∀ F' H' v, Same F F' → Ow F' os' H' → Cl φ F' v → Q v H') → WE X e σ H Q
/-- e gives a new list, owned from now on -/
def EN (e : Expr) (n : Ent) (os' : Os) : Prop := ∀ F σ H Q, Ow F os H → Sl F es σ → (∀ F' H' p, Same F F' → Ow F' ((p, n) :: os') H' → Q (.ref p) H') → WE X e σ H Q
def TX (e : Expr) (b : Bool) (os' : Os) : Prop := ∀ F σ H Q, Ow F os H → Sl F es σ → (∀ F' H', Same F F' → Ow F' os' H' → Q b H') → WT X e σ H Q
def WX (e : Expr) (b : Bool) (os' : Os) : Prop := ∀ F σ H Q, Ow F os H → Sl F es σ → (∀ F' H', Same F F' → Ow F' os' H' → Q b H') → WW X e σ H Q
def AX (as : List Expr) (φs : List VP) (os' : Os) : Prop := ∀ F σ H Q, Ow F os H → Sl F es σ → (∀ F' H' vs, Same F F' → Ow F' os' H' → ClA φs F' vs → Q vs H') → WA X as σ H Q
def SX (F0 : Hp) (sts : List Stmt) (D : Ends) : Prop := ∀ F σ H, Same F0 F → Ow F os H → Sl F es σ → WPs X sts D σ H
end
end Z
namespace Z
open PySem PySem.Spec PyProof.Rows L2
section
variable {X : Cx} {es : List Slot} {os os1 os2 os3 : Os} {a b c : Expr} {pos : Pos}
theorem EX.perm {φ : VP} {e : Expr} (h : EX X es os e φ os1) (k : os1.Perm os2) : EX X es os e φ os2 := fun F σ H Q ow sl q =>
  h F σ H Q ow sl fun F' H' v e o c => q F' H' v e (o.perm k) c
theorem EX.pre {φ : VP} {e : Expr} (h : EX X es os e φ os1) (k : os2.Perm os) : EX X es os2 e φ os1 := fun F σ H Q ow sl q => h F σ H Q (ow.perm k) sl q
/-- a new list, given away: it is data from now on -/
theorem EN.ex {e : Expr} {ds : List PyData} (h : EN X es os e (ol ds) os1) : EX X es os e (dat (.list ds)) os1 := fun F σ H Q ow sl q =>
  h F σ H Q ow sl fun F' H' p e o => by
    obtain ⟨u, hu, ⟨vs, rfl, hv⟩, s, o2⟩ := o.freezeU uni_ol
    exact q _ H' (.ref p) (e.trans s) o2 (cl_dat (.lst upd_same (dqall_mono s _ _ hv)))
theorem ex_name {i : Nat} {x : Str} {φ : VP} (hN : X.N[i]? = some x) (hv : Vis X.env.scope x) (hd : (x == ("__debug__" : Str)) = false) (hcd : (x == ("__classdict__" : Str)) = false) (h : es[i]? = some (sl φ)) : EX X es os (.Name x pos) φ os := fun F σ H Q ow sl q => by
  obtain ⟨v, e, k⟩ := sl.val h
  exact we_of (pe_var hN hv hd hcd) ⟨v, e, q F H v (Same.refl F) ow k⟩
theorem ex_int {i : Int} {j} : EX X es os (.Constant (.int i) j pos) (dat (.int i)) os := fun F σ H Q ow sl q => we_of pe_int (q F H _ (Same.refl F) ow (cl_dat (.int i)))
theorem ex_bool {i : Bool} {j} : EX X es os (.Constant (.bool i) j pos) (dat (.bool i)) os := fun F σ H Q ow sl q => we_of pe_bl (q F H _ (Same.refl F) ow (cl_dat (.bl i)))
theorem ex_none {j} : EX X es os (.Constant .none j pos) (dat .none) os := fun F σ H Q ow sl q => we_of pe_non (q F H _ (Same.refl F) ow (cl_dat .non))
theorem ex_str {x : Str} {j} : EX X es os (.Constant (.str x) j pos) (dat (.str x)) os := fun F σ H Q ow sl q => we_of pe_str (q F H _ (Same.refl F) ow (cl_dat (.str x)))
/-- a module's constant that holds an int -/
theorem ex_gint {x : Str} {i : Int} {t : Tok} (hg : Gl X x) (hm : X.mg x = some (.int i t)) (hd : (x == ("__debug__" : Str)) = false) : EX X es os (.Name x pos) (dat (.int i)) os := fun F σ H Q ow sl q =>
  we_of (pe_glob (v := .int i) hg hm ⟨t, rfl⟩ hd) (q F H _ (Same.refl F) ow (cl_dat (.int i)))
theorem clv_int {F : Hp} {v : V} {i : Int} (h : Cl (dat (.int i)) F v) : v = .int i := by
  have := h.now
  cases this
  rfl
theorem clv_bool {F : Hp} {v : V} {i : Bool} (h : Cl (dat (.bool i)) F v) : v = .bl i := by
  have := h.now
  cases this
  rfl
theorem clv_str {F : Hp} {v : V} {i : Str} (h : Cl (dat (.str i)) F v) : v = .str i := by
  have := h.now
  cases this
  rfl
/-- by values: r gives a datum where the operands are φ and ψ -/
def R2X (X : Cx) (r : R2) (φ ψ : VP) (os : Os) (d : VP) : Prop := ∀ F H x y Q, Ow F os H → Cl φ F x → Cl ψ F y → (∀ F' H' v, Same F F' → Ow F' os H' → Cl d F' v → Q v H') → r x y H Q
theorem ex_bin {op : Operator} {r : R2} {φ ψ d : VP} (ho : OpR X (binaryOp op) r) (hr : R2X X r φ ψ os2 d) (ha : EX X es os a φ os1) (hb : EX X es os1 b ψ os2) : EX X es os (.BinOp a op b pos) d os2 := fun F σ H Q ow sl q =>
  we_of (pe_op ho pe_u pe_u) (ha F σ H _ ow sl fun F1 H1 x e1 o1 c1 => hb F1 σ H1 _ o1 (sl.mono e1) fun F2 H2 y e2 o2 c2 =>
    hr F2 H2 x y Q o2 (c1.mono e2) c2 fun F3 H3 v e3 o3 c3 => q F3 H3 v ((e1.trans e2).trans e3) o3 c3)
theorem r2_I {C : Int → Int → Prop} {g : Int → Int → Int} {i j : Int} (h : C i j) : R2X X (rI C fun i j => .int (g i j)) (dat (.int i)) (dat (.int j)) os (dat (.int (g i j))) := fun F H x y Q ow cx cy q =>
  ⟨i, j, clv_int cx, clv_int cy, h, q F H _ (Same.refl F) ow (cl_dat (.int _))⟩
theorem r2_I0 {g : Int → Int → Int} {i j : Int} : R2X X (rI0 fun i j => .int (g i j)) (dat (.int i)) (dat (.int j)) os (dat (.int (g i j))) := fun F H x y Q ow cx cy q =>
  ⟨i, j, clv_int cx, clv_int cy, q F H _ (Same.refl F) ow (cl_dat (.int _))⟩
theorem r2_B0 {g : Int → Int → Bool} {i j : Int} : R2X X (rI0 fun i j => .bl (g i j)) (dat (.int i)) (dat (.int j)) os (dat (.bool (g i j))) := fun F H x y Q ow cx cy q =>
  ⟨i, j, clv_int cx, clv_int cy, q F H _ (Same.refl F) ow (cl_dat (.bl _))⟩
theorem ex_add {i j : Int} (ha : EX X es os a (dat (.int i)) os1) (hb : EX X es os1 b (dat (.int j)) os2) : EX X es os (.BinOp a .Add b pos) (dat (.int (i + j))) os2 := ex_bin op_add r2_I0 ha hb
theorem ex_sub {i j : Int} (ha : EX X es os a (dat (.int i)) os1) (hb : EX X es os1 b (dat (.int j)) os2) : EX X es os (.BinOp a .Sub b pos) (dat (.int (i - j))) os2 := ex_bin op_sub r2_I0 ha hb
/-- a product: told by mulO, which is none where both factors are very great -/
def mulO (i j : Int) : Option Int := if i.natAbs.log2 + j.natAbs.log2 < 1000000 then some (i * j) else none
theorem ex_mul {i j m : Int} (hm : mulO i j = some m) (ha : EX X es os a (dat (.int i)) os1) (hb : EX X es os1 b (dat (.int j)) os2) : EX X es os (.BinOp a .Mult b pos) (dat (.int m)) os2 := by
  unfold mulO at hm
  split at hm
  · rename_i h
    cases hm
    exact ex_bin op_mulW (r2_I h) ha hb
  · cases hm
/-- a product with a written factor -/
theorem ex_mulL {i j : Int} (h : -(2 ^ 64) < i ∧ i < 2 ^ 64) (ha : EX X es os a (dat (.int i)) os1) (hb : EX X es os1 b (dat (.int j)) os2) : EX X es os (.BinOp a .Mult b pos) (dat (.int (i * j))) os2 := ex_bin op_mul (r2_I (.inl h)) ha hb
theorem ex_mulR {i j : Int} (h : -(2 ^ 64) < j ∧ j < 2 ^ 64) (ha : EX X es os a (dat (.int i)) os1) (hb : EX X es os1 b (dat (.int j)) os2) : EX X es os (.BinOp a .Mult b pos) (dat (.int (i * j))) os2 := ex_bin op_mul (r2_I (.inr h)) ha hb
/-- i // j, i % j: for a positive j below 2 ^ 9000 -/
def fdivO (i j : Int) : Option Int := if 0 < j ∧ j.natAbs.log2 < 9000 then some (i / j) else none
def modO (i j : Int) : Option Int := if 0 < j then some (i % j) else none
theorem ex_fdiv {i j m : Int} (hm : fdivO i j = some m) (ha : EX X es os a (dat (.int i)) os1) (hb : EX X es os1 b (dat (.int j)) os2) : EX X es os (.BinOp a .FloorDiv b pos) (dat (.int m)) os2 := by
  unfold fdivO at hm
  split at hm
  · rename_i h
    cases hm
    exact ex_bin op_fdivW (r2_I h) ha hb
  · cases hm
theorem ex_mod {i j m : Int} (hm : modO i j = some m) (ha : EX X es os a (dat (.int i)) os1) (hb : EX X es os1 b (dat (.int j)) os2) : EX X es os (.BinOp a .Mod b pos) (dat (.int m)) os2 := by
  unfold modO at hm
  split at hm
  · rename_i h
    cases hm
    exact ex_bin op_mod (r2_I (C := fun _ j => 0 < j) h) ha hb
  · cases hm
/-- i ** j -/
def powO (i j : Int) : Option Int := if 0 ≤ j ∧ (Builtin.Int.intBits i : Int) * j ≤ 2 ^ 27 then some (i ^ j.toNat) else none
theorem op_powW : OpR X (binaryOp .Pow) (rI (fun i j => 0 ≤ j ∧ (Builtin.Int.intBits i : Int) * j ≤ 2 ^ 27) fun i j => .int (i ^ j.toNat)) := opI fun _ _ _ _ _ _ _ hc q => pow_int hc.1 hc.2 q
theorem ex_pow {i j m : Int} (hm : powO i j = some m) (ha : EX X es os a (dat (.int i)) os1) (hb : EX X es os1 b (dat (.int j)) os2) : EX X es os (.BinOp a .Pow b pos) (dat (.int m)) os2 := by
  unfold powO at hm
  split at hm
  · rename_i h
    cases hm
    exact ex_bin op_powW (r2_I h) ha hb
  · cases hm
theorem ex_neg {i : Int} (ha : EX X es os a (dat (.int i)) os1) : EX X es os (.UnaryOp .USub a pos) (dat (.int (-i))) os1 := fun F σ H Q ow sl q =>
  we_of (pe_un un_neg pe_u) (ha F σ H _ ow sl fun F1 H1 x e1 o1 c1 => ⟨i, clv_int c1, q F1 H1 _ e1 o1 (cl_dat (.int _))⟩)
theorem ex_cmp {op : CmpOp} {r : R2} {φ ψ d : VP} (ho : OpR X (compareOp op) r) (hr : R2X X r φ ψ os2 d) (hm : behindInMarks op b = false) (ha : EX X es os a φ os1) (hb : EX X es os1 b ψ os2) : EX X es os (.Compare a [op] [b] pos) d os2 := fun F σ H Q ow sl q =>
  we_of (pe_cmpR ho pe_u pe_u hm) (ha F σ H _ ow sl fun F1 H1 x e1 o1 c1 => hb F1 σ H1 _ o1 (sl.mono e1) fun F2 H2 y e2 o2 c2 =>
    hr F2 H2 x y Q o2 (c1.mono e2) c2 fun F3 H3 v e3 o3 c3 => q F3 H3 v ((e1.trans e2).trans e3) o3 c3)
theorem tx_cmp {op : CmpOp} {r : R2} {φ ψ : VP} {k : Bool} (ho : OpR X (compareOp op) r) (hr : R2X X r φ ψ os2 (dat (.bool k))) (hm : behindInMarks op b = false) (ha : EX X es os a φ os1) (hb : EX X es os1 b ψ os2) : TX X es os (.Compare a [op] [b] pos) k os2 := fun F σ H Q ow sl q =>
  wt_of (pt_cmpR ho pe_u pe_u hm) (ha F σ H _ ow sl fun F1 H1 x e1 o1 c1 => hb F1 σ H1 _ o1 (sl.mono e1) fun F2 H2 y e2 o2 c2 =>
    hr F2 H2 x y _ o2 (c1.mono e2) c2 fun F3 H3 v e3 o3 c3 => ⟨k, clv_bool c3, q F3 H3 ((e1.trans e2).trans e3) o3⟩)
theorem r2_lt {i j : Int} : R2X X (rI0 fun i j => .bl (decide (i < j))) (dat (.int i)) (dat (.int j)) os (dat (.bool (decide (i < j)))) := r2_B0
theorem r2_le {i j : Int} : R2X X (rI0 fun i j => .bl (decide (i ≤ j))) (dat (.int i)) (dat (.int j)) os (dat (.bool (decide (i ≤ j)))) := r2_B0
theorem r2_gt {i j : Int} : R2X X (rI0 fun i j => .bl (decide (j < i))) (dat (.int i)) (dat (.int j)) os (dat (.bool (decide (j < i)))) := r2_B0
theorem shaped_lay {d : PyData} (h : SeqAt.shaped d = true) : d.hasDict = false := by
  unfold SeqAt.shaped at h
  rw [Bool.and_eq_true] at h
  exact nod_lay d h.1
theorem r2_eqI {i j : Int} : R2X X rEq (dat (.int i)) (dat (.int j)) os (dat (.bool (decide (i = j)))) := fun F H x y Q ow cx cy q => by
  rw [clv_int cx, clv_int cy]
  refine ⟨rfl, ?_⟩
  rw [dec_int, Bool.beq_eq_decide_eq]
  exact q F H _ (Same.refl F) ow (cl_dat (.bl _))
theorem r2_neI {i j : Int} : R2X X rNe (dat (.int i)) (dat (.int j)) os (dat (.bool (!decide (i = j)))) := fun F H x y Q ow cx cy q => by
  rw [clv_int cx, clv_int cy]
  refine ⟨rfl, ?_⟩
  rw [dec_int, Bool.beq_eq_decide_eq]
  exact q F H _ (Same.refl F) ow (cl_dat (.bl _))
theorem r2_neS {i j : Str} : R2X X rNe (dat (.str i)) (dat (.str j)) os (dat (.bool (!decide (i = j)))) := fun F H x y Q ow cx cy q => by
  rw [clv_str cx, clv_str cy]
  refine ⟨rfl, ?_⟩
  have e : decide (V.str i = V.str j) = decide (i = j) := by simp only [V.str.injEq]
  rw [e]
  exact q F H _ (Same.refl F) ow (cl_dat (.bl _))
/-- a < b < c -/
theorem ex_chain {op op' : CmpOp} {r r' : R2} {φ ψ χ : VP} {k k' : Bool} (ho : OpR X (compareOp op) r) (ho' : OpR X (compareOp op') r') (hr : R2X X r φ ψ os2 (dat (.bool k))) (hr' : R2X X r' ψ χ os3 (dat (.bool k'))) (h23 : k = false → os2 = os3)
    (ha : EX X es os a φ os1) (hb : EX X es os1 b ψ os2) (hc : k = true → EX X es os2 c χ os3) (hlm : lastMarks [op, op'] [b, c] = false := by rfl) : EX X es os (.Compare a [op, op'] [b, c] pos) (dat (.bool (k && k'))) os3 := fun F σ H Q ow sl q =>
  we_of (pe_chain ho ho' pe_u pe_u pe_u hlm) (ha F σ H _ ow sl fun F1 H1 x e1 o1 c1 => hb F1 σ H1 _ o1 (sl.mono e1) fun F2 H2 y e2 o2 c2 =>
    hr F2 H2 x y _ o2 (c1.mono e2) c2 fun F3 H3 v e3 o3 c3 => ⟨k, clv_bool c3, by
      have e := (e1.trans e2).trans e3
      cases k with
      | true =>
        rw [if_pos rfl]
        refine hc rfl F3 σ H3 _ o3 (sl.mono e) fun F4 H4 z e4 o4 c4 => ?_
        exact hr' F4 H4 y z Q o4 ((c2.mono e3).mono e4) c4 fun F5 H5 v e5 o5 c5 => q F5 H5 v ((e.trans e4).trans e5) o5 (by simpa using c5)
      | false =>
        rw [if_neg Bool.false_ne_true]
        exact q F3 H3 _ e (h23 rfl ▸ o3) (cl_dat (.bl _))⟩)
theorem tx_val {e : Expr} {k : Bool} (h : EX X es os e (dat (.bool k)) os1) (he : ∀ whole, isTrue e X.env whole = (do let v ← whole; standAt e.pos; holding [v] (truthy v)) := by intro _; rfl) : TX X es os e k os1 := fun F σ H Q ow sl q =>
  wt_of (pt_val pe_u he) (h F σ H _ ow sl fun F1 H1 x e1 o1 c1 => ⟨k, clv_bool c1, q F1 H1 e1 o1⟩)
theorem tx_not {k : Bool} (h : TX X es os a k os1) : TX X es os (.UnaryOp .Not a pos) (!k) os1 := fun F σ H Q ow sl q =>
  wt_of (pt_not pt_u) (h F σ H _ ow sl fun F1 H1 e1 o1 => q F1 H1 e1 o1)
theorem WX.tx {e : Expr} {k : Bool} (h : WX X es os e k os1) : TX X es os e k os1 := fun F σ H Q ow sl q => wt_of (PW.pt pw_u) (h F σ H Q ow sl q)
theorem wx_and1 {k : Bool} (h : TX X es os a k os1) : WX X es os (.BoolOp .And [a] pos) k os1 := fun F σ H Q ow sl q => ww_of (pw_and1 pt_u) (h F σ H Q ow sl q)
theorem wx_or1 {k : Bool} (h : TX X es os a k os1) : WX X es os (.BoolOp .Or [a] pos) k os1 := fun F σ H Q ow sl q => ww_of (pw_or1 pt_u) (h F σ H Q ow sl q)
theorem wx_and {rest : List Expr} {k l m : Bool} (h1 : TX X es os a k os1) (h2 : k = true → WX X es os1 (.BoolOp .And (b :: rest) pos) l os2) (hf : k = false → os1 = os2) (hm : (k && l) = m) : WX X es os (.BoolOp .And (a :: b :: rest) pos) m os2 := fun F σ H Q ow sl q =>
  ww_of (pw_and pt_u pw_u) (h1 F σ H _ ow sl fun F1 H1 e1 o1 => by
    cases k with
    | true =>
      rw [if_pos rfl]
      exact h2 rfl F1 σ H1 Q o1 (sl.mono e1) fun F2 H2 e2 o2 => by rw [← hm] at q; exact q F2 H2 (e1.trans e2) o2
    | false =>
      rw [if_neg Bool.false_ne_true]
      rw [← hm] at q
      exact q F1 H1 e1 (hf rfl ▸ o1))
theorem wx_or {rest : List Expr} {k l m : Bool} (h1 : TX X es os a k os1) (h2 : k = false → WX X es os1 (.BoolOp .Or (b :: rest) pos) l os2) (hf : k = true → os1 = os2) (hm : (k || l) = m) : WX X es os (.BoolOp .Or (a :: b :: rest) pos) m os2 := fun F σ H Q ow sl q =>
  ww_of (pw_or pt_u pw_u) (h1 F σ H _ ow sl fun F1 H1 e1 o1 => by
    cases k with
    | false =>
      rw [if_neg Bool.false_ne_true]
      exact h2 rfl F1 σ H1 Q o1 (sl.mono e1) fun F2 H2 e2 o2 => by rw [← hm] at q; exact q F2 H2 (e1.trans e2) o2
    | true =>
      rw [if_pos rfl]
      rw [← hm] at q
      exact q F1 H1 e1 (hf rfl ▸ o1))
/-- as values -/
theorem ex_one {op} {φ : VP} (h : EX X es os a φ os1) : EX X es os (.BoolOp op [a] pos) φ os1 := fun F σ H Q ow sl q => we_of (pe_one pe_u) (h F σ H Q ow sl q)
theorem ex_and {rest : List Expr} {k l m : Bool} (h1 : EX X es os a (dat (.bool k)) os1) (h2 : k = true → EX X es os1 (.BoolOp .And (b :: rest) pos) (dat (.bool l)) os2) (hf : k = false → os1 = os2) (hm : (k && l) = m) :
    EX X es os (.BoolOp .And (a :: b :: rest) pos) (dat (.bool m)) os2 := fun F σ H Q ow sl q =>
  we_of (pe_and pe_u pe_u) (h1 F σ H _ ow sl fun F1 H1 x e1 o1 c1 => ⟨k, clv_bool c1, by
    subst hm
    cases k with
    | true =>
      rw [if_pos rfl]
      exact h2 rfl F1 σ H1 Q o1 (sl.mono e1) fun F2 H2 v e2 o2 c2 => q F2 H2 v (e1.trans e2) o2 (by simpa using c2)
    | false =>
      rw [if_neg Bool.false_ne_true]
      exact q F1 H1 _ e1 (hf rfl ▸ o1) (cl_dat (.bl _))⟩)
theorem ex_not {k : Bool} (h : EX X es os a (dat (.bool k)) os1) : EX X es os (.UnaryOp .Not a pos) (dat (.bool (!k))) os1 := fun F σ H Q ow sl q =>
  we_of (pe_not pe_u) (h F σ H _ ow sl fun F1 H1 x e1 o1 c1 => ⟨k, clv_bool c1, q F1 H1 _ e1 o1 (cl_dat (.bl _))⟩)
theorem ex_if {k : Bool} {φ : VP} (hc : TX X es os c k os1) (ha : k = true → EX X es os1 a φ os2) (hb : k = false → EX X es os1 b φ os2) : EX X es os (.IfExp c a b pos) φ os2 := fun F σ H Q ow sl q =>
  we_of (pe_ifExp pt_u pe_u pe_u) (hc F σ H _ ow sl fun F1 H1 e1 o1 => by
    cases k with
    | true =>
      rw [if_pos rfl]
      exact ha rfl F1 σ H1 Q o1 (sl.mono e1) fun F2 H2 v e2 => q F2 H2 v (e1.trans e2)
    | false =>
      rw [if_neg Bool.false_ne_true]
      exact hb rfl F1 σ H1 Q o1 (sl.mono e1) fun F2 H2 v e2 => q F2 H2 v (e1.trans e2))
theorem ax_nil : AX X es os [] [] os := fun F σ H Q ow sl q => wa_of pa_nil (q F H [] (Same.refl F) ow rfl)
theorem ax_cons {as : List Expr} {φ : VP} {φs : List VP} (ha : EX X es os a φ os1) (hr : AX X es os1 as φs os2) (hs : starEach (a :: as) X.env = (false, eval a X.env) :: starEach as X.env := by rfl) : AX X es os (a :: as) (φ :: φs) os2 := fun F σ H Q ow sl q =>
  wa_of (pa_cons pe_u pa_u hs) (ha F σ H _ ow sl fun F1 H1 x e1 o1 c1 => hr F1 σ H1 _ o1 (sl.mono e1) fun F2 H2 vs e2 o2 c2 => q F2 H2 _ (e1.trans e2) o2 ⟨x, vs, rfl, c1.mono e2, c2⟩)
theorem cla_dq {F : Hp} : ∀ {ds : List PyData} {vs : List V}, ClA (ds.map dat) F vs → DqAll F vs ds
  | [], _, h => by
    have e : _ = [] := h
    rw [e]
    exact .nil
  | d :: ds, _, ⟨v, r, e, h1, h2⟩ => by
    rw [e]
    exact .cons h1.now (cla_dq h2)
theorem ex_tup {as : List Expr} {x1} {ds : List PyData} (h : AX X es os as (ds.map dat) os1) (hl : ds.length ≤ sizeLine := by decide) : EX X es os (.Tuple as x1 pos) (dat (.tuple ds)) os1 := fun F σ H Q ow sl q =>
  we_of (pe_tup pa_u) (h F σ H _ ow sl fun F1 H1 vs e1 o1 c1 => by
    have hd := cla_dq c1
    refine ⟨by rw [dqall_len hd]; exact hl, fun p hp => ?_⟩
    have fp := o1.ex.free hp
    exact q _ _ _ (e1.trans (same_upd fp)) (o1.frozen hp) (cl_dat (.tup upd_same (dqall_mono (same_upd fp) _ _ hd))))
theorem en_lst {as : List Expr} {ds : List PyData} (h : AX X es os as (ds.map dat) os1) (hl : ds.length ≤ sizeLine := by decide) : EN X es os (.List as pos) (ol ds) os1 := fun F σ H Q ow sl q =>
  we_of (pe_lst pa_u) (h F σ H _ ow sl fun F1 H1 vs e1 o1 c1 => by
    have hd := cla_dq c1
    refine ⟨by rw [dqall_len hd]; exact hl, fun p hp => ?_⟩
    exact q _ _ _ e1 (o1.new hp fun G g => ⟨vs, rfl, dqall_mono g _ _ hd⟩))
/-- of every value of φ (its object owned or not): it is read as a list of ds -/
def RdL (X : Cx) (φ : VP) (os : Os) (ds : List PyData) : Prop := ∀ F H v, Ow F os H → Cl φ F v → ∃ a vs, v = .ref a ∧ SqL X.K H a vs ∧ DqAll F vs ds
def RdT (φ : VP) (ds : List PyData) : Prop := ∀ F v, Cl φ F v → ∃ a vs, v = .ref a ∧ F a = some (.tup vs) ∧ DqAll F vs ds
theorem rdl_dat {ds : List PyData} : RdL X (dat (.list ds)) os ds := fun F H v ow c => by
  have h := c.now
  cases h with
  | lst h1 h2 => exact ⟨_, _, rfl, .of (ow.ex _ _ h1), h2⟩
theorem rdl_own {p : Addr} {ds : List PyData} (k : Nat) (h : os[k]? = some (p, ol ds)) : RdL X (own p) os ds := fun F H v ow c => by
  obtain ⟨_, vs, ho, hv⟩ := (ow.perm (perm_at h)).atL
  exact ⟨p, vs, c.now, .of ho, hv⟩
/-- the script -/
def scr (K : PySem.W.Frag) (ns : List Int) : VP := fun F v => ∃ a, v = .ref a ∧ SqL K F a (ns.map V.int)
theorem rdl_scr {ns : List Int} : RdL X (scr X.K ns) os (ns.map PyData.int) := fun F H v ow c => by
  obtain ⟨a, rfl, h⟩ := c.now
  exact ⟨a, _, rfl, ow.ex.seq h, dqall_ints ns⟩
theorem rdt_dat {ds : List PyData} : RdT (dat (.tuple ds)) ds := fun F v c => by
  have h := c.now
  cases h with
  | tup h1 h2 => exact ⟨_, _, rfl, h1, h2⟩
/-- xs[i], i of any sign -/
def idx {α : Type} (xs : List α) (i : Int) : Option α := atI xs i
theorem atI_map {α β : Type} (f : α → β) {xs : List α} {i : Int} {v : α} (h : atI xs i = some v) : atI (xs.map f) i = some (f v) := by
  unfold atI at h ⊢
  rw [List.length_map]
  cases e : ixN xs.length i with
  | none => rw [e] at h; cases h
  | some j =>
    rw [e] at h
    have h' : xs[j]? = some v := h
    show (xs.map f)[j]? = some (f v)
    rw [List.getElem?_map, h']
    rfl
theorem atI_dq {F : Hp} {vs : List V} {ds : List PyData} {i : Int} {d : PyData} (h : DqAll F vs ds) (k : atI ds i = some d) : ∃ v, atI vs i = some v ∧ Dq F v d := by
  unfold atI at k ⊢
  rw [dqall_len h]
  cases e : ixN ds.length i with
  | none => rw [e] at k; cases k
  | some j =>
    rw [e] at k
    exact dqall_get' h k
theorem ex_ixL {φ : VP} {ds : List PyData} {i : Int} {d : PyData} (hr : RdL X φ os2 ds) (hk : atI ds i = some d) (ha : EX X es os a φ os1) (hb : EX X es os1 b (dat (.int i)) os2) (hp : PlainIx b := by exact fun _ _ => rfl) : EX X es os (.Subscript a b pos) (dat d) os2 := fun F σ H Q ow sl q =>
  we_of (pe_ix ix_list pe_u pe_u hp) (ha F σ H _ ow sl fun F1 H1 x e1 o1 c1 => hb F1 σ H1 _ o1 (sl.mono e1) fun F2 H2 y e2 o2 c2 => by
    obtain ⟨p, vs, rfl, hs, hv⟩ := hr F2 H2 x o2 (c1.mono e2)
    obtain ⟨v, hi, hd⟩ := atI_dq hv hk
    exact ⟨p, vs, i, v, rfl, clv_int c2, hs, hi, q F2 H2 v (e1.trans e2) o2 (cl_dat hd)⟩)
theorem ex_ixT {φ : VP} {ds : List PyData} {i : Int} {d : PyData} (hr : RdT φ ds) (hk : atI ds i = some d) (ha : EX X es os a φ os1) (hb : EX X es os1 b (dat (.int i)) os2) (hp : PlainIx b := by exact fun _ _ => rfl) : EX X es os (.Subscript a b pos) (dat d) os2 := fun F σ H Q ow sl q =>
  we_of (pe_ix ix_tup pe_u pe_u hp) (ha F σ H _ ow sl fun F1 H1 x e1 o1 c1 => hb F1 σ H1 _ o1 (sl.mono e1) fun F2 H2 y e2 o2 c2 => by
    obtain ⟨p, vs, rfl, hs, hv⟩ := hr F2 x (c1.mono e2)
    obtain ⟨v, hi, hd⟩ := atI_dq hv hk
    exact ⟨p, vs, i, v, rfl, clv_int c2, .of (o2.ex _ _ hs), hi, q F2 H2 v (e1.trans e2) o2 (cl_dat hd)⟩)
end
end Z
namespace Z
open PySem PySem.Spec PyProof.Rows L2
structure FnG (P : Program) (w : World) (K : PySem.W.Frag) (mg : Str → Option Value) (base : Heap) (C : CXT) (k : Nat) (f : Addr) (fd : FuncData) (ps : List Str) (sp : Sp) : Prop where
  len : ∀ vs H Q E, sp vs H Q E → vs.length = ps.length
  run : ∀ (A : Around) (outer : List Env) (s : Shared) (H : Hp) (args : Args) (us : List Value) (vs : List V) (Q : VK) (E : XK), A.guards = some [] → Room k A →
    Env0 P w K mg base A outer s H → BindsTo s fd args (ps.zip us) → Vals vs us → sp vs H Q E → codeAny (model P w) A (.call (.ref f) args) (CR C outer P w H s Q E) s
section
variable {P : Program} {w : World} {K : PySem.W.Frag} {mg : Str → Option Value} {base : Heap} {C : CXT}
theorem FnG.mono {j k : Nat} {f : Addr} {fd : FuncData} {ps : List Str} {sp : Sp} (F : FnG P w K mg base C j f fd ps sp) (h : j ≤ k) : FnG P w K mg base C k f fd ps sp :=
  ⟨F.len, fun A outer s H args us vs Q E hg hr => F.run A outer s H args us vs Q E hg (hr.mono h)⟩
/-- the body of a def is looked at once -/
theorem fun_ok {x qual : Str} {st : Stmt} {f : Addr} {fd : FuncData} {N ps : List Str} {k : Nat} {sp : Sp} (G : Fun K x qual st f fd) (S : FnScope N ps (defScope st)) (len : ∀ vs H Q E, sp vs H Q E → vs.length = ps.length)
    (body : ∀ (cdv : Value) (A : Around) (outer : List Env) (s : Shared) (H : Hp) (vs : List V) (Q : VK) (E : XK), A.guards = some [] → Room k (A.deeper (envOfC qual (defScope st) s.heap.objs.size f cdv)) → sp vs H Q E →
      WPs (cxOf C P w K mg base N qual (defScope st) f cdv A outer s H E) (defBody st) { nx := fun _ H' => Q .non H', rt := Q } (start N vs) H) : FnG P w K mg base C (k + 1) f fd ps sp := by
  obtain ⟨oc, od, kV, doc, pm, an, cdv, ct, osl, rfl, lk, hcd⟩ := G.ex
  refine ⟨len, ?_⟩
  intro A outer s H args us vs Q E hg hr e0 hb r hsp
  have inh : K.In s.heap := e0.mod.kin.keeps fun b o q => (e0.bs b o q).1
  have nol : s.heap.NoLimit := e0.mod.nolimit.keeps fun b o q => (e0.bs b o q).1
  refine codeAny_call_function hr.depth (inh _ _ lk) rfl S.co S.gen rfl (PySem.W.codeRec_of inh hcd) (hb _ _ _ _ ?_)
  refine wpAny_newFunctionEnv_cells S.kind ?_ ?_
  · rintro ⟨n, v⟩ hy
    rcases S.par n (List.of_mem_zip hy).1 with q | q
    · exact .inl q
    · exact .inr ⟨q, PySem.W.cellsFrom_some _ _ _ (.inl q)⟩
  · intro env he s1 x
    subst he
    refine ⟨nol.keeps x.toInCall.keep, codeAny_func ?_⟩
    have I := inv_start (CX := C) (P := P) (w := w) (E := E) S hr.hd e0 (len _ _ _ _ hsp) r x
    refine wpAny_mono (body cdv A outer s H vs Q E hg (hr.deeper _) hsp [] s1 I) ?_ fun _ _ z => z
    intro fl s' z
    cases fl with
    | ret u =>
      obtain ⟨v, σ', H', J, rv, q⟩ := z
      exact ⟨v, H', J.os, J.bare, J.base, J.hok, rv, q⟩
    | next =>
      obtain ⟨σ', H', J, q⟩ := z
      exact ⟨.non, H', J.os, J.bare, J.base, J.hok, rfl, q⟩
    | brk =>
      obtain ⟨_, _, _, q⟩ := z
      exact q.elim
    | cont =>
      obtain ⟨_, _, _, q⟩ := z
      exact q.elim
end
def visB (sc : Scope) (x : Str) : Bool := match sc.names.lookup x with
  | some .local => true
  | some .cell => true
  | some .free => true
  | _ => false
def locB (sc : Scope) (x : Str) : Bool := match sc.names.lookup x with
  | some .local => true
  | some .cell => true
  | _ => false
def glB (sc : Scope) (x : Str) : Bool := match sc.names.lookup x with
  | some .globalImplicit => true
  | _ => false
def dunB (x : Str) : Bool := !(x == ("__debug__" : Str)) && !(x == ("__classdict__" : Str)) && !(x == ("__name__" : Str))
theorem vis_of {sc : Scope} {x : Str} (h : visB sc x = true) : Vis sc x := by
  unfold visB at h
  split at h
  · exact .inl (by assumption)
  · exact .inr (.inl (by assumption))
  · exact .inr (.inr (by assumption))
  · cases h
theorem loc_of {sc : Scope} {x : Str} (h : locB sc x = true) : Loc sc x := by
  unfold locB at h
  split at h
  · exact .inl (by assumption)
  · exact .inr (by assumption)
  · cases h
/-- in X: the i-th name stands at its slot and is seen; the j-th global one is one -/
structure Bd (X : Cx) (N : List Str) (V G : List Str) (k : Nat) : Prop where
  hN : X.N = N
  nd : N.Nodup
  calm : X.calm = true
  gd : X.A.guards = some []
  room : Room k X.A
  vis : ∀ x ∈ V, Vis X.env.scope x ∧ dunB x = true
  gl : ∀ x ∈ G, Gl X x ∧ dunB x = true
theorem dun_d {x : Str} (h : dunB x = true) : (x == ("__debug__" : Str)) = false := by
  unfold dunB at h
  simp only [Bool.and_eq_true, Bool.not_eq_true'] at h
  exact h.1.1
theorem dun_c {x : Str} (h : dunB x = true) : (x == ("__classdict__" : Str)) = false := by
  unfold dunB at h
  simp only [Bool.and_eq_true, Bool.not_eq_true'] at h
  exact h.1.2
theorem dun_n {x : Str} (h : dunB x = true) : x ≠ "__name__" := by
  unfold dunB at h
  simp only [Bool.and_eq_true, Bool.not_eq_true', beq_eq_false_iff_ne, ne_eq] at h
  exact h.2
/-- the names of a body, all at once -/
def namB (sc : Scope) (V G : List Str) : Bool := (V.all fun x => visB sc x && dunB x) && (G.all fun x => glB sc x && dunB x)
theorem nam_vis {sc : Scope} {V G : List Str} (h : namB sc V G = true) : ∀ x ∈ V, Vis sc x ∧ dunB x = true := fun x hx => by
  unfold namB at h
  rw [Bool.and_eq_true, List.all_eq_true] at h
  have := h.1 x hx
  rw [Bool.and_eq_true] at this
  exact ⟨vis_of this.1, this.2⟩
theorem nam_gl {sc : Scope} {V G : List Str} (h : namB sc V G = true) : ∀ x ∈ G, sc.names.lookup x = some .globalImplicit ∧ dunB x = true := fun x hx => by
  unfold namB at h
  rw [Bool.and_eq_true, List.all_eq_true, List.all_eq_true] at h
  have := h.2 x hx
  rw [Bool.and_eq_true] at this
  refine ⟨?_, this.2⟩
  have q := this.1
  unfold glB at q
  split at q
  · assumption
  · cases q
section
variable {X : Cx} {es : List Slot} {os os1 os2 os3 : Os} {N V G : List Str} {k : Nat} {x : Str} {p pos : Pos} {e : Expr} {as : List Expr}
theorem ex_v {i j : Nat} {φ : VP} (B : Bd X N V G k) (hi : N[i]? = some x) (hj : V[j]? = some x) (h : es[i]? = some (sl φ)) : EX X es os (.Name x pos) φ os :=
  let ⟨a, b⟩ := B.vis x (List.mem_of_getElem? hj)
  ex_name (B.hN ▸ hi) a (dun_d b) (dun_c b) h
theorem ex_g {j : Nat} {i : Int} {t : Tok} (B : Bd X N V G k) (hj : G[j]? = some x) (hm : X.mg x = some (.int i t)) : EX X es os (.Name x pos) (dat (.int i)) os :=
  let ⟨a, b⟩ := B.gl x (List.mem_of_getElem? hj)
  ex_gint a hm (dun_d b)
def RCX (r : List L2.V → Hp → VK → Prop) (φs : List VP) (os : Os) (d : VP) (os' : Os) : Prop := ∀ F H vs Q, Ow F os H → ClA φs F vs → (∀ F' H' v, Same F F' → Ow F' os' H' → Cl d F' v → Q v H') → r vs H Q
def RCN (r : List L2.V → Hp → VK → Prop) (φs : List VP) (os : Os) (n : Ent) (os' : Os) : Prop := ∀ F H vs Q, Ow F os H → ClA φs F vs → (∀ F' H' p, Same F F' → Ow F' ((p, n) :: os') H' → Q (.ref p) H') → r vs H Q
theorem ex_fn {id : String} {r : List L2.V → Hp → VK → Prop} {φs : List VP} {d : VP} {j : Nat} (B : Bd X N V G k) (hj : G[j]? = some x) (hm : X.mg x = none) (hv : bootBuiltins x = some (.builtin id)) (hc : CallR X (.builtin id) r) (hr : RCX r φs os1 d os2)
    (ha : AX X es os (e :: as) φs os1) (he : starEach (e :: as) X.env = (false, eval e X.env) :: starEach as X.env := by rfl) (hpl : (backTo pos (starEach as X.env)).any (·.1) = false := by rfl) : EX X es os (.Call (.Name x p) (e :: as) [] pos) d os2 := fun F σ H Q ow sl q =>
  let ⟨a, b⟩ := B.gl x (List.mem_of_getElem? hj)
  we_of (pe_callB hc a hm hv pa_u (dun_n b) (dun_d b) he hpl) (ha F σ H _ ow sl fun F1 H1 vs e1 o1 c1 => hr F1 H1 vs Q o1 c1 fun F2 H2 v e2 => q F2 H2 v (e1.trans e2))
theorem ex_ty {T : String} {r : List L2.V → Hp → VK → Prop} {φs : List VP} {d : VP} {j : Nat} (B : Bd X N V G k) (hj : G[j]? = some x) (hm : X.mg x = none) (hv : bootBuiltins x = some (.type T)) (hc : CallR X (.type T) r) (hr : RCX r φs os1 d os2)
    (ha : AX X es os (e :: as) φs os1) (he : starEach (e :: as) X.env = (false, eval e X.env) :: starEach as X.env := by rfl) (hpl : (backTo pos (starEach as X.env)).any (·.1) = false := by rfl) : EX X es os (.Call (.Name x p) (e :: as) [] pos) d os2 := fun F σ H Q ow sl q =>
  let ⟨a, b⟩ := B.gl x (List.mem_of_getElem? hj)
  we_of (pe_callTy hc a hm hv pa_u (dun_n b) (dun_d b) he hpl) (ha F σ H _ ow sl fun F1 H1 vs e1 o1 c1 => hr F1 H1 vs Q o1 c1 fun F2 H2 v e2 => q F2 H2 v (e1.trans e2))
theorem en_ty {T : String} {r : List L2.V → Hp → VK → Prop} {φs : List VP} {n : Ent} {j : Nat} (B : Bd X N V G k) (hj : G[j]? = some x) (hm : X.mg x = none) (hv : bootBuiltins x = some (.type T)) (hc : CallR X (.type T) r) (hr : RCN r φs os1 n os2)
    (ha : AX X es os (e :: as) φs os1) (he : starEach (e :: as) X.env = (false, eval e X.env) :: starEach as X.env := by rfl) (hpl : (backTo pos (starEach as X.env)).any (·.1) = false := by rfl) : EN X es os (.Call (.Name x p) (e :: as) [] pos) n os2 := fun F σ H Q ow sl q =>
  let ⟨a, b⟩ := B.gl x (List.mem_of_getElem? hj)
  we_of (pe_callTy hc a hm hv pa_u (dun_n b) (dun_d b) he hpl) (ha F σ H _ ow sl fun F1 H1 vs e1 o1 c1 => hr F1 H1 vs Q o1 c1 fun F2 H2 v e2 => q F2 H2 v (e1.trans e2))
theorem cla1 {φ : VP} {F : Hp} {vs : List L2.V} (h : ClA [φ] F vs) : ∃ v, vs = [v] ∧ Cl φ F v := by
  obtain ⟨v, r, e, h1, h2⟩ := h
  have e2 : r = [] := h2
  subst e2
  exact ⟨v, e, h1⟩
theorem cla2 {φ ψ : VP} {F : Hp} {vs : List L2.V} (h : ClA [φ, ψ] F vs) : ∃ v u, vs = [v, u] ∧ Cl φ F v ∧ Cl ψ F u := by
  obtain ⟨v, r, e, h1, h2⟩ := h
  obtain ⟨u, e2, h3⟩ := cla1 h2
  subst e2
  exact ⟨v, u, e, h1, h3⟩
theorem rc_abs {i : Int} : RCX (fun xs H Q => ∃ i, xs = [L2.V.int i] ∧ Q (.int (if i < 0 then -i else i)) H) [dat (.int i)] os (dat (.int (if i < 0 then -i else i))) os := fun F H vs Q ow c q => by
  obtain ⟨v, rfl, h⟩ := cla1 c
  exact ⟨i, by rw [clv_int h], q F H _ (Same.refl F) ow (cl_dat (.int _))⟩
theorem rc_max {i j : Int} : RCX (fun xs H Q => ∃ i j, xs = [L2.V.int i, .int j] ∧ Q (.int (if j > i then j else i)) H) [dat (.int i), dat (.int j)] os (dat (.int (if j > i then j else i))) os := fun F H vs Q ow c q => by
  obtain ⟨v, u, rfl, h, h2⟩ := cla2 c
  exact ⟨i, j, by rw [clv_int h, clv_int h2], q F H _ (Same.refl F) ow (cl_dat (.int _))⟩
theorem rc_min {i j : Int} : RCX (fun xs H Q => ∃ i j, xs = [L2.V.int i, .int j] ∧ Q (.int (if j < i then j else i)) H) [dat (.int i), dat (.int j)] os (dat (.int (if j < i then j else i))) os := fun F H vs Q ow c q => by
  obtain ⟨v, u, rfl, h, h2⟩ := cla2 c
  exact ⟨i, j, by rw [clv_int h, clv_int h2], q F H _ (Same.refl F) ow (cl_dat (.int _))⟩
theorem rc_intI {i : Int} : RCX (fun xs H Q => (∃ i, xs = [L2.V.int i] ∧ Q (.int i) H) ∨ ∃ k, xs = [.bl k] ∧ Q (.int (if k then 1 else 0)) H) [dat (.int i)] os (dat (.int i)) os := fun F H vs Q ow c q => by
  obtain ⟨v, rfl, h⟩ := cla1 c
  exact .inl ⟨i, by rw [clv_int h], q F H _ (Same.refl F) ow (cl_dat (.int _))⟩
/-- str(i), repr(d): none where it would be too long -/
def strO (i : Int) : Option Str := if i.natAbs.log2 < 1920 then some (toString i) else none
theorem rc_str {i : Int} {t : Str} (h : strO i = some t) : RCX (fun xs H Q => ∃ i, xs = [L2.V.int i] ∧ i.natAbs.log2 < 1920 ∧ Q (.str (toString i)) H) [dat (.int i)] os (dat (.str t)) os := fun F H vs Q ow c q => by
  unfold strO at h
  split at h
  · rename_i hl
    cases h
    obtain ⟨v, rfl, h⟩ := cla1 c
    exact ⟨i, by rw [clv_int h], hl, q F H _ (Same.refl F) ow (cl_dat (.str _))⟩
  · cases h
theorem rc_lenL {φ : VP} {ds : List PyData} (hr : RdL X φ os ds) : RCX (fun xs H Q => ∃ p ys, xs = [L2.V.ref p] ∧ (SqL X.K H p ys ∨ SqT X.K H p ys) ∧ Q (.int ys.length) H) [φ] os (dat (.int (ds.length : Int))) os := fun F H vs Q ow c q => by
  obtain ⟨v, rfl, h⟩ := cla1 c
  obtain ⟨a, us, rfl, h1, h2⟩ := hr F H v ow h
  exact ⟨a, us, rfl, .inl h1, by rw [dqall_len h2]; exact q F H _ (Same.refl F) ow (cl_dat (.int _))⟩
theorem rc_lenT {φ : VP} {ds : List PyData} (hr : RdT φ ds) : RCX (fun xs H Q => ∃ p ys, xs = [L2.V.ref p] ∧ (SqL X.K H p ys ∨ SqT X.K H p ys) ∧ Q (.int ys.length) H) [φ] os (dat (.int (ds.length : Int))) os := fun F H vs Q ow c q => by
  obtain ⟨v, rfl, h⟩ := cla1 c
  obtain ⟨a, us, rfl, h1, h2⟩ := hr F v h
  exact ⟨a, us, rfl, .inr (.of (ow.ex _ _ h1)), by rw [dqall_len h2]; exact q F H _ (Same.refl F) ow (cl_dat (.int _))⟩
theorem rc_all {φ : VP} {bs : List Bool} (hr : RdL X φ os (bs.map PyData.bool)) : RCX (rAll X.K) [φ] os (dat (.bool (bs.all id))) os := fun F H vs Q ow c q => by
  obtain ⟨v, rfl, h⟩ := cla1 c
  obtain ⟨a, us, rfl, h1, h2⟩ := hr F H v ow h
  have e := dqall_of_bools bs h2
  subst e
  exact ⟨a, bs, rfl, h1, q F H _ (Same.refl F) ow (cl_dat (.bl _))⟩
theorem rc_tupL {φ : VP} {ds : List PyData} (hr : RdL X φ os ds) : RCX (fun xs H Q => ∃ p ys, xs = [L2.V.ref p] ∧ ((SqL X.K H p ys ∧ ∀ l, H l = none → Q (.ref l) (upd H l (.tup ys))) ∨ (SqT X.K H p ys ∧ Q (.ref p) H))) [φ] os (dat (.tuple ds)) os := fun F H vs Q ow c q => by
  obtain ⟨v, rfl, h⟩ := cla1 c
  obtain ⟨a, us, rfl, h1, h2⟩ := hr F H v ow h
  refine ⟨a, us, rfl, .inl ⟨h1, fun l hl => ?_⟩⟩
  have fp := ow.ex.free hl
  exact q _ _ _ (same_upd fp) (ow.frozen hl) (cl_dat (.tup upd_same (dqall_mono (same_upd fp) _ _ h2)))
theorem rc_lstL {φ : VP} {ds : List PyData} (hr : RdL X φ os ds) : RCN (fun xs H Q => ∃ p ys, xs = [L2.V.ref p] ∧ (SqL X.K H p ys ∨ SqT X.K H p ys) ∧ ∀ l, H l = none → Q (.ref l) (upd H l (.lst ys))) [φ] os (ol ds) os := fun F H vs Q ow c q => by
  obtain ⟨v, rfl, h⟩ := cla1 c
  obtain ⟨a, us, rfl, h1, h2⟩ := hr F H v ow h
  exact ⟨a, us, rfl, .inl h1, fun l hl => q F _ l (Same.refl F) (ow.new hl fun G g => ⟨us, rfl, dqall_mono g _ _ h2⟩)⟩
def isI : PyData → Bool
  | .int _ => true
  | _ => false
def shortO (d : PyData) : Bool := isI d || decide (d.shown.length ≤ sizeLine)
/-- repr of data -/
def rRepr (K : PySem.W.Frag) : List L2.V → Hp → VK → Prop := fun xs H Q => ∃ v d, xs = [v] ∧ Dp K H v d ∧ d.showable = true ∧ d.hasDict = false ∧ d.depth ≤ 60 ∧ shortO d = true ∧ Q (.str d.shown) H
theorem call_repr (gd : X.A.guards = some []) (room : Room k X.A) : CallR X (.builtin "repr") (rRepr X.K) := by
  intro pins s σ H vs us Q I r h
  obtain ⟨v, d, rfl, hd, h1, h2, h3, h4, q⟩ := h
  obtain ⟨u, rfl, ru⟩ := vals1 r
  have un := room.un
  have h5 : isI d = false → d.shown.length ≤ sizeLine := fun z => by
    unfold shortO at h4
    rw [z, Bool.false_or] at h4
    exact of_decide_eq_true h4
  cases hd with
  | non =>
    obtain rfl : u = Value.none := ru
    have e : (PyData.none).shown = ("None" : Str) := by simp only [PyData.shown]
    rw [e] at q
    exact PySem.P.repr_of_none ⟨.str _, H, I.tok _, ⟨_, rfl⟩, q⟩
  | bl b =>
    obtain rfl : u = Value.bool b := ru
    have e : (PyData.bool b).shown = (if b then "True" else "False" : Str) := by simp only [PyData.shown]
    rw [e] at q
    exact PySem.P.repr_of_bool ⟨.str _, H, I.tok _, ⟨_, rfl⟩, q⟩
  | int i =>
    obtain ⟨t, rfl⟩ := ru
    have e : (PyData.int i).shown = toString i := by simp only [PyData.shown]
    have h1' : i.natAbs.log2 < 1920 := by simpa only [PyData.showable, decide_eq_true_eq] using h1
    rw [e] at q
    exact PySem.P.repr_of_int h1' ⟨.str _, H, I.tok _, ⟨_, rfl⟩, q⟩
  | str x =>
    obtain ⟨t, rfl⟩ := ru
    have e : (PyData.str x).shown = reprText x := by simp only [PyData.shown]
    have h6 := h5 rfl
    rw [e] at q h6
    exact PySem.P.repr_of_str ⟨.str _, H, I.tok _, ⟨_, rfl⟩, q⟩ h6
  | lst hs ha =>
    obtain rfl : u = Value.ref _ := ru
    obtain ⟨as, hr⟩ := Dp.reads I _ _ (.ref _) (Dp.lst hs ha) rfl
    exact repr_of_reads' hr h1 (PyData.noDict_hsm h2) gd (by omega) (fun _ _ e => e) (fun h' tk t' hk => ⟨.str _, H, I.kept hk, ⟨_, rfl⟩, q⟩) (h5 rfl)
  | tup hs ha =>
    obtain rfl : u = Value.ref _ := ru
    obtain ⟨as, hr⟩ := Dp.reads I _ _ (.ref _) (Dp.tup hs ha) rfl
    exact repr_of_reads' hr h1 (PyData.noDict_hsm h2) gd (by omega) (fun _ _ e => e) (fun h' tk t' hk => ⟨.str _, H, I.kept hk, ⟨_, rfl⟩, q⟩) (h5 rfl)
def reprO (d : PyData) : Option Str := if d.showable = true ∧ d.hasDict = false ∧ d.depth ≤ 60 ∧ shortO d = true then some d.shown else none
theorem rc_repr {d : PyData} {t : Str} (h : reprO d = some t) : RCX (rRepr X.K) [dat d] os (dat (.str t)) os := fun F H vs Q ow c q => by
  unfold reprO at h
  split at h
  · rename_i hl
    cases h
    obtain ⟨v, rfl, h⟩ := cla1 c
    exact ⟨v, d, rfl, dq_dp _ _ _ hl.2.1 (dq_mono ow.ex _ _ h.now), hl.1, hl.2.1, hl.2.2.1, hl.2.2.2, q F H _ (Same.refl F) ow (cl_dat (.str _))⟩
  · cases h
end
end Z
namespace Z
open PySem PySem.Spec PyProof.Rows L2
/-- a def of the text that keeps a promise, as callers see it -/
structure Cal (P : Program) (w : World) (K : PySem.W.Frag) (mg : Str → Option Value) (base : Heap) (k : Nat) (x : Str) (st : Stmt) (ps : List Str) (sp : Sp) : Prop where
  ex : ∃ (f : Addr) (fd : FuncData), Fun K x x st f fd ∧ FnG P w K mg base CX0 k f fd ps sp ∧ mg x = some (.ref f) ∧ Binds K fd ps []
theorem Cal.mono {P : Program} {w : World} {K : PySem.W.Frag} {mg : Str → Option Value} {base : Heap} {j k : Nat} {x : Str} {st : Stmt} {ps : List Str} {sp : Sp} (c : Cal P w K mg base j x st ps sp) (h : j ≤ k) : Cal P w K mg base k x st ps sp :=
  let ⟨f, fd, a, b, d⟩ := c.ex
  ⟨f, fd, a, b.mono h, d⟩
section
variable {X : Cx} {k : Nat} {f : Addr} {fd : FuncData} {ps : List Str} {sp : Sp} {x : Str} {p pos : Pos} {e : Expr} {as : List Expr} {t tk : TA} {kws : List Keyword}
theorem run_g {pins : List (Addr × Obj)} {σ : L2.St} {H : Hp} {s : Shared} {Q : VK} {us zs : List Value} {kv : List (Str × Value)} {vs : List L2.V} (c : FnG X.prog X.w X.K X.mg X.base CX0 k f fd ps sp) (gd : X.A.guards = some []) (hr : Room k X.A)
    (I : Inv X pins σ H s) (b : BindsTo s fd ⟨us, kv⟩ (ps.zip zs)) (r : Vals vs zs) (h : sp vs H Q E0) : wpAny (model X.prog X.w) X.A (call (.ref f) us kv) (EP X pins σ Q) X.xe s := by
  refine wpAny_call (codeAny_mono (c.run X.A X.stack s H ⟨us, kv⟩ zs vs Q E0 gd hr I.env0 b r h) ?_)
  intro res s' hq
  cases res with
  | error e => exact hq.elim
  | ok fl =>
    cases fl with
    | ret u => exact I.after hq
    | next => exact hq.elim
    | brk => exact hq.elim
    | cont => exact hq.elim
theorem pe_g {st : Stmt} (c : Cal X.prog X.w X.K X.mg X.base k x st ps sp) (gd : X.A.guards = some []) (hr : Room k X.A) (hg : Gl X x) (ha : PA X (e :: as) t) (hdb : (x == ("__debug__" : Str)) = false)
    (he : starEach (e :: as) X.env = (false, eval e X.env) :: starEach as X.env := by rfl) (hpl : (backTo pos (starEach as X.env)).any (·.1) = false := by rfl) : PE X (.Call (.Name x p) (e :: as) [] pos) (fun σ H Q => t σ H fun vs H1 => sp vs H1 Q E0) := by
  obtain ⟨f, fd, Fn, G, hm, hb⟩ := c.ex
  refine ⟨fun pins s σ H Q I h => wpAny_Call_Name_kw (ld_glob I hg hm ?_ hdb)⟩
  refine PySem.W.callWith_K (h₀ := X.base) I.ok.mod.kin Fn.kp (thn (ha.run pos pins s σ H _ I h) ?_) he hpl
  rintro us s1 ⟨vs, H1, I1, r, q⟩
  refine ⟨I1.kIn, run_g G gd hr I1 ?_ r q⟩
  have := hb s1 us I1.kIn (by rw [List.append_nil, ← r.length]; exact G.len _ _ _ _ q)
  rw [List.append_nil] at this
  exact this
def kperm {α : Type} (n m : Nat) (pi : List Nat) (us ws : List α) : List α := if us.length = n ∧ ws.length = m then pi.filterMap fun i => (us ++ ws)[i]? else []
theorem vals_fm {vs : List L2.V} {us : List Value} (h : Vals vs us) : ∀ pi : List Nat, Vals (pi.filterMap fun i => vs[i]?) (pi.filterMap fun i => us[i]?)
  | [] => .nil
  | i :: pi => by
    rw [List.filterMap_cons, List.filterMap_cons]
    cases e : vs[i]? with
    | none =>
      rw [h.none_of e]
      exact vals_fm h pi
    | some v =>
      obtain ⟨u, e2, r⟩ := h.get e
      rw [e2]
      exact .cons r (vals_fm h pi)
theorem vals_kperm {n m : Nat} {pi : List Nat} {vs zs : List L2.V} {us ws : List Value} (h : Vals vs us) (h' : Vals zs ws) : Vals (kperm n m pi vs zs) (kperm n m pi us ws) := by
  unfold kperm
  rw [h.length, h'.length]
  split
  · exact vals_fm (h.append h') pi
  · exact .nil
/-- how the def st binds positional values and keywords ks -/
def KwOk (x : Str) (st : Stmt) (ps ks : List Str) (n : Nat) (pi : List Nat) : Prop := ∀ (kV doc pm : Value) (an : Option Addr) (cdv ct : Value) (us ws : List Value), us.length = n → ws.length = ks.length →
  bindArgs (PySem.W.fnOf x x (defArgs st) (defBody st) (defScope st) .none kV doc pm an cdv ct) ⟨us, ks.zip ws⟩ = pure (ps.zip (pi.filterMap fun i => (us ++ ws)[i]?))
theorem pe_gk0 {st : Stmt} {ks : List Str} {pi : List Nat} (c : Cal X.prog X.w X.K X.mg X.base k x st ps sp) (kw : KwOk x st ps ks 0 pi) (hps : 0 < ps.length) (gd : X.A.guards = some []) (hr : Room k X.A) (hg : Gl X x) (hk : PK X kws tk) (hdb : (x == ("__debug__" : Str)) = false)
    (hall : (backToKw pos (keywordEach kws X.env)).all (·.1.isSome) = true := by rfl) (hks : (backToKw pos (keywordEach kws X.env)).filterMap (·.1) = ks := by rfl)
    (hpl : ((backTo pos (starEach [] X.env)).any (·.1) || (backToKw pos (keywordEach kws X.env)).any (·.1.isNone)) = false := by rfl) :
    PE X (.Call (.Name x p) [] kws pos) (fun σ H Q => tk σ H fun zs H2 => sp (kperm 0 ks.length pi [] zs) H2 Q E0) := by
  obtain ⟨f, fd, Fn, G, hm, hb⟩ := c.ex
  refine ⟨fun pins s σ H Q I h => wpAny_Call_Name_kw (ld_glob I hg hm ?_ hdb)⟩
  refine PySem.W.callWith_KW0 (h₀ := X.base) I.ok.mod.kin Fn.kp hall ?_ hpl
  refine thn (hk.run pos pins s σ H _ I h) ?_
  rintro ws s2 ⟨zs, H2, I2, rz, q2⟩
  refine ⟨I2.kIn, ?_⟩
  rw [hks]
  have rk := vals_kperm (n := 0) (m := ks.length) (pi := pi) (show Vals [] [] from .nil) rz
  refine run_g (us := []) G gd hr I2 (.of_eq ?_) rk q2
  have hl := G.len _ _ _ _ q2
  obtain ⟨oc, od, kV, doc, pm, an, cdv, ct, osl, rfl, _, _⟩ := Fn.ex
  unfold kperm at hl ⊢
  split at hl
  · rename_i hh
    rw [if_pos (by rw [← rz.length]; exact hh)]
    exact kw kV doc pm an cdv ct [] ws rfl (by rw [← rz.length]; exact hh.2)
  · have : ps.length = 0 := hl.symm
    omega
end
/-- it hands back the value of which res tells -/
def spZ {α β : Type} (ps : α → List VP) (pre : α → Os) (m : α → Option β) (res : α → β → VP) (post : α → β → Os) : Sp := fun vs H Q _ =>
  ∃ (a : α) (b : β) (F : Hp) (os : Os), ClA (ps a) F vs ∧ Ow F (pre a ++ os) H ∧ m a = some b ∧ ∀ F' H' v, Same F F' → Ow F' (post a b ++ os) H' → Cl (res a b) F' v → Q v H'
/-- it hands back a new list -/
def spN {α β : Type} (ps : α → List VP) (pre : α → Os) (m : α → Option β) (n : α → β → Ent) (post : α → β → Os) : Sp := fun vs H Q _ =>
  ∃ (a : α) (b : β) (F : Hp) (os : Os), ClA (ps a) F vs ∧ Ow F (pre a ++ os) H ∧ m a = some b ∧ ∀ F' H' p, Same F F' → Ow F' ((p, n a b) :: (post a b ++ os)) H' → Q (.ref p) H'
theorem spZ_len {α β : Type} {ps : α → List VP} {pre : α → Os} {m : α → Option β} {res : α → β → VP} {post : α → β → Os} {n : Nat} (h : ∀ a, (ps a).length = n) : ∀ vs H Q E, spZ ps pre m res post vs H Q E → vs.length = n :=
  fun vs H Q E ⟨a, b, F, os, c, _⟩ => (cla_len c).trans (h a)
theorem spN_len {α β : Type} {ps : α → List VP} {pre : α → Os} {m : α → Option β} {n : α → β → Ent} {post : α → β → Os} {k : Nat} (h : ∀ a, (ps a).length = k) : ∀ vs H Q E, spN ps pre m n post vs H Q E → vs.length = k :=
  fun vs H Q E ⟨a, b, F, os, c, _⟩ => (cla_len c).trans (h a)
section
variable {X : Cx} {es : List Slot} {os os1 os2 rest : Os} {N V G : List Str} {k j : Nat} {x : Str} {p pos : Pos} {e : Expr} {as : List Expr} {kws : List Keyword} {ks : List Str} {st : Stmt} {pn : List Str} {α β : Type} {ps : α → List VP} {pre : α → Os} {m : α → Option β} {res : α → β → VP} {post : α → β → Os} {n : α → β → Ent} {gi : Nat}
theorem ex_call (B : Bd X N V G k) (hj : G[gi]? = some x) (c : Cal X.prog X.w X.K X.mg X.base j x st pn (spZ ps pre m res post)) (hl : j ≤ k) {a : α} {b : β} (hm : m a = some b) (ha : AX X es os (e :: as) (ps a) (pre a ++ rest))
    (he : starEach (e :: as) X.env = (false, eval e X.env) :: starEach as X.env := by rfl) (hpl : (backTo pos (starEach as X.env)).any (·.1) = false := by rfl) : EX X es os (.Call (.Name x p) (e :: as) [] pos) (res a b) (post a b ++ rest) := fun F σ H Q ow sl q =>
  let ⟨u, v⟩ := B.gl x (List.mem_of_getElem? hj)
  we_of (pe_g (c.mono hl) B.gd B.room u pa_u (dun_d v) he hpl) (ha F σ H _ ow sl fun F1 H1 vs e1 o1 c1 => ⟨a, b, F1, rest, c1, o1, hm, fun F2 H2 v e2 o2 c2 => q F2 H2 v (e1.trans e2) o2 c2⟩)
theorem en_call (B : Bd X N V G k) (hj : G[gi]? = some x) (c : Cal X.prog X.w X.K X.mg X.base j x st pn (spN ps pre m n post)) (hl : j ≤ k) {a : α} {b : β} (hm : m a = some b) (ha : AX X es os (e :: as) (ps a) (pre a ++ rest))
    (he : starEach (e :: as) X.env = (false, eval e X.env) :: starEach as X.env := by rfl) (hpl : (backTo pos (starEach as X.env)).any (·.1) = false := by rfl) : EN X es os (.Call (.Name x p) (e :: as) [] pos) (n a b) (post a b ++ rest) := fun F σ H Q ow sl q =>
  let ⟨u, v⟩ := B.gl x (List.mem_of_getElem? hj)
  we_of (pe_g (c.mono hl) B.gd B.room u pa_u (dun_d v) he hpl) (ha F σ H _ ow sl fun F1 H1 vs e1 o1 c1 => ⟨a, b, F1, rest, c1, o1, hm, fun F2 H2 v e2 o2 => q F2 H2 v (e1.trans e2) o2⟩)
/-- the values of keywords -/
def KX (X : Cx) (es : List Slot) (os : Os) (kws : List Keyword) (φs : List VP) (os' : Os) : Prop := ∀ F σ H, Ow F os H → Sl F es σ → ∀ Q : List L2.V → Hp → Prop, (∀ F' H' vs, Same F F' → Ow F' os' H' → ClA φs F' vs → Q vs H') →
  ∀ pos pins s, Inv X pins σ H s → wpAny (model X.prog X.w) X.A (evalAll ((backToKw pos (keywordEach kws X.env)).map (·.2))) (AP X pins σ Q) X.xe s
def WK (X : Cx) (kws : List Keyword) (σ : L2.St) (H : Hp) (Q : List L2.V → Hp → Prop) : Prop := ∀ pos pins s, Inv X pins σ H s → wpAny (model X.prog X.w) X.A (evalAll ((backToKw pos (keywordEach kws X.env)).map (·.2))) (AP X pins σ Q) X.xe s
theorem pk_u : PK X kws (WK X kws) := ⟨fun pos pins s _ _ _ I h => h pos pins s I⟩
theorem kx_nil : KX X es os [] [] os := fun F σ H ow sl Q q pos pins s I => pk_nil.run pos pins s σ H Q I (q F H [] (Same.refl F) ow rfl)
theorem kx_cons {nm : Option Str} {kpos : Pos} {φ : VP} {φs : List VP} (ha : EX X es os e φ os1) (hr : KX X es os1 kws φs os2) : KX X es os (⟨nm, e, kpos⟩ :: kws) (φ :: φs) os2 := fun F σ H ow sl Q q pos pins s I =>
  (pk_cons pe_u pk_u).run pos pins s σ H Q I (ha F σ H _ ow sl fun F1 H1 x e1 o1 c1 => hr F1 σ H1 o1 (sl.mono e1) _ fun F2 H2 vs e2 o2 c2 => q F2 H2 _ (e1.trans e2) o2 ⟨x, vs, rfl, c1.mono e2, c2⟩)
theorem cla_get {F : Hp} : ∀ {φs : List VP} {vs : List L2.V} {i : Nat}, ClA φs F vs → (φs[i]? = none ∧ vs[i]? = none) ∨ ∃ φ v, φs[i]? = some φ ∧ vs[i]? = some v ∧ Cl φ F v
  | [], _, i, h => by
    have e : _ = [] := h
    subst e
    exact .inl ⟨rfl, rfl⟩
  | φ :: φs, _, 0, ⟨v, r, e, h1, h2⟩ => by
    subst e
    exact .inr ⟨φ, v, rfl, rfl, h1⟩
  | φ :: φs, _, i + 1, ⟨v, r, e, h1, h2⟩ => by
    subst e
    rw [List.getElem?_cons_succ, List.getElem?_cons_succ]
    exact cla_get h2
theorem cla_fm {F : Hp} {φs : List VP} {vs : List L2.V} (h : ClA φs F vs) : ∀ pi : List Nat, ClA (pi.filterMap fun i => φs[i]?) F (pi.filterMap fun i => vs[i]?)
  | [] => rfl
  | i :: pi => by
    rw [List.filterMap_cons, List.filterMap_cons]
    rcases cla_get (i := i) h with ⟨e1, e2⟩ | ⟨φ, v, e1, e2, c⟩
    · rw [e1, e2]
      exact cla_fm h pi
    · rw [e1, e2]
      exact ⟨v, _, rfl, c, cla_fm h pi⟩
theorem cla_app {F : Hp} : ∀ {φs ψs : List VP} {vs us : List L2.V}, ClA φs F vs → ClA ψs F us → ClA (φs ++ ψs) F (vs ++ us)
  | [], _, _, _, h, g => by
    have e : _ = [] := h
    subst e
    exact g
  | φ :: φs, _, _, _, ⟨v, r, e, h1, h2⟩, g => by
    subst e
    exact ⟨v, _, rfl, h1, cla_app h2 g⟩
theorem cla_kperm {F : Hp} {φs ψs : List VP} {vs us : List L2.V} {n m : Nat} {pi : List Nat} (h : ClA φs F vs) (g : ClA ψs F us) : ClA (kperm n m pi φs ψs) F (kperm n m pi vs us) := by
  unfold kperm
  rw [cla_len h, cla_len g]
  split
  · exact cla_fm (cla_app h g) pi
  · rfl
theorem ex_callk0 {ψs : List VP} {pi : List Nat} (B : Bd X N V G k) (hj : G[gi]? = some x) (c : Cal X.prog X.w X.K X.mg X.base j x st pn (spZ ps pre m res post)) (hl : j ≤ k) (kw : KwOk x st pn ks 0 pi) (hpn : 0 < pn.length) {a : α} {b : β} (hm : m a = some b) (hk : KX X es os kws ψs (pre a ++ rest))
    (hp : ps a = kperm 0 ks.length pi [] ψs)
    (hall : (backToKw pos (keywordEach kws X.env)).all (·.1.isSome) = true := by rfl) (hks : (backToKw pos (keywordEach kws X.env)).filterMap (·.1) = ks := by rfl)
    (hpl : ((backTo pos (starEach [] X.env)).any (·.1) || (backToKw pos (keywordEach kws X.env)).any (·.1.isNone)) = false := by rfl) : EX X es os (.Call (.Name x p) [] kws pos) (res a b) (post a b ++ rest) := fun F σ H Q ow sl q =>
  let ⟨u, v⟩ := B.gl x (List.mem_of_getElem? hj)
  we_of (pe_gk0 (c.mono hl) kw hpn B.gd B.room u pk_u (dun_d v) hall hks hpl) (hk F σ H ow sl _ fun F2 H2 zs e2 o2 c2 =>
    ⟨a, b, F2, rest, by rw [hp]; exact cla_kperm (φs := []) (vs := []) rfl c2, o2, hm, fun F3 H3 v e3 o3 c3 => q F3 H3 v (e2.trans e3) o3 c3⟩)
end
end Z
namespace Z
open PySem PySem.Spec PyProof.Rows L2
/-- what a body's statements need beside Bd -/
structure Bt (X : Cx) (V : List Str) : Prop where
  fn : ∀ x, X.fn x = true
  loc : ∀ x ∈ V, Loc X.env.scope x
  po : PassesOwn (model X.prog X.w) X.A X.env X.xe
/-- the state fits -/
def At (F0 : Hp) (es : List Slot) (os : Os) (σ : L2.St) (H : Hp) : Prop := ∃ F, Same F0 F ∧ Ow F os H ∧ Sl F es σ
section
variable {X : Cx} {es es' : List Slot} {os os1 os2 : Os} {F0 : Hp} {rest : List Stmt} {D : Ends} {N V G W : List Str} {k i vi : Nat} {x : Str} {pos pos' : Pos} {e : Expr} {φ : VP} {n : Ent}
theorem SX.at (h : SX X es os F0 rest D) {σ : L2.St} {H : Hp} (a : At F0 es os σ H) : WPs X rest D σ H := let ⟨F, s, ow, sl⟩ := a; h F σ H s ow sl
theorem SX.perm (h : SX X es os F0 rest D) (p : os1.Perm os) : SX X es os1 F0 rest D := fun F σ H s ow sl => h F σ H s (ow.perm p) sl
theorem SX.weak (h : SX X es' os F0 rest D) (w : Wk es es') : SX X es os F0 rest D := fun F σ H s ow sl => h F σ H s ow (sl.weak w)
theorem SX.drop {q : Addr × Ent} (h : SX X es os F0 rest D) : SX X es (q :: os) F0 rest D := fun F σ H s ow sl => h F σ H s ow.drop sl
theorem sx_nil (h : ∀ σ H, At F0 es os σ H → D.nx σ H) : SX X es os F0 [] D := fun F σ H s ow sl => wps_nil (h σ H ⟨F, s, ow, sl⟩)
/-- behind a branch the rest goes on -/
theorem sx_fall {D' : Ends} (h : SX X es os F0 rest D') (e : D.nx = WPs X rest D') : SX X es os F0 [] D := sx_nil fun σ H a => by
  rw [e]
  exact h.at a
theorem sx_asg (B : Bd X N W G k) (T : Bt X V) (hi : N[i]? = some x) (hv : V[vi]? = some x) (he : EX X es os e φ os1) (h : SX X (es.set i (sl φ)) os1 F0 rest D) (hs : swapsWith e (some (.Name x pos')) pos.line X.env = pure false := by rfl) :
    SX X es os F0 (.Assign [.Name x pos'] e pos :: rest) D := fun F σ H s ow sl =>
  wps_cons (ws_of (ps_set (B.hN ▸ B.nd) (B.hN ▸ hi) (T.loc x (List.mem_of_getElem? hv)) pe_u hs (.inl (T.fn x))) (he F σ H _ ow sl fun F1 H1 v e1 o1 c1 => h F1 _ H1 (s.trans e1) o1 ((sl.mono e1).put c1)))
theorem sx_asgN (B : Bd X N W G k) (T : Bt X V) (hi : N[i]? = some x) (hv : V[vi]? = some x) (he : EN X es os e n os1) (h : ∀ p, SX X (es.set i (sl (own p))) ((p, n) :: os1) F0 rest D) (hs : swapsWith e (some (.Name x pos')) pos.line X.env = pure false := by rfl) :
    SX X es os F0 (.Assign [.Name x pos'] e pos :: rest) D := fun F σ H s ow sl =>
  wps_cons (ws_of (ps_set (B.hN ▸ B.nd) (B.hN ▸ hi) (T.loc x (List.mem_of_getElem? hv)) pe_u hs (.inl (T.fn x))) (he F σ H _ ow sl fun F1 H1 p e1 o1 => h p F1 _ H1 (s.trans e1) o1 ((sl.mono e1).put cl_own)))
theorem sx_expr (he : EX X es os e φ os1) (h : SX X es os1 F0 rest D) (hs : swapsWith e none pos.line X.env = pure false := by rfl) : SX X es os F0 (.Expr e pos :: rest) D := fun F σ H s ow sl =>
  wps_cons (ws_of (ps_expr pe_u hs) (he F σ H _ ow sl fun F1 H1 v e1 o1 c1 => h F1 σ H1 (s.trans e1) o1 (sl.mono e1)))
theorem sx_ret (he : EX X es os e φ os1) (h : ∀ F H v, Same F0 F → Ow F os1 H → Cl φ F v → D.rt v H) : SX X es os F0 (.Return (some e) pos :: rest) D := fun F σ H s ow sl =>
  wps_cons (ws_of (ps_ret pe_u) (he F σ H _ ow sl fun F1 H1 v e1 o1 c1 => h F1 H1 v (s.trans e1) o1 c1))
theorem sx_retN (he : EN X es os e n os1) (h : ∀ F H p, Same F0 F → Ow F ((p, n) :: os1) H → D.rt (.ref p) H) : SX X es os F0 (.Return (some e) pos :: rest) D := fun F σ H s ow sl =>
  wps_cons (ws_of (ps_ret pe_u) (he F σ H _ ow sl fun F1 H1 v e1 o1 => h F1 H1 v (s.trans e1) o1))
theorem sx_if {c : Expr} {a b : List Stmt} {t : Bool} (hc : TX X es os c t os1) (ha : t = true → SX X es os1 F0 a { D with nx := WPs X rest D }) (hb : t = false → SX X es os1 F0 b { D with nx := WPs X rest D }) : SX X es os F0 (.If c a b pos :: rest) D := fun F σ H s ow sl =>
  wps_cons (ws_of (ps_if pt_u pss_u pss_u) (hc F σ H _ ow sl fun F1 H1 e1 o1 => by
    cases t with
    | true =>
      rw [if_pos rfl]
      exact ha rfl F1 σ H1 (s.trans e1) o1 (sl.mono e1)
    | false =>
      rw [if_neg Bool.false_ne_true]
      exact hb rfl F1 σ H1 (s.trans e1) o1 (sl.mono e1)))
def WG (X : Cx) (tg : Expr) : TG := fun v σ H Q => ∀ pins s u, Inv X pins σ H s → RelV v u → wpAny (model X.prog X.w) X.A (assign tg X.env u) (fun _ s' => ∃ σ' H', Inv X pins σ' H' s' ∧ Q σ' H') X.xe s
theorem pg_u {tg : Expr} : PG X tg (WG X tg) := ⟨fun pins s _ _ _ u _ I r h => h pins s u I r⟩
theorem wg_of {tg : Expr} {g : TG} {v : L2.V} {σ : L2.St} {H : Hp} {Q : L2.St → Hp → Prop} (h : PG X tg g) (q : g v σ H Q) : WG X tg v σ H Q := fun pins s u I r => h.run pins s σ H v u Q I r q
/-- to assign a value of φ to tg changes the slots as f tells -/
def GX (X : Cx) (tg : Expr) (φ : VP) (f : List Slot → List Slot) : Prop := ∀ es os F σ H v Q, Ow F os H → Sl F es σ → Cl φ F v → (∀ σ', Sl F (f es) σ' → Q σ' H) → WG X tg v σ H Q
theorem gx_name (B : Bd X N W G k) (T : Bt X V) (hi : N[i]? = some x) (hv : V[vi]? = some x) : GX X (.Name x pos) φ (fun es => es.set i (sl φ)) := fun es os F σ H v Q ow sl c q =>
  wg_of (pg_name (B.hN ▸ B.nd) (B.hN ▸ hi) (T.loc x (List.mem_of_getElem? hv)) (.inl (T.fn x))) (q _ (sl.put c))
theorem gx_pair {a b : Expr} {kk : Nat} {d1 d2 : PyData} {f g : List Slot → List Slot} (B : Bd X N W G k) (h1 : GX X a (dat d1) f) (h2 : GX X b (dat d2) g) (hn : (assignEach [a, b] X.env).length = 2 := by rfl) (hst : (assignEach [a, b] X.env).findIdx? (·.1) = none := by rfl)
    (hs : (assignEach [a, b] X.env).map (·.2) = assign a X.env :: (assignEach [b] X.env).map (·.2) := by rfl) (hs2 : (assignEach [b] X.env).map (·.2) = assign b X.env :: (assignEach [] X.env).map (·.2) := by rfl) :
    GX X (.Tuple [a, b] kk pos) (dat (.tuple [d1, d2])) (fun es => g (f es)) := fun es os F σ H v Q ow sl c q => by
  obtain ⟨p, vs, rfl, hp, hv⟩ := rdt_dat F v c
  cases hv with
  | cons k1 r =>
    cases r with
    | cons k2 r =>
      cases r
      refine wg_of (pg_tup (n := 2) B.calm (pgs_cons pg_u (pgs_cons pg_u pgs_nil hs2) hs) hn hst) ⟨p, _, rfl, .of (ow.ex _ _ hp), rfl, _, _, rfl, ?_⟩
      refine h1 es os F σ H _ _ ow sl (cl_dat k1) fun σ1 s1 => ⟨_, _, rfl, ?_⟩
      exact h2 _ os F σ1 H _ _ ow s1 (cl_dat k2) fun σ2 s2 => ⟨rfl, q σ2 s2⟩
theorem gx_triple {a b c : Expr} {kk : Nat} {d1 d2 d3 : PyData} {f g h : List Slot → List Slot} (B : Bd X N W G k) (h1 : GX X a (dat d1) f) (h2 : GX X b (dat d2) g) (h3 : GX X c (dat d3) h) (hn : (assignEach [a, b, c] X.env).length = 3 := by rfl) (hst : (assignEach [a, b, c] X.env).findIdx? (·.1) = none := by rfl)
    (hs : (assignEach [a, b, c] X.env).map (·.2) = assign a X.env :: (assignEach [b, c] X.env).map (·.2) := by rfl) (hs2 : (assignEach [b, c] X.env).map (·.2) = assign b X.env :: (assignEach [c] X.env).map (·.2) := by rfl) (hs3 : (assignEach [c] X.env).map (·.2) = assign c X.env :: (assignEach [] X.env).map (·.2) := by rfl) :
    GX X (.Tuple [a, b, c] kk pos) (dat (.tuple [d1, d2, d3])) (fun es => h (g (f es))) := fun es os F σ H v Q ow sl c q => by
  obtain ⟨p, vs, rfl, hp, hv⟩ := rdt_dat F v c
  cases hv with
  | cons k1 r =>
    cases r with
    | cons k2 r =>
      cases r with
      | cons k3 r =>
        cases r
        refine wg_of (pg_tup (n := 3) B.calm (pgs_cons pg_u (pgs_cons pg_u (pgs_cons pg_u pgs_nil hs3) hs2) hs) hn hst) ⟨p, _, rfl, .of (ow.ex _ _ hp), rfl, _, _, rfl, ?_⟩
        refine h1 es os F σ H _ _ ow sl (cl_dat k1) fun σ1 s1 => ⟨_, _, rfl, ?_⟩
        refine h2 _ os F σ1 H _ _ ow s1 (cl_dat k2) fun σ2 s2 => ⟨_, _, rfl, ?_⟩
        exact h3 _ os F σ2 H _ _ ow s2 (cl_dat k3) fun σ3 s3 => ⟨rfl, q σ3 s3⟩
/-- a, b = e: e a tuple -/
theorem sx_unp {tg : Expr} {f : List Slot → List Slot} (hg : GX X tg φ f) (he : EX X es os e φ os1) (h : SX X (f es) os1 F0 rest D) (hs : swapsWithSole [tg] e pos.line X.env = pure false := by rfl) (hw : swappedStores [tg] e X.env = pure none := by rfl)
    (h1 : (assignEach [tg] X.env).map (·.2) = [assign tg X.env] := by rfl) : SX X es os F0 (.Assign [tg] e pos :: rest) D := fun F σ H s ow sl =>
  wps_cons (ws_of (ps_asg pe_u pg_u hs hw h1) (he F σ H _ ow sl fun F1 H1 v e1 o1 c1 => hg es os1 F1 σ H1 v _ o1 (sl.mono e1) c1 fun σ1 s1 => h F1 σ1 H1 (s.trans e1) o1 s1))
theorem ty_own {F H : Hp} {K : PySem.W.Frag} {p : Addr} {ds : List PyData} {j : Nat} (ow : Ow F os H) (hj : os[j]? = some (p, ol ds)) : ∃ vs, H p = some (.lst vs) ∧ DqAll F vs ds ∧ tyV K "list" (.ref p) H := by
  obtain ⟨_, vs, ho, hv⟩ := (ow.perm (perm_at hj)).atL
  exact ⟨vs, ho, hv, .inl ⟨rfl, vs, .of ho⟩⟩
/-- a list that is one's own is rewritten -/
theorem ow_set {F H : Hp} {p : Addr} {ds ds' : List PyData} {vs' : List L2.V} {j : Nat} (ow : Ow F os H) (hj : os[j]? = some (p, ol ds)) (h : DqAll F vs' ds') : Ow F (os.set j (p, ol ds')) (upd H p (.lst vs')) :=
  ((ow.perm (perm_at hj)).putL h).perm (perm_set hj)
theorem ex_append {a : Expr} {apos cpos : Pos} {p : Addr} {ds : List PyData} {d : PyData} {j : Nat} (ho : EX X es os a (own p) os) (he : EX X es os e (dat d) os1) (h0 : os[j]? = some (p, ol ds0)) (hj : os1[j]? = some (p, ol ds)) (hz : ds.length < sizeLine)
    (hbase : attributeBase a "append" X.env (eval a X.env) = eval a X.env := by rfl) (hline : (apos.endLine == cpos.line) = true := by rfl) (hs : starEach [e] X.env = (false, eval e X.env) :: starEach [] X.env := by rfl)
    (hfew : ((backTo cpos (starEach [e] X.env)).all (fun x => !x.1) && (backToKw cpos (keywordEach [] X.env)).all (fun x => x.1.isSome) && decide ([e].length + ([] : List Keyword).length + (if ([] : List Keyword).isEmpty then 0 else 1) < 30)) = true := by rfl)
    (hplain : (backTo cpos (starEach [] X.env)).any (·.1) = false := by rfl) : EX X es os (.Call (.Attribute a "append" apos) [e] [] cpos) (dat .none) (os1.set j (p, ol (ds ++ [d]))) := fun F σ H Q ow sl q =>
  we_of (pe_bm PySem.F.plainAttrs_list PySem.F.slot_list_append PySem.F.type_list_append mt_append pe_u pa_u hbase hfew hline hs hplain) (ho F σ H _ ow sl fun F1 H1 v e1 o1 c1 => by
    obtain rfl : v = .ref p := c1.now
    obtain ⟨_, _, _, ty⟩ := ty_own (K := X.K) o1 h0
    refine ⟨ty, wa_of (pa_cons pe_u pa_nil hs) (he F1 σ H1 _ o1 (sl.mono e1) fun F2 H2 u e2 o2 c2 => ?_)⟩
    obtain ⟨vs, hp, hv, _⟩ := ty_own (K := X.K) o2 hj
    exact ⟨p, vs, u, rfl, rfl, hp, by rw [dqall_len hv]; exact hz, q F2 _ .non (e1.trans e2) (ow_set o2 hj (dqall_app hv (.cons c2.now .nil))) (cl_dat .non)⟩)
theorem dqall_last {F : Hp} : ∀ {ds : List PyData} {vs : List L2.V} {d : PyData}, DqAll F vs ds → ds.getLast? = some d → ∃ v, vs[vs.length - 1]? = some v ∧ Dq F v d ∧ DqAll F vs.dropLast ds.dropLast := fun {ds vs d} h e => by
  rw [List.getLast?_eq_getElem?] at e
  obtain ⟨v, e2, hd⟩ := dqall_get' h e
  refine ⟨v, by rw [dqall_len h]; exact e2, hd, ?_⟩
  rw [List.dropLast_eq_take, List.dropLast_eq_take, dqall_len h]
  exact dqall_take _ h
theorem ex_pop {a : Expr} {apos cpos : Pos} {p : Addr} {ds : List PyData} {d : PyData} {j : Nat} (ho : EX X es os a (own p) os) (hj : os[j]? = some (p, ol ds)) (hd : ds.getLast? = some d)
    (hbase : attributeBase a "pop" X.env (eval a X.env) = eval a X.env := by rfl) (hline : (apos.endLine == cpos.line) = true := by rfl) : EX X es os (.Call (.Attribute a "pop" apos) [] [] cpos) (dat d) (os.set j (p, ol ds.dropLast)) := fun F σ H Q ow sl q =>
  we_of (pe_bm0 PySem.F.plainAttrs_list PySem.F.slot_list_pop PySem.F.type_list_pop mt_pop pe_u hbase hline) (ho F σ H _ ow sl fun F1 H1 v e1 o1 c1 => by
    obtain rfl : v = .ref p := c1.now
    obtain ⟨vs, hp, hv, ty⟩ := ty_own (K := X.K) o1 hj
    obtain ⟨u, eu, hu, hr⟩ := dqall_last hv hd
    exact ⟨ty, p, vs, u, rfl, rfl, hp, eu, q F1 _ u e1 (ow_set o1 hj hr) (cl_dat hu)⟩)
/-- xs[i] = e -/
theorem sx_setL {a b : Expr} {tpos : Pos} {p : Addr} {ds : List PyData} {d : PyData} {j m : Nat} {z : Int} (he : EX X es os e (dat d) os1) (ho : EX X es os1 a (own p) os1) (hb : EX X es os1 b (dat (.int z)) os2) (hj : os2[j]? = some (p, ol ds)) (hz : ixN ds.length z = some m) (h : SX X es (os2.set j (p, ol (ds.set m d))) F0 rest D)
    (hs : swapsWithSole [.Subscript a b tpos] e pos.line X.env = pure false := by rfl) (hw : swappedStores [.Subscript a b tpos] e X.env = pure none := by rfl) (h1 : (assignEach [.Subscript a b tpos] X.env).map (·.2) = [assign (.Subscript a b tpos) X.env] := by rfl)
    (hsub : ∀ v, assign (.Subscript a b tpos) X.env v = (do
      let ov ← holding [v] (eval a X.env)
      let iv ← holding [v, ov] (eval b X.env)
      standAt tpos
      holding [v, ov, iv] (setItem ov iv v)
      release [v, ov, iv] []) := by intro _; rfl) : SX X es os F0 (.Assign [.Subscript a b tpos] e pos :: rest) D := fun F σ H s ow sl =>
  wps_cons (ws_of (ps_asg pe_u (pg_sub pe_u pe_u set_list hsub) hs hw h1) (he F σ H _ ow sl fun F1 H1 v e1 o1 c1 => ho F1 σ H1 _ o1 (sl.mono e1) fun F2 H2 w e2 o2 c2 => hb F2 σ H2 _ o2 (sl.mono (e1.trans e2)) fun F3 H3 u e3 o3 c3 => by
    obtain rfl : w = .ref p := c2.now
    obtain ⟨vs, hp, hv, _⟩ := ty_own (K := X.K) o3 hj
    refine ⟨p, vs, z, m, rfl, clv_int c3, hp, by rw [dqall_len hv]; exact hz, ?_⟩
    have e := (e1.trans e2).trans e3
    exact h F3 σ _ (s.trans e) (ow_set o3 hj (dqall_set ((c1.mono e2).mono e3).now m hv)) (sl.mono e)))
end
end Z
namespace Z
open PySem PySem.Spec PyProof.Rows L2
/-- one turn after another; none: it raises -/
def lp {α S : Type} (f : S → α → Option S) : List α → S → Option S
  | [], s => some s
  | x :: xs, s => (f s x).bind (lp f xs)
inductive Step (R S : Type) where
  | go (s : S) | brk (s : S) | ret (r : R)
/-- what follows a turn -/
def Step.aft {R S : Type} (k : S → Option (Sum R S)) : Step R S → Option (Sum R S)
  | .go s => k s
  | .brk s => some (.inr s)
  | .ret r => some (.inl r)
/-- .. that may be left: inl, what is handed back; inr, the state behind -/
def lpR {α R S : Type} (f : S → α → Option (Step R S)) : List α → S → Option (Sum R S)
  | [], s => some (.inr s)
  | x :: xs, s => (f s x).bind (Step.aft (lpR f xs))
/-- while, at most so many turns -/
def wh {R S : Type} (c : S → Option Bool) (f : S → Option (Step R S)) : Nat → S → Option (Sum R S)
  | 0, _ => none
  | n + 1, s => (c s).bind fun b => if b = true then (f s).bind (Step.aft (wh c f n)) else some (.inr s)
/-- a comprehension whose element may change the state -/
def lcS {α β S : Type} (f : S → α → Option (Option β × S)) : List α → S → Option (List β × S)
  | [], s => some ([], s)
  | x :: xs, s => (f s x).bind fun t => (lcS f xs t.2).bind fun u => some (t.1.toList ++ u.1, u.2)
def range' (a b : Int) : List Int := (List.range (b - a).toNat).map fun (i : Nat) => a + (i : Int)
section
variable {X : Cx} {es : List Slot} {os os1 os2 : Os} {F0 : Hp} {rest : List Stmt} {D : Ends} {N V G W : List Str} {k i vi gi : Nat} {x : Str} {p pos : Pos} {e e2 : Expr} {α : Type}
def WI (X : Cx) (tg iter : Expr) (σ : L2.St) (H : Hp) (R : It → Hp → Prop) : Prop := ∀ pins s, Inv X pins σ H s →
    wpAny (model X.prog X.w) X.A (eval iter X.env) (fun v s1 => wpAny (model X.prog X.w) X.A (pyIter v) (PIE X pins σ tg R) X.xe s1) X.xe s
theorem pi_u {tg iter : Expr} : PI X tg iter (WI X tg iter) := ⟨fun pins s _ _ _ I h => h pins s I⟩
theorem wi_of {tg iter : Expr} {w : TI} {σ : L2.St} {H : Hp} {R : It → Hp → Prop} (h : PI X tg iter w) (q : w σ H R) : WI X tg iter σ H R := fun pins s I => h.run pins s σ H R I q
/-- J yields the xs, as vp tells of each, from F on, while c holds of what is owned -/
def Good (J : It) (F : Hp) (xs : List α) (vp : α → VP) (c : Os → Prop) : Prop := ∀ F2 H2 os2 i, Same F F2 → Ow F2 os2 H2 → c os2 →
  (xs.length ≤ i → J.stop i H2) ∧ ∀ x, xs[i]? = some x → J.go i H2 ∧ ∀ v H3, J.yld i H2 v H3 → ∃ F3, Same F2 F3 ∧ Ow F3 os2 H3 ∧ Cl (vp x) F3 v
def IX (X : Cx) (tg : Expr) (es : List Slot) (os : Os) (iter : Expr) (xs : List α) (vp : α → VP) (c : Os → Prop) (os' : Os) : Prop := ∀ F σ H R, Ow F os H → Sl F es σ → (∀ F' H' J, Same F F' → Ow F' os' H' → Good J F' xs vp c → R J H') → WI X tg iter σ H R
def anyOs : Os → Prop := fun _ => True
theorem range_get {n i : Nat} {lo x : Int} (h : ((List.range n).map fun (i : Nat) => lo + (i : Int))[i]? = some x) : i < n ∧ x = lo + (i : Int) := by
  rw [List.getElem?_map] at h
  by_cases hi : i < n
  · rw [List.getElem?_range hi] at h
    exact ⟨hi, (Option.some.inj h).symm⟩
  · rw [List.getElem?_eq_none (by rw [List.length_range]; omega)] at h
    cases h
theorem good_range {F : Hp} {lo : Int} {n : Nat} : Good (Itr lo n) F ((List.range n).map fun (i : Nat) => lo + (i : Int)) (fun x => dat (.int x)) anyOs := fun F2 H2 os2 i s ow _ => by
  refine ⟨fun h => show n ≤ i by simpa using h, fun x hx => ?_⟩
  obtain ⟨h1, rfl⟩ := range_get hx
  refine ⟨h1, fun v H3 y => ?_⟩
  obtain ⟨rfl, rfl⟩ := y
  exact ⟨F2, Same.refl F2, ow, cl_dat (.int _)⟩
theorem ix_range1 {tg : Expr} {b : Int} (B : Bd X N W G k) (hj : G[gi]? = some "range") (hm : X.mg "range" = none) (hb : -(2 ^ 62) ≤ b ∧ b < 2 ^ 62) (ha : EX X es os e (dat (.int b)) os1) (hs : starEach [e] X.env = [(false, eval e X.env)] := by rfl) :
    IX X tg es os (.Call (.Name "range" p) [e] [] pos) (range' 0 b) (fun x => dat (.int x)) anyOs os1 := fun F σ H R ow sl q =>
  wi_of (pi_range1 (B.gl _ (List.mem_of_getElem? hj)).1 hm pa_u hs) (wa_of (pa_cons pe_u pa_nil hs) (ha F σ H _ ow sl fun F1 H1 v e1 o1 c1 => ⟨b, by rw [clv_int c1], hb.1, hb.2, q F1 H1 _ e1 o1 (by
    have := good_range (F := F1) (lo := 0) (n := b.toNat)
    unfold range'
    rw [Int.sub_zero]
    exact this)⟩))
theorem ix_range2 {tg : Expr} {a b : Int} (B : Bd X N W G k) (hj : G[gi]? = some "range") (hm : X.mg "range" = none) (hab : -(2 ^ 62) ≤ a ∧ a < 2 ^ 62 ∧ -(2 ^ 62) ≤ b ∧ b < 2 ^ 62) (ha : EX X es os e (dat (.int a)) os1) (hb : EX X es os1 e2 (dat (.int b)) os2)
    (hs : starEach [e, e2] X.env = [(false, eval e X.env), (false, eval e2 X.env)] := by rfl) (hs2 : starEach [e2] X.env = [(false, eval e2 X.env)] := by rfl) :
    IX X tg es os (.Call (.Name "range" p) [e, e2] [] pos) (range' a b) (fun x => dat (.int x)) anyOs os2 := fun F σ H R ow sl q =>
  wi_of (pi_range2 (B.gl _ (List.mem_of_getElem? hj)).1 hm pa_u hs hs2) (wa_of (pa_cons pe_u (pa_cons pe_u pa_nil hs2) (by rw [hs, hs2])) (ha F σ H _ ow sl fun F1 H1 v e1 o1 c1 => hb F1 σ H1 _ o1 (sl.mono e1) fun F2 H2 u e2 o2 c2 =>
    ⟨a, b, by rw [clv_int c1, clv_int c2], hab, q F2 H2 _ (e1.trans e2) o2 good_range⟩))
theorem dqall_map {F : Hp} {xs : List α} {enc : α → PyData} {vs : List L2.V} {i : Nat} {x : α} (h : DqAll F vs (xs.map enc)) (e : xs[i]? = some x) : ∃ v, vs[i]? = some v ∧ Dq F v (enc x) := dqall_get' h (by rw [List.getElem?_map, e]; rfl)
/-- a list (read as rl tells) -/
theorem ix_list {tg : Expr} {φ : VP} {xs : List α} {enc : α → PyData} {c : Os → Prop} (he : EX X es os e φ os1) (hc : ∀ o, c o → RdL X φ o (xs.map enc)) (h0 : c os1) : IX X tg es os e xs (fun x => dat (enc x)) c os1 := fun F σ H R ow sl q =>
  wi_of (pi_list pe_u) (he F σ H _ ow sl fun F1 H1 v e1 o1 c1 => by
    obtain ⟨a, vs, rfl, h1, h2⟩ := hc os1 h0 F1 H1 v o1 c1
    refine ⟨a, rfl, ⟨vs, h1⟩, q F1 H1 _ e1 o1 fun F2 H2 os2 i s ow2 k2 => ?_⟩
    obtain ⟨a', us, ea, g1, g2⟩ := hc os2 k2 F2 H2 _ ow2 (c1.mono s)
    cases ea
    have hl := dqall_len g2
    rw [List.length_map] at hl
    refine ⟨fun h => ⟨us, g1, by omega⟩, fun x hx => ?_⟩
    obtain ⟨u, hu, hd⟩ := dqall_map g2 hx
    refine ⟨⟨us, u, g1, hu⟩, fun w H3 y => ?_⟩
    obtain ⟨rfl, hy⟩ := y
    have ew : us[i]? = some w := hy us g1
    rw [hu] at ew
    cases ew
    exact ⟨F2, Same.refl F2, ow2, cl_dat hd⟩)
theorem ix_tup {tg : Expr} {φ : VP} {xs : List α} {enc : α → PyData} (he : EX X es os e φ os1) (hr : RdT φ (xs.map enc)) : IX X tg es os e xs (fun x => dat (enc x)) anyOs os1 := fun F σ H R ow sl q =>
  wi_of (pi_tup pe_u) (he F σ H _ ow sl fun F1 H1 v e1 o1 c1 => by
    obtain ⟨a, vs, rfl, h1, h2⟩ := hr F1 v c1
    refine ⟨a, rfl, ⟨vs, .of (o1.ex _ _ h1)⟩, q F1 H1 _ e1 o1 fun F2 H2 os2 i s ow2 k2 => ?_⟩
    have g1 := ow2.ex _ _ (s _ _ h1)
    have g2 := dqall_mono s _ _ h2
    have hl := dqall_len g2
    rw [List.length_map] at hl
    refine ⟨fun h => ⟨vs, .of g1, by omega⟩, fun x hx => ?_⟩
    obtain ⟨u, hu, hd⟩ := dqall_map g2 hx
    refine ⟨⟨vs, u, .of g1, hu⟩, fun w H3 y => ?_⟩
    obtain ⟨rfl, hy⟩ := y
    have ew : vs[i]? = some w := hy vs (.of g1)
    rw [hu] at ew
    cases ew
    exact ⟨F2, Same.refl F2, ow2, cl_dat hd⟩)
theorem zipIdx_get {xs : List α} {i : Nat} {z : Int × α} (h : (xs.zipIdx.map fun y => ((y.2 : Int), y.1))[i]? = some z) : z.1 = (i : Int) ∧ xs[i]? = some z.2 := by
  rw [List.getElem?_map, List.getElem?_zipIdx] at h
  cases e : xs[i]? with
  | none =>
    rw [e] at h
    cases h
  | some x =>
    rw [e] at h
    have := Option.some.inj h
    subst this
    exact ⟨by simp, rfl⟩
/-- enumerate(a list) -/
def enum {α : Type} (xs : List α) : List (Int × α) := xs.zipIdx.map fun y => ((y.2 : Int), y.1)
theorem enum_len {xs : List α} : (enum xs).length = xs.length := by
  unfold enum
  rw [List.length_map, List.length_zipIdx]
theorem ix_enum {elts : List Expr} {kk : Nat} {tpos : Pos} {φ : VP} {xs : List α} {enc : α → PyData} {c : Os → Prop} (B : Bd X N W G k) (hj : G[gi]? = some "enumerate") (hm : X.mg "enumerate" = none) (he : EX X es os e φ os1) (hc : ∀ o, c o → RdL X φ o (xs.map enc)) (h0 : c os1) (hs : starEach [e] X.env = [(false, eval e X.env)] := by rfl) :
    IX X (.Tuple elts kk tpos) es os (.Call (.Name "enumerate" p) [e] [] pos) (enum xs) (fun x => dat (.tuple [.int x.1, enc x.2])) c os1 := fun F σ H R ow sl q =>
  wi_of (pi_enum (B.gl _ (List.mem_of_getElem? hj)).1 hm pa_u hs) (wa_of (pa_cons pe_u pa_nil hs) (he F σ H _ ow sl fun F1 H1 v e1 o1 c1 => by
    obtain ⟨a, vs, rfl, h1, h2⟩ := hc os1 h0 F1 H1 v o1 c1
    refine ⟨a, vs, rfl, h1, q F1 H1 _ e1 o1 fun F2 H2 os2 i s ow2 k2 => ?_⟩
    obtain ⟨a', us, ea, g1, g2⟩ := hc os2 k2 F2 H2 _ ow2 (c1.mono s)
    cases ea
    have hl := dqall_len g2
    rw [List.length_map] at hl
    refine ⟨fun h => ⟨us, g1, by rw [enum_len] at h; omega⟩, fun x hx => ?_⟩
    obtain ⟨hz1, hz2⟩ := zipIdx_get hx
    obtain ⟨u, hu, hd⟩ := dqall_map g2 hz2
    refine ⟨⟨us, u, g1, hu⟩, fun w H3 y => ?_⟩
    obtain ⟨T, w2, rfl, hT, rfl, hy⟩ := y
    have ew : us[i]? = some w2 := hy us g1
    rw [hu] at ew
    cases ew
    have fT := ow2.ex.free hT
    refine ⟨_, same_upd fT, ow2.frozen hT, cl_dat (.tup upd_same ?_)⟩
    rw [hz1]
    exact .cons (.int _) (.cons (dq_mono (same_upd fT) _ _ hd) .nil)))
theorem drop_cons' {xs : List α} {i : Nat} {x : α} (h : xs[i]? = some x) : xs.drop i = x :: xs.drop (i + 1) := by
  obtain ⟨h1, h2⟩ := List.getElem?_eq_some_iff.mp h
  rw [List.drop_eq_getElem_cons h1, h2]
/-- what a turn is to reach -/
def LpD {R S γ : Type} (F0 : Hp) (ES : S → γ → List Slot) (OS : S → γ → Os) (RT : R → L2.V → Hp → Prop) (t : Step R S) : Ends where
  nx := fun σ H => ∃ s g, t = .go s ∧ At F0 (ES s g) (OS s g) σ H
  ct := fun σ H => ∃ s g, t = .go s ∧ At F0 (ES s g) (OS s g) σ H
  bk := fun σ H => ∃ s g, t = .brk s ∧ At F0 (ES s g) (OS s g) σ H
  rt := fun v H => ∃ r, t = .ret r ∧ RT r v H
/-- a loop that may be left. γ: what changes beside the mirror's state (addresses) -/
theorem sx_forR {R S γ : Type} {tg iter : Expr} {body : List Stmt} {xs : List α} {vp : α → VP} {c : Os → Prop} {up : α → List Slot → List Slot} {fpos : Pos} (f : S → α → Option (Step R S)) (ES : S → γ → List Slot) (OS : S → γ → Os) (RT : R → L2.V → Hp → Prop)
    (B : Bd X N W G k) (T : Bt X V) (hg : ∀ x, GX X tg (vp x) (up x)) (s0 : S) (g0 : γ) (o : Sum R S) (hl : lpR f xs s0 = some o) (hi : IX X tg es os iter xs vp c (OS s0 g0)) (h0 : Wk es (ES s0 g0)) (hc : ∀ s g, c (OS s g))
    (hb : ∀ F1, Same F0 F1 → ∀ s g x t, x ∈ xs → f s x = some t → SX X (up x (ES s g)) (OS s g) F1 body (LpD F1 ES OS RT t))
    (hn : ∀ s g, o = .inr s → SX X (ES s g) (OS s g) F0 rest D) (hr : ∀ r v H, o = .inl r → RT r v H → D.rt v H) (hs : ∀ x, foldedSetIterable iter X.env x = pure x := by intro _; rfl) : SX X es os F0 (.For tg iter body [] fpos :: rest) D := fun F σ H s ow sl => by
  refine wps_cons (ws_of (ps_for T.po B.calm pi_u pg_u pss_u hs) (hi F σ H _ ow sl fun F1 H1 J e1 o1 good => ?_))
  refine ⟨fun i m σ' H' => m = xs.length - i ∧ i ≤ xs.length ∧ ∃ s' g', lpR f (xs.drop i) s' = some o ∧ ∃ F', Same F1 F' ∧ Ow F' (OS s' g') H' ∧ Sl F' (ES s' g') σ', ⟨_, rfl, Nat.zero_le _, s0, g0, hl, F1, Same.refl F1, o1, (sl.mono e1).weak h0⟩, ?_⟩
  rintro i m σ' H' ⟨rfl, hi, s', g', hl', F', e', o', sl'⟩
  obtain ⟨stop, go⟩ := good F' H' (OS s' g') i e' o' (hc s' g')
  cases hx : xs[i]? with
  | none =>
    have hi2 : xs.length ≤ i := List.getElem?_eq_none_iff.mp hx
    refine .inl ⟨stop hi2, ?_⟩
    rw [List.drop_eq_nil_of_le hi2] at hl'
    cases hl'
    exact hn s' g' rfl F' σ' H' ((s.trans e1).trans e') o' sl'
  | some x =>
    obtain ⟨hgo, hy⟩ := go x hx
    have hlt : i < xs.length := (List.getElem?_eq_some_iff.mp hx).1
    rw [drop_cons' hx] at hl'
    cases hf : f s' x with
    | none =>
      unfold lpR at hl'
      rw [hf] at hl'
      cases hl'
    | some t =>
      unfold lpR at hl'
      rw [hf] at hl'
      have hl2 : Step.aft (lpR f (xs.drop (i + 1))) t = some o := hl'
      refine .inr ⟨hgo, fun σ2 H2 => ∃ s2 g2, t = .go s2 ∧ ∃ F2, Same F1 F2 ∧ Ow F2 (OS s2 g2) H2 ∧ Sl F2 (ES s2 g2) σ2, ?_, ?_⟩
      · rintro σ2 H2 ⟨s2, g2, rfl, F2, e2, o2, sl2⟩
        exact ⟨_, by omega, rfl, by omega, s2, g2, hl2, F2, e2, o2, sl2⟩
      · intro v H3 yv
        obtain ⟨F3, e3, o3, c3⟩ := hy v H3 yv
        refine hg x _ _ F3 σ' H3 v _ o3 (sl'.mono e3) c3 fun σ4 sl4 => ?_
        have key := hb F1 (s.trans e1) s' g' x t (List.mem_of_getElem? hx) hf
        have q3 : Same F1 F3 := e'.trans e3
        -- the body, from F3; its ends are at least as strong as is wanted
        intro pins sh I
        refine wpAny_mono (key F3 σ4 H3 q3 o3 sl4 pins sh I) (fun fl s5 z => ?_) fun _ _ z => z
        cases fl with
        | next =>
          obtain ⟨σ5, H5, J5, s5', g5, et, F5, e5, o5, sl5⟩ := z
          exact ⟨σ5, H5, J5, s5', g5, et, F5, e5, o5, sl5⟩
        | cont =>
          obtain ⟨σ5, H5, J5, s5', g5, et, F5, e5, o5, sl5⟩ := z
          exact ⟨σ5, H5, J5, s5', g5, et, F5, e5, o5, sl5⟩
        | brk =>
          obtain ⟨σ5, H5, J5, s5', g5, et, F5, e5, o5, sl5⟩ := z
          subst et
          cases hl2
          exact ⟨σ5, H5, J5, hn s5' g5 rfl F5 σ5 H5 ((s.trans e1).trans e5) o5 sl5⟩
        | ret u =>
          obtain ⟨w, σ5, H5, J5, rv, r, et, rr⟩ := z
          subst et
          cases hl2
          exact ⟨w, σ5, H5, J5, rv, hr r w H5 rfl rr⟩
end
end Z
namespace Z
open PySem PySem.Spec PyProof.Rows L2
theorem lp_lpR {α S : Type} (f : S → α → Option S) : ∀ (xs : List α) (s fin : S), lp f xs s = some fin → lpR (R := Empty) (fun s x => (f s x).map Step.go) xs s = some (.inr fin)
  | [], s, fin, h => by
    cases h
    rfl
  | x :: xs, s, fin, h => by
    unfold lp at h
    unfold lpR
    cases e : f s x with
    | none =>
      rw [e] at h
      cases h
    | some s' =>
      rw [e] at h
      exact lp_lpR f xs s' fin h
section
variable {X : Cx} {es : List Slot} {os os1 os2 : Os} {F0 : Hp} {rest : List Stmt} {D : Ends} {N V G W : List Str} {k i vi gi : Nat} {x : Str} {p pos : Pos} {e e2 : Expr} {α : Type}
/-- what a turn of a plain loop is to reach -/
def LgD {S γ : Type} (F0 : Hp) (ES : S → γ → List Slot) (OS : S → γ → Os) (s : S) : Ends where
  nx := fun σ H => ∃ g, At F0 (ES s g) (OS s g) σ H
  ct := fun σ H => ∃ g, At F0 (ES s g) (OS s g) σ H
  bk := fun _ _ => False
  rt := fun _ _ => False
theorem sx_for {S γ : Type} {tg iter : Expr} {body : List Stmt} {xs : List α} {vp : α → VP} {c : Os → Prop} {up : α → List Slot → List Slot} {fpos : Pos} (f : S → α → Option S) (ES : S → γ → List Slot) (OS : S → γ → Os)
    (B : Bd X N W G k) (T : Bt X V) (hg : ∀ x, GX X tg (vp x) (up x)) (s0 : S) (g0 : γ) (fin : S) (hl : lp f xs s0 = some fin) (hi : IX X tg es os iter xs vp c (OS s0 g0)) (h0 : Wk es (ES s0 g0)) (hc : ∀ s g, c (OS s g))
    (hb : ∀ F1, Same F0 F1 → ∀ s g x s', x ∈ xs → f s x = some s' → SX X (up x (ES s g)) (OS s g) F1 body (LgD F1 ES OS s'))
    (hn : ∀ g, SX X (ES fin g) (OS fin g) F0 rest D) (hs : ∀ x, foldedSetIterable iter X.env x = pure x := by intro _; rfl) : SX X es os F0 (.For tg iter body [] fpos :: rest) D := by
  refine sx_forR (R := Empty) (fun s x => (f s x).map Step.go) ES OS (fun _ _ _ => False) B T hg s0 g0 (.inr fin) (lp_lpR f xs s0 fin hl) hi h0 hc (fun F1 h1 s g x t hx ht => ?_) (fun s g e => ?_) (fun r _ _ _ z => z.elim) hs
  · cases e : f s x with
    | none =>
      rw [e] at ht
      cases ht
    | some s' =>
      rw [e] at ht
      cases ht
      intro F σ H a b c pins sh I
      refine wpAny_mono (hb F1 h1 s g x s' hx e F σ H a b c pins sh I) (fun fl s5 z => ?_) fun _ _ z => z
      cases fl with
      | next =>
        obtain ⟨σ5, H5, J5, g5, a5⟩ := z
        exact ⟨σ5, H5, J5, s', g5, rfl, a5⟩
      | cont =>
        obtain ⟨σ5, H5, J5, g5, a5⟩ := z
        exact ⟨σ5, H5, J5, s', g5, rfl, a5⟩
      | brk =>
        obtain ⟨σ5, H5, J5, z⟩ := z
        exact z.elim
      | ret u =>
        obtain ⟨w, σ5, H5, J5, rv, z⟩ := z
        exact z.elim
  · cases e
    exact hn g
theorem sx_while {R S γ : Type} {cd : Expr} {body : List Stmt} {fpos : Pos} (c : S → Option Bool) (f : S → Option (Step R S)) (ES : S → γ → List Slot) (OS : S → γ → Os) (RT : R → L2.V → Hp → Prop)
    (T : Bt X V) (n : Nat) (s0 : S) (g0 : γ) (o : Sum R S) (hl : wh c f n s0 = some o) (h0 : Wk es (ES s0 g0)) (ho : os = OS s0 g0)
    (hc : ∀ s g b, c s = some b → TX X (ES s g) (OS s g) cd b (OS s g))
    (hb : ∀ F1, Same F0 F1 → ∀ s g t, c s = some true → f s = some t → SX X (ES s g) (OS s g) F1 body (LpD F1 ES OS RT t))
    (hn : ∀ s g, o = .inr s → SX X (ES s g) (OS s g) F0 rest D) (hr : ∀ r v H, o = .inl r → RT r v H → D.rt v H) : SX X es os F0 (.While cd body [] fpos :: rest) D := fun F σ H s ow sl => by
  subst ho
  refine wps_cons (ws_of (ps_while T.po pt_u pss_u) ⟨fun m σ' H' => ∃ s' g', wh c f m s' = some o ∧ At F (ES s' g') (OS s' g') σ' H', ⟨n, s0, g0, hl, F, Same.refl F, ow, sl.weak h0⟩, ?_⟩)
  rintro m σ' H' ⟨s', g', hl', F', e', o', sl'⟩
  cases m with
  | zero => cases hl'
  | succ m =>
    unfold wh at hl'
    cases hcs : c s' with
    | none =>
      rw [hcs] at hl'
      cases hl'
    | some b =>
      rw [hcs] at hl'
      refine hc s' g' b hcs F' σ' H' _ o' sl' fun F1 H1 e1 o1 => ?_
      cases b with
      | false =>
        have hl2 : some (.inr s') = some o := hl'
        cases hl2
        rw [if_neg Bool.false_ne_true]
        exact hn s' g' rfl F1 σ' H1 ((s.trans e').trans e1) o1 (sl'.mono e1)
      | true =>
        have hl2 : (f s').bind (Step.aft (wh c f m)) = some o := hl'
        rw [if_pos rfl]
        cases hf : f s' with
        | none =>
          rw [hf] at hl2
          cases hl2
        | some t =>
          rw [hf] at hl2
          have hl3 : Step.aft (wh c f m) t = some o := hl2
          refine ⟨fun σ2 H2 => ∃ s2 g2, t = .go s2 ∧ At F (ES s2 g2) (OS s2 g2) σ2 H2, ?_, ?_⟩
          · rintro σ2 H2 ⟨s2, g2, rfl, a2⟩
            exact ⟨m, Nat.lt_succ_self m, s2, g2, hl3, a2⟩
          · intro pins sh I
            refine wpAny_mono (hb F s s' g' t hcs hf F1 σ' H1 (e'.trans e1) o1 (sl'.mono e1) pins sh I) (fun fl s5 z => ?_) fun _ _ z => z
            cases fl with
            | next => exact z
            | cont => exact z
            | brk =>
              obtain ⟨σ5, H5, J5, s5', g5, et, F5, e5, o5, sl5⟩ := z
              subst et
              cases hl3
              exact ⟨σ5, H5, J5, hn s5' g5 rfl F5 σ5 H5 (s.trans e5) o5 sl5⟩
            | ret u =>
              obtain ⟨w, σ5, H5, J5, rv, r, et, rr⟩ := z
              subst et
              cases hl3
              exact ⟨w, σ5, H5, J5, rv, hr r w H5 rfl rr⟩
theorem sl_wipe {F : Hp} {σ : L2.St} (h : Sl F es σ) : ∀ vs : List Nat, (∀ j ∈ vs, ∃ s, es[j]? = some s ∧ s = un) → Sl F es (wipe σ vs)
  | [], _ => h
  | v :: vs, hv => by
    have ih := sl_wipe h vs fun j hj => hv j (List.mem_cons_of_mem _ hj)
    obtain ⟨s, e, eu⟩ := hv v List.mem_cons_self
    subst eu
    have := ih.set (i := v) (s := un) (o := none) fun _ _ => trivial
    have e2 : es.set v un = es := by
      refine List.ext_getElem? fun j => ?_
      by_cases hj : v = j
      · subst hj
        rw [List.getElem?_set_self (List.getElem?_eq_some_iff.mp e).1, e]
      · rw [List.getElem?_set_ne hj]
    rw [e2] at this
    exact this
/-- the contexts in which the block of a comprehension runs -/
def Fam (X : Cx) (scope : Scope) (X' : Cx) : Prop := ∃ s H C cl fp, X' = X.blk s H scope (compEnvC scope cl C X.env) fp
/-- the tests of a comprehension: none, or one -/
inductive PTX (X : Cx) (es : List Slot) (os : Os) : List Expr → Bool → Os → Prop
  | nil : PTX X es os [] true os
  | one {c : Expr} {b : Bool} {os' : Os} : TX X es os c b os' → PTX X es os [c] b os'
def tIfs (X : Cx) (scope : Scope) (ifs : List Expr) : TT := fun σ H Q => match ifs with
  | [] => Q true H
  | [c] => ∀ X', Fam X scope X' → WT X' c σ H Q
  | _ => False
theorem pts_u {scope : Scope} {X' : Cx} (hf : Fam X scope X') : ∀ ifs : List Expr, PTs X' ifs (tIfs X scope ifs)
  | [] => pts_nil
  | [c] => pts_one ⟨fun pins s _ _ _ I h => h X' hf pins s I⟩
  | _ :: _ :: _ => ⟨fun _ _ _ _ _ _ h => h.elim⟩
def tElt (X : Cx) (scope : Scope) (e : Expr) : TE := fun σ H Q => ∀ X', Fam X scope X' → WE X' e σ H Q
theorem pe_elt {scope : Scope} {X' : Cx} (hf : Fam X scope X') : PE X' e (tElt X scope e) := ⟨fun pins s _ _ _ I h => h X' hf pins s I⟩
/-- the own names of a comprehension may be stored -/
def ownB (scope sc : Scope) (x : Str) : Bool := match (relS scope sc).names.lookup x with
  | some .local => true
  | some .cell => scope.names.lookup x == some .cell
  | _ => false
theorem pg_own {scope : Scope} {X' : Cx} {j : Nat} {y : Str} {tpos : Pos} (hf : Fam X scope X') (B : Bd X N W G k) (hj : N[j]? = some y) (ho : ownB scope X.env.scope y = true) : PG X' (.Name y tpos) (gName j) := by
  obtain ⟨s, H, C, cl, fp, rfl⟩ := hf
  unfold ownB at ho
  have e : (X.blk s H scope (compEnvC scope cl C X.env) fp).env.scope = relS scope X.env.scope := rfl
  split at ho
  · rename_i hl
    exact pg_name (B.hN ▸ B.nd) (B.hN ▸ hj) (.inl (by rw [e]; exact hl)) (.inr (by rw [e]; exact hl))
  · rename_i hl
    exact pg_name (B.hN ▸ B.nd) (B.hN ▸ hj) (.inr (by rw [e]; exact hl)) (.inl ho)
  · cases ho
/-- the state of a comprehension: the list so far, what is still to come -/
def LcS {S β : Type} (f : S → α → Option (Option β × S)) (OS : S → Os → Os) (enc : β → PyData) (xs : List α) (ys : List β) (sf : S) (os0 : Os) (Dl : Addr) (F1 : Hp) (i : Nat) (H : Hp) : Prop :=
  ∃ s d r F, lcS f (xs.drop i) s = some (r, sf) ∧ ys = d ++ r ∧ d.length ≤ i ∧ Same F1 F ∧ Ow F (OS s ((Dl, ol (d.map enc)) :: os0)) H
theorem lc_elt {S β : Type} {elt : Expr} {scope : Scope} {xs : List α} {enc : β → PyData} {f : S → α → Option (Option β × S)} {OS : S → Os → Os} {ys : List β} {sf : S} {os0 : Os} {Dl : Addr} {F1 F4 : Hp} {i : Nat} {up : List Slot} {t : Option β × S} {d r : List β} {σ : L2.St} {H4 : Hp} {os1 : Os}
    (hperm : ∀ s q tl, (OS s (q :: tl)).Perm (q :: OS s tl)) (hi : i < xs.length) (hz : xs.length < sizeLine) (hd : d.length ≤ i) (hr : ((lcS f (xs.drop (i + 1)) t.2).bind fun u => some (t.1.toList ++ u.1, u.2)) = some (r, sf)) (hy : ys = d ++ r)
    (e4 : Same F1 F4) (o4 : Ow F4 os1 H4) (sl : Sl F4 up σ) (key : ∀ X', Fam X scope X' → ∃ y, t.1 = some y ∧ EX X' up os1 elt (dat (enc y)) (OS t.2 ((Dl, ol (d.map enc)) :: os0))) :
    tElt X scope elt σ H4 fun y H5 => ∃ acc, H5 Dl = some (.lst acc) ∧ acc.length < sizeLine ∧ LcS f OS enc xs ys sf os0 Dl F1 (i + 1) (upd H5 Dl (.lst (acc ++ [y]))) := by
  intro X' hX'
  obtain ⟨y, hy1, he⟩ := key X' hX'
  refine he F4 σ H4 _ o4 sl fun F5 H5 v e5 o5 c5 => ?_
  have o6 := o5.perm (hperm t.2 _ os0)
  obtain ⟨_, vs, hu, hv⟩ := o6.atL
  have hl := dqall_len hv
  rw [List.length_map] at hl
  refine ⟨vs, hu, by omega, ?_⟩
  cases hu2 : lcS f (xs.drop (i + 1)) t.2 with
  | none =>
    rw [hu2] at hr
    cases hr
  | some w =>
    rw [hu2, hy1] at hr
    have hr2 : (y :: w.1, w.2) = (r, sf) := Option.some.inj hr
    obtain ⟨rfl, rfl⟩ := Prod.mk.inj hr2
    refine ⟨t.2, d ++ [y], w.1, F5, by rw [hu2], by rw [hy, List.append_assoc]; rfl, by rw [List.length_append, List.length_singleton]; omega, e4.trans e5, ?_⟩
    refine (o6.putL (ds' := (d ++ [y]).map enc) ?_).perm (hperm t.2 _ os0).symm
    rw [List.map_append]
    exact dqall_app hv (.cons c5.now .nil)
theorem lc_read {S β : Type} {elt iter tg : Expr} {ifs : List Expr} {scope : Scope} {vs : List Nat} {xs : List α} {vp : α → VP} {c : Os → Prop} {g : TG} {up : α → List Slot → List Slot} {enc : β → PyData} {f : S → α → Option (Option β × S)} {OS : S → Os → Os}
    {s0 : S} {os0 : Os} {ys : List β} {sf : S} (hv : ∀ j ∈ vs, es[j]? = some un) (hid : ∀ σ : L2.St, wipe (wipe σ vs) vs = wipe σ vs)
    (hg : ∀ x F σ H v Q os2, Sl F es σ → wipe σ vs = σ → Ow F os2 H → Cl (vp x) F v → (∀ σ', Sl F (up x es) σ' → wipe σ' vs = σ → Q σ' H) → g v σ H Q)
    (hif : ifs.length ≤ 1) (hl : lcS f xs s0 = some (ys, sf)) (hz : xs.length < sizeLine) (hi : IX X tg es os iter xs vp c (OS s0 os0)) (hc : ∀ s tl, c (OS s tl)) (hperm : ∀ s q tl, (OS s (q :: tl)).Perm (q :: OS s tl))
    (hb : ∀ s x t tl, x ∈ xs → f s x = some t → ∃ b os1, ∀ X', Fam X scope X' → PTX X' (up x es) (OS s tl) ifs b os1 ∧ (b = true → ∃ y, t.1 = some y ∧ EX X' (up x es) os1 elt (dat (enc y)) (OS t.2 tl)) ∧ (b = false → t.1 = none ∧ os1 = OS t.2 tl))
    {F σ H Q} (ow : Ow F os H) (sl : Sl F es σ) (q : ∀ F' H' p, Same F F' → Ow F' ((p, ol (ys.map enc)) :: OS sf os0) H' → Q (.ref p) H') : tLc (WI X tg iter) g (tIfs X scope ifs) (tElt X scope elt) vs σ H Q := by
  refine hi F σ H _ ow sl fun F1 H1 J e1 o1 good Dl hD => ?_
  refine ⟨fun i m H => m = xs.length - i ∧ i ≤ xs.length ∧ LcS f OS enc xs ys sf os0 Dl F1 i H, ⟨_, rfl, Nat.zero_le _, s0, [], ys, F1, hl, rfl, Nat.le_refl _, Same.refl F1, ?_⟩, ?_⟩
  · exact (o1.new hD fun G g => ⟨[], rfl, .nil⟩).perm (hperm s0 _ os0).symm
  · rintro i m H' ⟨rfl, hi, s, d, r, F', hr, hy, hdl, e', o'⟩
    obtain ⟨stop, go⟩ := good F' H' _ i e' o' (hc s _)
    cases hx : xs[i]? with
    | none =>
      have hi2 : xs.length ≤ i := List.getElem?_eq_none_iff.mp hx
      rw [List.drop_eq_nil_of_le hi2] at hr
      cases hr
      refine .inl ⟨stop hi2, q F' H' Dl (e1.trans e') ?_⟩
      rw [hy, List.append_nil]
      exact o'.perm (hperm _ _ os0)
    | some x =>
      obtain ⟨hgo, hyl⟩ := go x hx
      have hlt : i < xs.length := (List.getElem?_eq_some_iff.mp hx).1
      rw [drop_cons' hx] at hr
      unfold lcS at hr
      cases hf : f s x with
      | none =>
        rw [hf] at hr
        cases hr
      | some t =>
        rw [hf] at hr
        have hr : ((lcS f (xs.drop (i + 1)) t.2).bind fun u => some (t.1.toList ++ u.1, u.2)) = some (r, sf) := hr
        refine .inr ⟨hgo, LcS f OS enc xs ys sf os0 Dl F1 (i + 1), fun H2 hH2 => ⟨_, by omega, rfl, by omega, hH2⟩, fun v H3 yv => ?_⟩
        obtain ⟨F3, e3, o3, c3⟩ := hyl v H3 yv
        have slw : Sl F3 es (wipe σ vs) := sl_wipe (sl.mono ((e1.trans e').trans e3)) vs fun j hj => ⟨un, hv j hj, rfl⟩
        refine hg x F3 (wipe σ vs) H3 v _ _ slw (hid σ) o3 c3 fun σ' sl' hw => ⟨hw, ?_⟩
        obtain ⟨b, os1, key⟩ := hb s x t ((Dl, ol (d.map enc)) :: os0) (List.mem_of_getElem? hx) hf
        have e4 := e'.trans e3
        match ifs, hif, key with
        | [], _, key =>
          refine lc_elt hperm hlt hz hdl hr hy e4 o3 sl' fun X' hX' => ?_
          obtain ⟨k1, k2, _⟩ := key X' hX'
          cases k1
          exact k2 rfl
        | [cd], _, key =>
          intro X' hX'
          obtain ⟨k1, k2, k3⟩ := key X' hX'
          cases k1 with
          | one ht =>
            refine ht F3 σ' H3 _ o3 sl' fun F4 H4 e5 o4 => ?_
            cases b with
            | true =>
              rw [if_pos rfl]
              exact lc_elt hperm hlt hz hdl hr hy (e4.trans e5) o4 (sl'.mono e5) fun X'' hX'' => (key X'' hX'').2.1 rfl
            | false =>
              rw [if_neg Bool.false_ne_true]
              obtain ⟨k4, rfl⟩ := k3 rfl
              cases hu2 : lcS f (xs.drop (i + 1)) t.2 with
              | none =>
                rw [hu2] at hr
                cases hr
              | some w =>
                rw [hu2, k4] at hr
                have hr2 : (w.1, w.2) = (r, sf) := Option.some.inj hr
                obtain ⟨rfl, rfl⟩ := Prod.mk.inj hr2
                exact ⟨t.2, d, w.1, F4, by rw [hu2], hy, by omega, e4.trans e5, o4⟩
        | _ :: _ :: _, hif, key =>
          rw [List.length_cons, List.length_cons] at hif
          omega
/-- all that a comprehension asks -/
structure LcOk (X : Cx) (es : List Slot) (os : Os) {α S β : Type} (tg iter elt : Expr) (ifs : List Expr) (scope : Scope) (own : List (Str × Nat)) (xs : List α) (vp : α → VP) (c : Os → Prop) (g : TG) (up : α → List Slot → List Slot) (enc : β → PyData)
    (f : S → α → Option (Option β × S)) (OS : S → Os → Os) (s0 : S) (os0 : Os) (ys : List β) (sf : S) : Prop where
  calm : X.calm = true
  nd : X.N.Nodup
  ok : BlkOk X.N X.env.scope scope own
  pg : ∀ X', Fam X scope X' → PG X' tg g
  hv : ∀ j ∈ own.map (·.2), es[j]? = some un
  hid : ∀ σ : L2.St, wipe (wipe σ (own.map (·.2))) (own.map (·.2)) = wipe σ (own.map (·.2))
  hg : ∀ x F σ H v Q os2, Sl F es σ → wipe σ (own.map (·.2)) = σ → Ow F os2 H → Cl (vp x) F v → (∀ σ', Sl F (up x es) σ' → wipe σ' (own.map (·.2)) = σ → Q σ' H) → g v σ H Q
  hif : ifs.length ≤ 1
  hl : lcS f xs s0 = some (ys, sf)
  hz : xs.length < sizeLine
  hi : IX X tg es os iter xs vp c (OS s0 os0)
  hc : ∀ s tl, c (OS s tl)
  hperm : ∀ s q tl, (OS s (q :: tl)).Perm (q :: OS s tl)
  hb : ∀ s x t tl, x ∈ xs → f s x = some t → ∃ b os1, ∀ X', Fam X scope X' → PTX X' (up x es) (OS s tl) ifs b os1 ∧ (b = true → ∃ y, t.1 = some y ∧ EX X' (up x es) os1 elt (dat (enc y)) (OS t.2 tl)) ∧ (b = false → t.1 = none ∧ os1 = OS t.2 tl)
section
variable {α S β : Type} {tg iter elt : Expr} {ifs : List Expr} {scope : Scope} {own : List (Str × Nat)} {xs : List α} {vp : α → VP} {c : Os → Prop} {g : TG} {up : α → List Slot → List Slot} {enc : β → PyData}
    {f : S → α → Option (Option β × S)} {OS : S → Os → Os} {s0 : S} {os0 : Os} {ys : List β} {sf : S}
theorem en_lc (h : LcOk X es os tg iter elt ifs scope own xs vp c g up enc f OS s0 os0 ys sf) (hs : ∀ x, foldedSetIterable iter X.env x = pure x := by intro _; rfl) : EN X es os (.ListComp elt [⟨tg, iter, ifs, 0⟩] scope pos) (ol (ys.map enc)) (OS sf os0) := fun F σ H Q ow sl q =>
  we_of (pe_lc h.calm h.nd pi_u h.ok (fun s H C cl fp => h.pg _ ⟨s, H, C, cl, fp, rfl⟩) (fun s H C cl fp => pts_u ⟨s, H, C, cl, fp, rfl⟩ ifs) (fun s H C cl fp => pe_elt ⟨s, H, C, cl, fp, rfl⟩) hs)
    (lc_read h.hv h.hid h.hg h.hif h.hl h.hz h.hi h.hc h.hperm h.hb ow sl q)
theorem sx_asgLc {y : Str} {py spos : Pos} (B : Bd X N W G k) (T : Bt X V) (hi : N[i]? = some y) (hyl : X.env.scope.names.lookup y = some .local) (h : LcOk X es os tg iter elt ifs scope own xs vp c g up enc f OS s0 os0 ys sf)
    (hsw : swapsWith (.ListComp elt [⟨tg, iter, ifs, 0⟩] scope pos) (some (.Name y py)) spos.line X.env = pure true)
    (hn : ∀ p, SX X (es.set i (sl (Z.own p))) ((p, ol (ys.map enc)) :: OS sf os0) F0 rest D) (hs : ∀ x, foldedSetIterable iter X.env x = pure x := by intro _; rfl) : SX X es os F0 (.Assign [.Name y py] (.ListComp elt [⟨tg, iter, ifs, 0⟩] scope pos) spos :: rest) D := fun F σ H s ow sl =>
  wps_cons (ws_of (ps_setLc h.calm h.nd (B.hN ▸ hi) hyl hsw pi_u h.ok (fun s H C cl fp => h.pg _ ⟨s, H, C, cl, fp, rfl⟩) (fun s H C cl fp => pts_u ⟨s, H, C, cl, fp, rfl⟩ ifs) (fun s H C cl fp => pe_elt ⟨s, H, C, cl, fp, rfl⟩) hs)
    (lc_read (Q := fun v H1 => gName i v σ H1 (WPs X rest D)) h.hv h.hid h.hg h.hif h.hl h.hz h.hi h.hc h.hperm h.hb ow sl fun F1 H1 p e1 o1 => hn p F1 _ H1 (s.trans e1) o1 ((sl.mono e1).put cl_own)))
end
/-- the target is one name -/
theorem lc_gname {α : Type} {vp : α → VP} {j : Nat} (x : α) (F : Hp) (σ : L2.St) (H : Hp) (v : L2.V) (Q : L2.St → Hp → Prop) (os2 : Os) (sl : Sl F es σ) (hw : wipe σ [j] = σ) (ow : Ow F os2 H) (c : Cl (vp x) F v) (q : ∀ σ', Sl F (es.set j (Z.sl (vp x))) σ' → wipe σ' [j] = σ → Q σ' H) : gName j v σ H Q := by
  refine q _ (sl.put c) ?_
  show (σ.set j (some v)).set j none = σ
  rw [List.set_set]
  exact hw
theorem lc_id1 {j : Nat} (σ : L2.St) : wipe (wipe σ [j]) [j] = wipe σ [j] := by
  show (σ.set j none).set j none = σ.set j none
  rw [List.set_set]
/-- a body's facts hold in a comprehension's block -/
theorem Bd.fam {scope : Scope} {X' : Cx} {W' G' : List Str} (B : Bd X N W G k) (hf : Fam X scope X') (h : namB (relS scope X.env.scope) W' G' = true) : Bd X' N W' G' k := by
  obtain ⟨s, H, C, cl, fp, rfl⟩ := hf
  exact ⟨B.hN, B.nd, B.calm, B.gd, B.room, nam_vis h, nam_gl h⟩
end
end Z
namespace Z
open PySem PySem.Spec PyProof.Rows L2
section
variable {P : Program} {w : World} {K : PySem.W.Frag} {mg : Str → Option Value} {base : Heap}
theorem pass_nox {N : List Str} {qual : Str} {sc : Scope} {f : Addr} {cdv : Value} {A : Around} {outer : List Env} {s : Shared} {H : Hp} {E : XK} {sts : List Stmt} {D : Ends} {σ : L2.St} {H' : Hp}
    (h : WPs (cxOf CX0 P w K mg base N qual sc f cdv A outer s H E).nox sts D σ H') : WPs (cxOf CX0 P w K mg base N qual sc f cdv A outer s H E) sts D σ H' :=
  wps_of (PSs.nox (pss_u (X := (cxOf CX0 P w K mg base N qual sc f cdv A outer s H E).nox))) h
theorem cla_start {F : Hp} : ∀ {φs : List VP} {vs : List L2.V} (n : Nat), ClA φs F vs → Sl F (φs.map sl ++ List.replicate n un) (vs.map some ++ List.replicate n none)
  | [], _, n, h => by
    have e : _ = [] := h
    subst e
    refine ⟨by simp, fun i t q => ?_⟩
    have q' : (List.replicate n un)[i]? = some t := q
    rw [List.getElem?_replicate] at q'
    split at q'
    · rename_i hi
      cases q'
      refine ⟨none, ?_, fun _ _ => trivial⟩
      show (List.replicate n none)[i]? = some none
      rw [List.getElem?_replicate, if_pos hi]
    · cases q'
  | φ :: φs, _, n, ⟨v, r, e, h1, h2⟩ => by
    subst e
    have ih := cla_start n h2
    refine ⟨by simpa using ih.len, fun i t q => ?_⟩
    cases i with
    | zero =>
      have q' : some (sl φ) = some t := q
      cases q'
      exact ⟨some v, rfl, fun G g => ⟨v, rfl, h1 G g⟩⟩
    | succ i => exact ih.get i t q
/-- how a body hands back what a promise tells -/
structure RetZ (F0 : Hp) (os : Os) (φ : VP) (D : Ends) : Prop where
  rt : ∀ F H v, Same F0 F → Ow F os H → Cl φ F v → D.rt v H
  nx : ∀ σ H, D.rt .non H → D.nx σ H
structure RetN (F0 : Hp) (os : Os) (n : Ent) (D : Ends) : Prop where
  rt : ∀ F H p, Same F0 F → Ow F ((p, n) :: os) H → D.rt (.ref p) H
variable {α β : Type} {ps : α → List VP} {pre : α → Os} {m : α → Option β} {res : α → β → VP} {post : α → β → Os} {n : α → β → Ent} {x : Str} {st : Stmt} {f : Addr} {fd : FuncData} {N V Gs pn : List Str} {k nl : Nat}
theorem cal_Z (Fn : Fun K x x st f fd) (S : FnScope N pn (defScope st)) (nam : namB (defScope st) V Gs = true) (loc : V.all (locB (defScope st)) = true) (hmg : mg x = some (.ref f)) (hb : Binds K fd pn []) (hps : ∀ a, (ps a).length = pn.length) (hN : N.length = pn.length + nl)
    (body : ∀ (f : Addr) (cdv : Value) (A : Around) (outer : List Env) (s : Shared) (H : Hp) (E : XK) (a : α) (b : β) (F0 : Hp) (os : Os) (D : Ends), Bd (cxOf CX0 P w K mg base N x (defScope st) f cdv A outer s H E).nox N V Gs k → Bt (cxOf CX0 P w K mg base N x (defScope st) f cdv A outer s H E).nox V →
      m a = some b → RetZ F0 (post a b ++ os) (res a b) D → SX (cxOf CX0 P w K mg base N x (defScope st) f cdv A outer s H E).nox ((ps a).map sl ++ List.replicate nl un) (pre a ++ os) F0 (defBody st) D) : Cal P w K mg base (k + 1) x st pn (spZ ps pre m res post) := by
  refine ⟨f, fd, Fn, fun_ok Fn S (spZ_len hps) ?_, hmg, hb⟩
  rintro cdv A outer s H vs Q E hg hr ⟨a, b, F, os, c, ow, hm, q⟩
  refine pass_nox ?_
  have hl := (cla_len c).trans (hps a)
  have hst : L2.start N vs = vs.map some ++ List.replicate nl none := by
    unfold L2.start
    rw [hl, hN, Nat.add_sub_cancel_left]
  rw [hst]
  refine body f cdv A outer s H E a b F os _ ⟨rfl, S.nd, rfl, hg, hr, nam_vis nam, nam_gl nam⟩ ⟨fun _ => rfl, fun y hy => loc_of (List.all_eq_true.mp loc y hy), PassesOwn.never⟩ hm ⟨fun F' H' v e o c => q F' H' v e o c, fun _ _ z => z⟩ F _ H (Same.refl F) ow (cla_start nl c)
theorem cal_N (Fn : Fun K x x st f fd) (S : FnScope N pn (defScope st)) (nam : namB (defScope st) V Gs = true) (loc : V.all (locB (defScope st)) = true) (hmg : mg x = some (.ref f)) (hb : Binds K fd pn []) (hps : ∀ a, (ps a).length = pn.length) (hN : N.length = pn.length + nl)
    (body : ∀ (f : Addr) (cdv : Value) (A : Around) (outer : List Env) (s : Shared) (H : Hp) (E : XK) (a : α) (b : β) (F0 : Hp) (os : Os) (D : Ends), Bd (cxOf CX0 P w K mg base N x (defScope st) f cdv A outer s H E).nox N V Gs k → Bt (cxOf CX0 P w K mg base N x (defScope st) f cdv A outer s H E).nox V →
      m a = some b → RetN F0 (post a b ++ os) (n a b) D → SX (cxOf CX0 P w K mg base N x (defScope st) f cdv A outer s H E).nox ((ps a).map sl ++ List.replicate nl un) (pre a ++ os) F0 (defBody st) D) : Cal P w K mg base (k + 1) x st pn (spN ps pre m n post) := by
  refine ⟨f, fd, Fn, fun_ok Fn S (spN_len hps) ?_, hmg, hb⟩
  rintro cdv A outer s H vs Q E hg hr ⟨a, b, F, os, c, ow, hm, q⟩
  refine pass_nox ?_
  have hl := (cla_len c).trans (hps a)
  have hst : L2.start N vs = vs.map some ++ List.replicate nl none := by
    unfold L2.start
    rw [hl, hN, Nat.add_sub_cancel_left]
  rw [hst]
  refine body f cdv A outer s H E a b F os _ ⟨rfl, S.nd, rfl, hg, hr, nam_vis nam, nam_gl nam⟩ ⟨fun _ => rfl, fun y hy => loc_of (List.all_eq_true.mp loc y hy), PassesOwn.never⟩ hm ⟨fun F' H' p e o => q F' H' p e o⟩ F _ H (Same.refl F) ow (cla_start nl c)
end
/-- the law's call keeps a promise -/
def LawSp (K : PySem.W.Frag) (m : List Int → Option Bool) : Sp := spZ (fun ns => [scr K ns]) (fun _ => []) m (fun _ b => dat (.bool b)) (fun _ _ => [])
theorem law_run {P : Program} {w : World} {K : PySem.W.Frag} {mg mb : Str → Option Value} {k : Nat} {fa a : Addr} {fd : FuncData} {x : Str} {sp : Sp} {s1 : Shared} {vs : List Value} {ns : List Int}
    (KX : K.In s1.heap) (hns : s1.heap.Ns mainGlobals mg) (hb : s1.heap.Ns builtinsNs mb) (hbb : ∀ x : Str, x ≠ "__name__" → mb x = bootBuiltins x) (hlim : s1.heap.NoLimit) (hg : s1.gens = #[])
    (ha : s1.heap.get? a = some { cls := .type "list", data := .seq vs.toArray }) (hi : IntsAre vs ns) (hl : ns.length ≤ sizeLine) (hr : Room k callerA)
    (F : ∀ base : Heap, K.In base → base.Ns mainGlobals mg → FnG P w K mg base CX0 k fa fd [x] sp) (hbind : ∀ (s : Shared) (u : Value), BindsTo s fd ⟨[u], []⟩ [(x, u)])
    (hsp : ∀ H : Hp, Only H → SqL K H a (ns.map V.int) → sp [.ref a] H (fun v _ => v = .bl true) E0) :
    codeAny (model P w) callerA (.call (.ref fa) ⟨[.ref a], []⟩) (fun r s' => r = .ok (.ret (.bool true)) ∧ OldK s1.heap s'.heap ∧ s'.os = s1.os ∧ AllBare s'.gens) s1 := by
  have rv := vals_ints hi
  have step : ∀ H : Hp, Only H → SqL K H a (ns.map V.int) → HOk P w H s1.heap → (∀ b, H b ≠ none → b = a) → (H a ≠ none → K.lookup a = none) →
      codeAny (model P w) callerA (.call (.ref fa) ⟨[.ref a], []⟩) (fun r s' => r = .ok (.ret (.bool true)) ∧ OldK s1.heap s'.heap ∧ s'.os = s1.os ∧ AllBare s'.gens) s1 := by
    intro H only seq hok single lone
    have nsH : ∀ {b : Addr} {m : Str → Option Value}, s1.heap.Ns b m → (hidT s1.heap H).Ns b m := by
      rintro b m ⟨o, es, ep, e, d, r⟩
      refine ⟨o, es, ep, hidT_get e ?_, d, r⟩
      cases q : H b with
      | none => rfl
      | some u =>
        obtain rfl : b = a := single b (by rw [q]; simp)
        rw [ha] at e
        cases e
        have d' : Data.seq vs.toArray _ = Data.dict es ep := d
        cases d'
    have kin : K.In (hidT s1.heap H) := by
      intro b o e
      refine hidT_get (KX b o e) ?_
      cases q : H b with
      | none => rfl
      | some u =>
        obtain rfl : b = a := single b (by rw [q]; simp)
        have := lone (by rw [q]; simp)
        rw [this] at e
        cases e
    obtain ⟨mc, lim1, lim2⟩ := hlim
    have e0 : Env0 P w K mg (hidT s1.heap H) callerA [] s1 H :=
      { frames := rfl
        mod := ⟨kin, nsH hns, ⟨mb, nsH hb, hbb⟩, ⟨mc, nsH lim1, lim2⟩⟩
        bs := fun b o e => of_hidT e
        bsz := Nat.le_of_eq (hidT_size _ _)
        funs := trivial
        frf := fun b hb => nomatch (show b ∈ ([] : List Addr) from hb)
        hok := hok
        bare := .of_eq hg }
    refine codeAny_mono ((F _ kin (nsH hns)).run callerA [] s1 H ⟨[.ref a], []⟩ [.ref a] [.ref a] _ _ rfl hr e0 (hbind s1 (.ref a)) (.cons rfl .nil) (hsp H only seq)) ?_
    intro r s' h
    cases r with
    | error e => exact h.elim
    | ok fl =>
      cases fl with
      | next => exact h.elim
      | brk => exact h.elim
      | cont => exact h.elim
      | ret u =>
        obtain ⟨v, H', os, bare, un, hok', r', q⟩ := h
        obtain rfl : v = .bl true := q
        obtain rfl : u = Value.bool true := r'
        refine ⟨rfl, OldK.of_keep ?_, os, bare⟩
        intro b o e
        cases q : H b with
        | none => exact un.keep b o e q (fun z => nomatch (show b ∈ ([] : List Addr) from z)) (fun z => nomatch z)
        | some u =>
          rcases only b with z | ⟨ob, xs, z⟩
          · rw [q] at z
            cases z
          · obtain ⟨e1, _⟩ := hok b _ z
            obtain ⟨e2, _⟩ := hok' b _ (un.frzs b ob _ z)
            rw [e] at e1
            cases e1
            exact e2
  cases hk : K.lookup a with
  | some o =>
    have e := KX a o hk
    rw [ha] at e
    cases e
    exact step (fun _ => none) (fun _ => .inl rfl) (.inr ⟨_, vs.toArray, _, hk, rfl, rfl, rfl, by rw [List.size_toArray, hi.length]; exact hl, by simpa using rv⟩) (fun b u z => nomatch z) (fun b z => absurd rfl z) fun z => absurd rfl z
  | none =>
    let Hs : Hp := fun b => if b = a then some (.frz { cls := .type "list", data := .seq vs.toArray } (.lst (ns.map V.int))) else none
    have at_ : Hs a = some (.frz { cls := .type "list", data := .seq vs.toArray } (.lst (ns.map V.int))) := if_pos rfl
    have off : ∀ b, b ≠ a → Hs b = none := fun b h => if_neg h
    refine step Hs (fun b => ?_) (.inl (.inr ⟨_, at_⟩)) (fun b u z => ?_) (fun b z => Classical.byContradiction fun h => z (off b h)) fun _ => hk
    · by_cases h : b = a
      · exact .inr ⟨_, _, h ▸ at_⟩
      · exact .inl (off b h)
    · by_cases h : b = a
      · subst h
        rw [at_] at z
        cases z
        exact ⟨ha, by rw [List.length_map]; exact hl, vs, _, rv, ha⟩
      · rw [off b h] at z
        cases z
theorem law_sp {K : PySem.W.Frag} {m : List Int → Option Bool} {H : Hp} {a : Addr} {ns : List Int} (hm : m ns = some true) (hS : SqL K H a (ns.map V.int)) : LawSp K m [.ref a] H (fun v _ => v = .bl true) E0 :=
  ⟨ns, true, H, [], ⟨_, [], rfl, fun G g => ⟨a, rfl, g.seq hS⟩, rfl⟩, ⟨Same.refl H, [], .nil, (fun _ z => nomatch z), .nil⟩, hm, fun F' H' v _ _ c => clv_bool c⟩
/-- the goal that k_head leaves -/
theorem walk_ofG {l : PySem.W.OpenLaw} {n k : Nat} {q : Program} {loose : List Str} {XP : (Str → Option Value) → Heap → Prop} {YP : World → Heap → Prop} {d : DefRec} {K : Params → PySem.W.Frag} {m : List Int → Option Bool} {x : Str}
    (hn : l.most = some n) (hn2 : n ≤ sizeLine) (hdf : d.params.defaults = []) (hr : Room k callerA) (hY : ∀ (w : World) (h : Heap), YP w h → (K w.params).In h)
    (F : ∀ (w : World) (mg : Str → Option Value) (fa : Addr) (h : Heap), (K w.params).In h → h.Ns mainGlobals mg → mg d.name = some (.ref fa) →
      ∃ fd : FuncData, (∀ (s : Shared) (u : Value), BindsTo s fd ⟨[u], []⟩ [(x, u)]) ∧ ∀ base : Heap, (K w.params).In base → base.Ns mainGlobals mg → FnG l.prog w (K w.params) mg base CX0 k fa fd [x] (LawSp (K w.params) m))
    (hm : ∀ ns : List Int, ns.length ≤ n → m ns = some true) : PySem.W.WalkO q loose XP YP l.row.toRowW d [] (fun f vs => PySem.call f vs) := by
  refine Att.attach_call hn hdf ?_
  intro w s0 s1 mg mb fa o pm cd doc a vs ns G Y ho hd hcd hmg hobj hints hlen hg
  have KX := hY w _ Y
  obtain ⟨fd, hb, hF⟩ := F w mg fa _ KX G.T.g hmg
  exact law_run KX G.T.g G.T.b G.T.builtins G.T.nolimit hg hobj hints (Nat.le_trans hlen hn2) hr hF hb fun H _ hS => law_sp (hm ns hlen) hS
end Z
namespace Z
open PySem PySem.Spec PyProof.Rows L2
theorem bnd {α β : Type} {m : Option α} {k : α → Option β} {b : β} (h : m.bind k = some b) : ∃ a, m = some a ∧ k a = some b := by
  cases m with
  | none => cases h
  | some a => exact ⟨a, rfl, h⟩
theorem ifT {α : Type} {c : Bool} {a b : Option α} {r : α} (h : (if c = true then a else b) = some r) (hc : c = true) : a = some r := by
  rw [if_pos hc] at h
  exact h
theorem ifF {α : Type} {c : Bool} {a b : Option α} {r : α} (h : (if c = true then a else b) = some r) (hc : c = false) : b = some r := by
  rw [if_neg (by rw [hc]; exact Bool.false_ne_true)] at h
  exact h
theorem som {α : Type} {a b : α} (h : some a = some b) : a = b := Option.some.inj h
/-- the ends of range(..) in bounds -/
def rngO (a b : Int) : Option (List Int) := if -(2 ^ 62) ≤ a ∧ a < 2 ^ 62 ∧ -(2 ^ 62) ≤ b ∧ b < 2 ^ 62 then some (range' a b) else none
/-- a list may grow by so many -/
def appO {α : Type} (xs : List α) (x : α) : Option (List α) := if xs.length < sizeLine then some (xs ++ [x]) else none
def popO {α : Type} (xs : List α) : Option (α × List α) := match xs.getLast? with
  | some x => some (x, xs.dropLast)
  | none => none
def setO {α : Type} (xs : List α) (i : Int) (x : α) : Option (List α) := (ixN xs.length i).bind fun m => some (xs.set m x)
abbrev eL {α : Type} (e : α → PyData) : List α → PyData := fun xs => .list (xs.map e)
abbrev eT {α : Type} (e : α → PyData) : List α → PyData := fun xs => .tuple (xs.map e)
abbrev eP {α β : Type} (e : α → PyData) (f : β → PyData) : α × β → PyData := fun x => .tuple [e x.1, f x.2]
structure Tri (α β γ : Type) where
  a : α
  b : β
  c : γ
  deriving DecidableEq
abbrev eP3 {α β γ : Type} (e : α → PyData) (f : β → PyData) (g : γ → PyData) : Tri α β γ → PyData := fun x => .tuple [e x.a, f x.b, g x.c]
abbrev eO {α : Type} (e : α → PyData) : Option α → PyData := fun
  | none => .none
  | some a => e a
section
variable {X : Cx} {es es' : List Slot} {os os1 os2 : Os} {F0 : Hp} {rest : List Stmt} {D : Ends} {N V G W : List Str} {k i vi gi : Nat} {x : Str} {p pos : Pos} {e e2 a b : Expr} {φ : VP} {n : Ent} {α : Type}
theorem At.weak {σ : L2.St} {H : Hp} (h : At F0 es os σ H) (w : Wk es es') : At F0 es' os σ H := let ⟨F, s, o, l⟩ := h; ⟨F, s, o, l.weak w⟩
theorem At.perm {σ : L2.St} {H : Hp} (h : At F0 es os σ H) (w : os.Perm os1) : At F0 es os1 σ H := let ⟨F, s, o, l⟩ := h; ⟨F, s, o.perm w, l⟩
theorem At.drop {σ : L2.St} {H : Hp} {q : Addr × Ent} (h : At F0 es (q :: os) σ H) : At F0 es os σ H := let ⟨F, s, o, l⟩ := h; ⟨F, s, o.drop, l⟩
theorem EX.weak (h : EX X es' os e φ os1) (w : Wk es es') : EX X es os e φ os1 := fun F σ H Q ow sl q => h F σ H Q ow (sl.weak w) q
theorem EN.weak (h : EN X es' os e n os1) (w : Wk es es') : EN X es os e n os1 := fun F σ H Q ow sl q => h F σ H Q ow (sl.weak w) q
theorem EN.perm (h : EN X es os e n os1) (k : os1.Perm os2) : EN X es os e n os2 := fun F σ H Q ow sl q => h F σ H Q ow sl fun F' H' v e o => q F' H' v e (o.perm (k.cons _))
/-- an own list at the slot i is data from now on -/
theorem sx_frz {j : Nat} {q : Addr} {ds : List PyData} (hj : os[j]? = some (q, ol ds)) (hi : es[i]? = some (sl (own q))) (h : SX X (es.set i (sl (dat (.list ds)))) (os.eraseIdx j) F0 rest D) : SX X es os F0 rest D := fun F σ H s ow sl => by
  obtain ⟨u, hu, ⟨vs, rfl, hv⟩, e1, o1⟩ := (ow.perm (perm_at hj)).freezeU uni_ol
  have hv := dqall_mono e1 _ _ hv
  obtain ⟨v, ev, cv⟩ := sl.val hi
  obtain rfl : v = .ref q := cv.now
  have sl2 := (sl.mono e1).put (i := i) (v := .ref q) (φ := dat (.list ds)) (cl_dat (.lst upd_same hv))
  have e2 : σ.set i (some (.ref q)) = σ := by
    refine List.ext_getElem? fun m => ?_
    by_cases hm : i = m
    · subst hm
      rw [List.getElem?_set_self (List.getElem?_eq_some_iff.mp ev).1, ev]
    · rw [List.getElem?_set_ne hm]
  rw [e2] at sl2
  exact h _ σ H (s.trans e1) o1 sl2
theorem ix_rng1 {tg : Expr} {b : Int} {xs : List Int} (B : Bd X N W G k) (hj : G[gi]? = some "range") (hm : X.mg "range" = none) (hr : rngO 0 b = some xs) (ha : EX X es os e (dat (.int b)) os1) (hs : starEach [e] X.env = [(false, eval e X.env)] := by rfl) :
    IX X tg es os (.Call (.Name "range" p) [e] [] pos) xs (fun x => dat (.int x)) anyOs os1 := by
  unfold rngO at hr
  split at hr
  · rename_i h
    cases hr
    exact ix_range1 B hj hm h.2.2 ha hs
  · cases hr
theorem ix_rng2 {tg : Expr} {a b : Int} {xs : List Int} (B : Bd X N W G k) (hj : G[gi]? = some "range") (hm : X.mg "range" = none) (hr : rngO a b = some xs) (ha : EX X es os e (dat (.int a)) os1) (hb : EX X es os1 e2 (dat (.int b)) os2)
    (hs : starEach [e, e2] X.env = [(false, eval e X.env), (false, eval e2 X.env)] := by rfl) (hs2 : starEach [e2] X.env = [(false, eval e2 X.env)] := by rfl) :
    IX X tg es os (.Call (.Name "range" p) [e, e2] [] pos) xs (fun x => dat (.int x)) anyOs os2 := by
  unfold rngO at hr
  split at hr
  · rename_i h
    cases hr
    exact ix_range2 B hj hm h ha hb hs hs2
  · cases hr
/-- xs.append(e) of an own list -/
theorem ex_app {β : Type} {apos cpos : Pos} {q : Addr} {enc : β → PyData} {xs xs0 ys : List β} {y : β} {j : Nat} (ha : appO xs y = some ys) (ho : EX X es os a (own q) os) (h0 : os[j]? = some (q, ol (xs0.map enc))) (he : EX X es os e (dat (enc y)) os1) (hj : os1[j]? = some (q, ol (xs.map enc)))
    (hbase : attributeBase a "append" X.env (eval a X.env) = eval a X.env := by rfl) (hline : (apos.endLine == cpos.line) = true := by rfl) (hs : starEach [e] X.env = (false, eval e X.env) :: starEach [] X.env := by rfl)
    (hfew : ((backTo cpos (starEach [e] X.env)).all (fun x => !x.1) && (backToKw cpos (keywordEach [] X.env)).all (fun x => x.1.isSome) && decide ([e].length + ([] : List Keyword).length + (if ([] : List Keyword).isEmpty then 0 else 1) < 30)) = true := by rfl)
    (hplain : (backTo cpos (starEach [] X.env)).any (·.1) = false := by rfl) : EX X es os (.Call (.Attribute a "append" apos) [e] [] cpos) (dat .none) (os1.set j (q, ol (ys.map enc))) := by
  unfold appO at ha
  split at ha
  · rename_i h
    cases ha
    rw [List.map_append]
    exact ex_append ho he h0 hj (by rw [List.length_map]; exact h) hbase hline hs hfew hplain
  · cases ha
theorem ex_popO {β : Type} {apos cpos : Pos} {q : Addr} {enc : β → PyData} {xs : List β} {r : β × List β} {j : Nat} (hr : popO xs = some r) (ho : EX X es os a (own q) os) (hj : os[j]? = some (q, ol (xs.map enc)))
    (hbase : attributeBase a "pop" X.env (eval a X.env) = eval a X.env := by rfl) (hline : (apos.endLine == cpos.line) = true := by rfl) : EX X es os (.Call (.Attribute a "pop" apos) [] [] cpos) (dat (enc r.1)) (os.set j (q, ol (r.2.map enc))) := by
  unfold popO at hr
  split at hr
  · rename_i z hz
    cases hr
    have e : (xs.map enc).getLast? = some (enc z) := by rw [List.getLast?_map, hz]; rfl
    have h := ex_pop ho hj e hbase hline
    rw [← List.map_dropLast] at h
    exact h
  · cases hr
theorem sx_setO {β : Type} {tpos : Pos} {q : Addr} {enc : β → PyData} {xs ys : List β} {y : β} {j : Nat} {z : Int} (hy : setO xs z y = some ys) (he : EX X es os e (dat (enc y)) os1) (ho : EX X es os1 a (own q) os1) (hb : EX X es os1 b (dat (.int z)) os2) (hj : os2[j]? = some (q, ol (xs.map enc))) (h : SX X es (os2.set j (q, ol (ys.map enc))) F0 rest D)
    (hs : swapsWithSole [.Subscript a b tpos] e pos.line X.env = pure false := by rfl) (hw : swappedStores [.Subscript a b tpos] e X.env = pure none := by rfl) (h1 : (assignEach [.Subscript a b tpos] X.env).map (·.2) = [assign (.Subscript a b tpos) X.env] := by rfl)
    (hsub : ∀ v, assign (.Subscript a b tpos) X.env v = (do
      let ov ← holding [v] (eval a X.env)
      let iv ← holding [v, ov] (eval b X.env)
      standAt tpos
      holding [v, ov, iv] (setItem ov iv v)
      release [v, ov, iv] []) := by intro _; rfl) : SX X es os F0 (.Assign [.Subscript a b tpos] e pos :: rest) D := by
  obtain ⟨m, hm, h2⟩ := bnd hy
  cases h2
  rw [List.map_set] at h
  exact sx_setL he ho hb hj (by rw [List.length_map]; exact hm) h hs hw h1 hsub
theorem ex_idxL {β : Type} {enc : β → PyData} {xs : List β} {y : β} {z : Int} (hk : idx xs z = some y) (hr : RdL X φ os2 (xs.map enc)) (ha : EX X es os a φ os1) (hb : EX X es os1 b (dat (.int z)) os2) (hp : PlainIx b := by exact fun _ _ => rfl) : EX X es os (.Subscript a b pos) (dat (enc y)) os2 := ex_ixL hr (atI_map enc hk) ha hb hp
theorem ex_idxT {β : Type} {enc : β → PyData} {xs : List β} {y : β} {z : Int} (hk : idx xs z = some y) (hr : RdT φ (xs.map enc)) (ha : EX X es os a φ os1) (hb : EX X es os1 b (dat (.int z)) os2) (hp : PlainIx b := by exact fun _ _ => rfl) : EX X es os (.Subscript a b pos) (dat (enc y)) os2 := ex_ixT hr (atI_map enc hk) ha hb hp
/-- a literal list or tuple of one kind is a map -/
theorem EN.list {ds ds' : List PyData} (h : EN X es os e (ol ds) os1) (k : ds = ds') : EN X es os e (ol ds') os1 := k ▸ h
theorem EX.to {d d' : PyData} (h : EX X es os e (dat d) os1) (k : d = d') : EX X es os e (dat d') os1 := k ▸ h
theorem TX.to {t t' : Bool} (h : TX X es os e t os1) (k : t = t') : TX X es os e t' os1 := k ▸ h
end
/-- two lists of data are equal exactly if they are alike -/
def EqvOk {α : Type} [DecidableEq α] (e : α → PyData) : Prop := ∀ a b, PyData.eqv (e a) (e b) = decide (a = b)
theorem eqv_int : EqvOk PyData.int := fun a b => by
  simp only [PyData.eqv]
  exact Bool.beq_eq_decide_eq a b
theorem eqv_bool : EqvOk PyData.bool := fun a b => by
  simp only [PyData.eqv]
  exact Bool.beq_eq_decide_eq a b
theorem eqvAll_map {α : Type} [DecidableEq α] {e : α → PyData} (h : EqvOk e) : ∀ xs ys : List α, PyData.eqvAll (xs.map e) (ys.map e) = decide (xs = ys)
  | [], [] => by simp [PyData.eqvAll]
  | [], y :: ys => by simp [PyData.eqvAll]
  | x :: xs, [] => by simp [PyData.eqvAll]
  | x :: xs, y :: ys => by
    simp only [List.map_cons, PyData.eqvAll, h x y, eqvAll_map h xs ys, List.cons.injEq, Bool.decide_and]
theorem eqv_list {α : Type} [DecidableEq α] {e : α → PyData} (h : EqvOk e) : EqvOk (eL e) := fun a b => by
  simp only [PyData.eqv]
  exact eqvAll_map h a b
theorem eqv_tup {α : Type} [DecidableEq α] {e : α → PyData} (h : EqvOk e) : EqvOk (eT e) := fun a b => by
  simp only [PyData.eqv]
  exact eqvAll_map h a b
theorem eqv_pair {α β : Type} [DecidableEq α] [DecidableEq β] {e : α → PyData} {f : β → PyData} (h : EqvOk e) (g : EqvOk f) : EqvOk (eP e f) := fun a b => by
  simp only [PyData.eqv, PyData.eqvAll, Bool.and_true]
  rw [h, g, ← Bool.decide_and]
  exact decide_eq_decide.mpr ⟨fun ⟨p, q⟩ => Prod.ext p q, fun p => by rw [p]; exact ⟨rfl, rfl⟩⟩
/-- data of bounded depth without dicts -/
structure ShOk {α : Type} (e : α → PyData) (n : Nat) : Prop where
  lay : ∀ a, (e a).canLay0 = true
  dep : ∀ a, (e a).depth ≤ n
theorem ShOk.shaped {α : Type} {e : α → PyData} {n : Nat} (h : ShOk e n) (hn : n ≤ 64) (a : α) : SeqAt.shaped (e a) = true := by
  unfold SeqAt.shaped
  rw [h.lay a, Bool.true_and]
  exact decide_eq_true (Nat.le_trans (h.dep a) hn)
theorem sh_int : ShOk PyData.int 0 := ⟨fun _ => by simp only [PyData.canLay0], fun _ => by simp only [PyData.depth]; exact Nat.le_refl 0⟩
theorem sh_bool : ShOk PyData.bool 0 := ⟨fun _ => by simp only [PyData.canLay0], fun _ => by simp only [PyData.depth]; exact Nat.le_refl 0⟩
theorem layAll_map {α : Type} {e : α → PyData} {n : Nat} (h : ShOk e n) : ∀ xs : List α, PyData.canLayAll0 (xs.map e) = true ∧ PyData.depthAll (xs.map e) ≤ n
  | [] => by
    simp only [List.map_nil, PyData.canLayAll0, PyData.depthAll]
    exact ⟨trivial, Nat.zero_le _⟩
  | x :: xs => by
    obtain ⟨a, b⟩ := layAll_map h xs
    simp only [List.map_cons, PyData.canLayAll0, PyData.depthAll, h.lay x, a]
    exact ⟨rfl, Nat.max_le.mpr ⟨h.dep x, b⟩⟩
theorem sh_list {α : Type} {e : α → PyData} {n : Nat} (h : ShOk e n) : ShOk (eL e) (n + 1) :=
  ⟨fun xs => by simp only [PyData.canLay0]; exact (layAll_map h xs).1, fun xs => by simp only [PyData.depth]; exact Nat.succ_le_succ (layAll_map h xs).2⟩
theorem sh_tup {α : Type} {e : α → PyData} {n : Nat} (h : ShOk e n) : ShOk (eT e) (n + 1) :=
  ⟨fun xs => by simp only [PyData.canLay0]; exact (layAll_map h xs).1, fun xs => by simp only [PyData.depth]; exact Nat.succ_le_succ (layAll_map h xs).2⟩
theorem sh_pair {α β : Type} {e : α → PyData} {f : β → PyData} {n m : Nat} (h : ShOk e n) (g : ShOk f m) : ShOk (eP e f) (max n m + 1) :=
  ⟨fun x => by simp only [PyData.canLay0, PyData.canLayAll0, h.lay, g.lay]; rfl, fun x => by
    simp only [PyData.depth, PyData.depthAll]
    have h1 := h.dep x.1
    have h2 := g.dep x.2
    omega⟩
end Z
namespace Z
open PySem PySem.Spec PyProof.Rows L2
section
variable {X : Cx} {es es' : List Slot} {os os1 os2 : Os} {F0 : Hp} {rest : List Stmt} {D : Ends} {N V G W : List Str} {k i j l vi gi : Nat} {x y z : Str} {p pos : Pos} {e e2 a b c : Expr} {φ : VP} {n : Ent} {α : Type}
def AQ (X : Cx) (es : List Slot) (as : List Expr) (os : Os) (Rel : List VP → Os → Prop) : Prop := ∀ F σ H Q, Ow F os H → Sl F es σ → (∀ F' H' vs φs os', Same F F' → Rel φs os' → Ow F' os' H' → ClA φs F' vs → Q vs H') → WA X as σ H Q
theorem aq_nil : AQ X es [] os (fun φs os' => φs = [] ∧ os' = os) := fun F σ H Q ow sl q => wa_of pa_nil (q F H [] [] os (Same.refl F) ⟨rfl, rfl⟩ ow rfl)
theorem aq_x {as : List Expr} {Rel : List VP → Os → Prop} (ha : EX X es os a φ os1) (hr : AQ X es as os1 Rel) (hs : starEach (a :: as) X.env = (false, eval a X.env) :: starEach as X.env := by rfl) : AQ X es (a :: as) os (fun φs os' => ∃ r, φs = φ :: r ∧ Rel r os') := fun F σ H Q ow sl q =>
  wa_of (pa_cons pe_u pa_u hs) (ha F σ H _ ow sl fun F1 H1 v e1 o1 c1 => hr F1 σ H1 _ o1 (sl.mono e1) fun F2 H2 vs φs os' e2 rel o2 c2 => q F2 H2 _ _ os' (e1.trans e2) ⟨φs, rfl, rel⟩ o2 ⟨v, vs, rfl, c1.mono e2, c2⟩)
theorem aq_n {as : List Expr} {Rel : Addr → List VP → Os → Prop} (ha : EN X es os a n os1) (hr : ∀ p, AQ X es as ((p, n) :: os1) (Rel p)) (hs : starEach (a :: as) X.env = (false, eval a X.env) :: starEach as X.env := by rfl) : AQ X es (a :: as) os (fun φs os' => ∃ p r, φs = own p :: r ∧ Rel p r os') := fun F σ H Q ow sl q =>
  wa_of (pa_cons pe_u pa_u hs) (ha F σ H _ ow sl fun F1 H1 p e1 o1 => hr p F1 σ H1 _ o1 (sl.mono e1) fun F2 H2 vs φs os' e2 rel o2 c2 => q F2 H2 _ _ os' (e1.trans e2) ⟨p, φs, rfl, rel⟩ o2 ⟨_, vs, rfl, cl_own, c2⟩)
/-- the names are stored from the right -/
def swpB (sc : Scope) (ts : List Expr) (v : Expr) (xs : List Str) : Prop := ∀ env : Env, env.scope = sc → swappedStores ts v env = pure (some xs)
def nswB (sc : Scope) (ts : List Expr) (v : Expr) : Prop := ∀ env : Env, env.scope = sc → swappedStores ts v env = pure none
def lclB (sc : Scope) (x : Str) : Bool := match sc.names.lookup x with
  | some .local => true
  | _ => false
theorem lcl_of {sc : Scope} {x : Str} (h : lclB sc x = true) : sc.names.lookup x = some .local := by
  unfold lclB at h
  split at h
  · assumption
  · cases h
theorem sx_par2 {px py pt p2 : Pos} {kt k2 : Nat} {Rel : List VP → Os → Prop} (sc : Scope) (hsc : X.env.scope = sc) (B : Bd X N W G k) (hi : N[i]? = some x) (hj : N[j]? = some y) (hij : i ≠ j) (hx : lclB sc x = true) (hy : lclB sc y = true) (hw : swpB sc [.Tuple [.Name x px, .Name y py] kt pt] (.Tuple [a, b] k2 p2) [x, y])
    (ha : AQ X es [a, b] os Rel) (h : ∀ φ ψ os', Rel [φ, ψ] os' → SX X ((es.set i (sl φ)).set j (sl ψ)) os' F0 rest D) (hR : ∀ φs os', Rel φs os' → ∃ φ ψ, φs = [φ, ψ])
    (hs : swapsWithSole [.Tuple [.Name x px, .Name y py] kt pt] (.Tuple [a, b] k2 p2) pos.line X.env = pure false := by rfl) : SX X es os F0 (.Assign [.Tuple [.Name x px, .Name y py] kt pt] (.Tuple [a, b] k2 p2) pos :: rest) D := fun F σ H s ow sl =>
  wps_cons (ws_of (ps_par B.calm (B.hN ▸ B.nd) (B.hN ▸ hi) (B.hN ▸ hj) hij (by rw [hsc]; exact lcl_of hx) (by rw [hsc]; exact lcl_of hy) pa_u (hw _ hsc) hs) (ha F σ H _ ow sl fun F1 H1 vs φs os' e1 rel o1 c1 => by
    obtain ⟨φ, ψ, rfl⟩ := hR φs os' rel
    obtain ⟨v, u, rfl, h1, h2⟩ := cla2 c1
    exact ⟨v, u, rfl, h φ ψ os' rel F1 _ H1 (s.trans e1) o1 (((sl.mono e1).put h1).put h2)⟩))
theorem cla3 {φ ψ χ : VP} {F : Hp} {vs : List L2.V} (h : ClA [φ, ψ, χ] F vs) : ∃ v u w, vs = [v, u, w] ∧ Cl φ F v ∧ Cl ψ F u ∧ Cl χ F w := by
  obtain ⟨v, r, e, h1, h2⟩ := h
  obtain ⟨u, w, e2, h3, h4⟩ := cla2 h2
  subst e2
  exact ⟨v, u, w, e, h1, h3, h4⟩
theorem sx_mk3 {m : Nat} {t1 t2 t3 pt p2 : Pos} {kt k2 : Nat} {Rel : List VP → Os → Prop} (sc : Scope) (hsc : X.env.scope = sc) (B : Bd X N W G k) (T : Bt X V) (hi : N[i]? = some x) (hj : N[j]? = some y) (hl : N[l]? = some z) (hx : V[vi]? = some x) (hy : V[gi]? = some y) (hz : V[m]? = some z) (hw : nswB sc [.Tuple [.Name x t1, .Name y t2, .Name z t3] kt pt] (.Tuple [a, b, c] k2 p2))
    (ha : AQ X es [a, b, c] os Rel) (h : ∀ φ ψ χ os', Rel [φ, ψ, χ] os' → SX X (((es.set i (sl φ)).set j (sl ψ)).set l (sl χ)) os' F0 rest D) (hR : ∀ φs os', Rel φs os' → ∃ φ ψ χ, φs = [φ, ψ, χ])
    (hs : swapsWithSole [.Tuple [.Name x t1, .Name y t2, .Name z t3] kt pt] (.Tuple [a, b, c] k2 p2) pos.line X.env = pure false := by rfl) (h1 : (assignEach [.Tuple [.Name x t1, .Name y t2, .Name z t3] kt pt] X.env).map (·.2) = [assign (.Tuple [.Name x t1, .Name y t2, .Name z t3] kt pt) X.env] := by rfl) :
    SX X es os F0 (.Assign [.Tuple [.Name x t1, .Name y t2, .Name z t3] kt pt] (.Tuple [a, b, c] k2 p2) pos :: rest) D := fun F σ H s ow sl =>
  wps_cons (ws_of (ps_asg (pe_tup pa_u) (pg_tup (n := 3) B.calm (pgs_cons (pg_name (B.hN ▸ B.nd) (B.hN ▸ hi) (T.loc x (List.mem_of_getElem? hx)) (.inl (T.fn x))) (pgs_cons (pg_name (B.hN ▸ B.nd) (B.hN ▸ hj) (T.loc y (List.mem_of_getElem? hy)) (.inl (T.fn y))) (pgs_cons (pg_name (B.hN ▸ B.nd) (B.hN ▸ hl) (T.loc z (List.mem_of_getElem? hz)) (.inl (T.fn z))) pgs_nil))) rfl rfl) hs (hw _ hsc) h1) (ha F σ H _ ow sl fun F1 H1 vs φs os' e1 rel o1 c1 => by
    obtain ⟨φ, ψ, χ, rfl⟩ := hR φs os' rel
    obtain ⟨v, u, w, rfl, h1, h2, h3⟩ := cla3 c1
    refine ⟨by show 3 ≤ sizeLine; decide, fun p hp => ?_⟩
    refine ⟨p, _, rfl, .of upd_same, rfl, _, _, rfl, _, _, rfl, _, _, rfl, rfl, ?_⟩
    exact h φ ψ χ os' rel F1 _ _ (s.trans e1) (o1.grow (same_upd hp)) ((((sl.mono e1).put h1).put h2).put h3)))
def isTy : PyData → String → Bool
  | .none, s => s == "NoneType"
  | .bool _, s => s == "bool" || s == "int"
  | .int _, s => s == "int"
  | .str _, s => s == "str"
  | .list _, s => s == "list"
  | .tuple _, s => s == "tuple"
  | .dict _, s => s == "dict"
theorem ex_tyname {T : String} (B : Bd X N W G k) (hj : G[gi]? = some x) (hm : X.mg x = none) (hv : bootBuiltins x = some (.type T)) : EX X es os (.Name x pos) (fun _ v => v = .ty T) os := fun F σ H Q ow sl q =>
  let ⟨u, v⟩ := B.gl x (List.mem_of_getElem? hj)
  we_of (pe_bltn (v := .ty T) u hm hv rfl (dun_n v) (dun_d v)) (q F H _ (Same.refl F) ow fun _ _ => rfl)
def tyName : PyData → String
  | .none => "NoneType"
  | .bool _ => "bool"
  | .int _ => "int"
  | .str _ => "str"
  | .list _ => "list"
  | .tuple _ => "tuple"
  | .dict _ => "dict"
theorem rc_isi {d : PyData} {T : String} {r : Bool} (h : kitB (tyName d) T = some r) (hT : ∀ ps, d ≠ .dict ((.none, .none) :: ps) := by intro _ z; first | cases z | assumption) : RCX (rIsi X.K) [dat d, fun _ v => v = .ty T] os (dat (.bool r)) os := fun F H vs Q ow c q => by
  obtain ⟨v, u, rfl, h1, h2⟩ := cla2 c
  obtain rfl : u = .ty T := h2.now
  have fin := q F H _ (Same.refl F) ow (cl_dat (.bl r))
  have hd := h1.now
  have key : ∀ t : String, tyName d = t → TyX X.K H v (.type t) → rIsi X.K [v, .ty T] H Q := fun t e k => ⟨v, _, _, _, r, rfl, .ty T, k, kit_ty (e ▸ h), fin⟩
  cases hd with
  | non => exact key _ rfl (.base .non)
  | bl b => exact key _ rfl (.base (.bl b))
  | int i => exact key _ rfl (.base (.int i))
  | str x => exact key _ rfl (.base (.str x))
  | lst k1 k2 => exact key _ rfl (.base (.lst (ow.ex _ _ k1)))
  | tup k1 k2 => exact key _ rfl (.base (.tup (ow.ex _ _ k1)))
  | dctK k1 k2 k3 => exact key _ rfl (.fDict (ow.ex _ _ k1))
  | dctT k1 k2 k3 => exact (hT _ rfl).elim
def catO {α : Type} (xs ys : List α) : Option (List α) := if xs.length + ys.length ≤ sizeLine then some (xs ++ ys) else none
theorem dqall_rev {F : Hp} : ∀ {ds : List PyData} {vs : List L2.V}, DqAll F vs ds → DqAll F vs.reverse ds.reverse
  | [], _, h => by
    cases h
    exact .nil
  | d :: ds, _, h => by
    cases h with
    | cons h1 h2 =>
      rw [List.reverse_cons, List.reverse_cons]
      exact dqall_app (dqall_rev h2) (.cons h1 .nil)
theorem dat_list {F H : Hp} {v : L2.V} {ds : List PyData} (ow : Ow F os H) (c : Cl (dat (.list ds)) F v) : ∃ p vs, v = .ref p ∧ H p = some (.lst vs) ∧ DqAll F vs ds := by
  have h := c.now
  cases h with
  | lst h1 h2 => exact ⟨_, _, rfl, ow.ex _ _ h1, h2⟩
theorem en_cat {α : Type} {enc : α → PyData} {xs ys zs : List α} (h : catO xs ys = some zs) (ha : EX X es os a (dat (.list (xs.map enc))) os1) (hb : EX X es os1 b (dat (.list (ys.map enc))) os2) : EN X es os (.BinOp a .Add b pos) (ol (zs.map enc)) os2 := fun F σ H Q ow sl q => by
  unfold catO at h
  split at h
  · rename_i hl
    cases h
    refine we_of (pe_op op_cat pe_u pe_u) (ha F σ H _ ow sl fun F1 H1 v e1 o1 c1 => hb F1 σ H1 _ o1 (sl.mono e1) fun F2 H2 u e2 o2 c2 => ?_)
    obtain ⟨p, vs, rfl, h1, h2⟩ := dat_list o2 (c1.mono e2)
    obtain ⟨r, us, rfl, h3, h4⟩ := dat_list o2 c2
    refine ⟨p, r, vs, us, rfl, rfl, h1, h3, by rw [dqall_len h2, dqall_len h4, List.length_map, List.length_map]; exact hl, fun m hm => ?_⟩
    refine q F2 _ m (e1.trans e2) (o2.new hm fun G g => ⟨_, rfl, ?_⟩)
    rw [List.map_append]
    exact dqall_mono g _ _ (dqall_app h2 h4)
  · cases h
theorem ex_catT {α : Type} {enc : α → PyData} {xs ys zs : List α} (h : catO xs ys = some zs) (ha : EX X es os a (dat (.tuple (xs.map enc))) os1) (hb : EX X es os1 b (dat (.tuple (ys.map enc))) os2) : EX X es os (.BinOp a .Add b pos) (dat (.tuple (zs.map enc))) os2 := fun F σ H Q ow sl q => by
  unfold catO at h
  split at h
  · rename_i hl
    cases h
    refine we_of (pe_op op_catA pe_u pe_u) (ha F σ H _ ow sl fun F1 H1 v e1 o1 c1 => hb F1 σ H1 _ o1 (sl.mono e1) fun F2 H2 u e2 o2 c2 => ?_)
    obtain ⟨p, vs, rfl, h1, h2⟩ := rdt_dat F2 v (c1.mono e2)
    obtain ⟨r, us, rfl, h3, h4⟩ := rdt_dat F2 u c2
    have e := e1.trans e2
    have hd := dqall_app h2 h4
    rw [← List.map_append] at hd
    refine ⟨p, r, vs, us, rfl, rfl, .of (o2.ex _ _ h1), .of (o2.ex _ _ h3), by rw [dqall_len h2, dqall_len h4, List.length_map, List.length_map]; exact hl, fun h0 => ?_, fun h0 h5 => ?_, fun h0 h5 m hm => ?_⟩
    · refine q F2 H2 _ e o2 (cl_dat (.tup h3 ?_))
      rw [h0, List.nil_append] at hd
      exact hd
    · refine q F2 H2 _ e o2 (cl_dat (.tup h1 ?_))
      rw [h5, List.append_nil] at hd
      exact hd
    · have fp := o2.ex.free hm
      exact q _ _ _ (e.trans (same_upd fp)) (o2.frozen hm) (cl_dat (.tup upd_same (dqall_mono (same_upd fp) _ _ hd)))
  · cases h
/-- xs[lo:hi] -/
def cut {α : Type} (xs : List α) (lo hi : Option Int) : List α := (xs.drop (HT.sIx xs.length 0 lo)).take (HT.sIx xs.length xs.length hi - HT.sIx xs.length 0 lo)
theorem dqall_cut {F : Hp} {ds : List PyData} {vs : List L2.V} (h : DqAll F vs ds) (lo hi : Option Int) : DqAll F (cutV vs lo hi) (cut ds lo hi) := by
  unfold cutV cut
  rw [dqall_len h]
  exact dqall_take _ (dqall_drop _ h)
theorem cut_map {α β : Type} (f : α → β) (xs : List α) (lo hi : Option Int) : cut (xs.map f) lo hi = (cut xs lo hi).map f := by
  unfold cut
  rw [List.length_map, List.map_take, List.map_drop]
def WO (X : Cx) : Option Expr → TO
  | none => tNoPart
  | some e => tPart (WE X e)
theorem po_u : ∀ e : Option Expr, PO X e (WO X e)
  | none => po_none
  | some e => po_some pe_u
/-- an end of a slice -/
def PX (X : Cx) (es : List Slot) (os : Os) (e : Option Expr) (o : Option Int) (os' : Os) : Prop := ∀ F σ H Q, Ow F os H → Sl F es σ → (∀ F' H', Same F F' → Ow F' os' H' → Q o H') → WO X e σ H Q
theorem px_none : PX X es os none none os := fun F σ H Q ow sl q => q F H (Same.refl F) ow
theorem px_some {i : Int} (h : EX X es os e (dat (.int i)) os1) : PX X es os (some e) (some i) os1 := fun F σ H Q ow sl q => h F σ H _ ow sl fun F1 H1 v e1 o1 c1 => ⟨i, clv_int c1, q F1 H1 e1 o1⟩
theorem en_cut {α : Type} {enc : α → PyData} {xs : List α} {lo hi : Option Expr} {l u : Option Int} {os3 : Os} {p2 : Pos} (hr : RdL X φ os3 (xs.map enc)) (ha : EX X es os a φ os1) (hl : PX X es os1 lo l os2) (hu : PX X es os2 hi u os3) : EN X es os (.Subscript a (.Slice lo hi none p2) pos) (ol ((cut xs l u).map enc)) os3 := fun F σ H Q ow sl q =>
  we_of (pe_slice sl_list pe_u (po_u lo) (po_u hi)) (ha F σ H _ ow sl fun F1 H1 v e1 o1 c1 => hl F1 σ H1 _ o1 (sl.mono e1) fun F2 H2 e2 o2 => hu F2 σ H2 _ o2 (sl.mono (e1.trans e2)) fun F3 H3 e3 o3 => by
    obtain ⟨p, vs, rfl, h1, h2⟩ := hr F3 H3 v o3 ((c1.mono e2).mono e3)
    refine ⟨p, vs, rfl, h1, fun m hm => q F3 _ m ((e1.trans e2).trans e3) (o3.new hm fun G g => ⟨_, rfl, ?_⟩)⟩
    rw [← cut_map]
    exact dqall_mono g _ _ (dqall_cut h2 l u))
theorem ex_cutT {α : Type} {enc : α → PyData} {xs : List α} {lo hi : Option Expr} {l u : Option Int} {os3 : Os} {p2 : Pos} (hr : RdT φ (xs.map enc)) (ha : EX X es os a φ os1) (hl : PX X es os1 lo l os2) (hu : PX X es os2 hi u os3) : EX X es os (.Subscript a (.Slice lo hi none p2) pos) (dat (.tuple ((cut xs l u).map enc))) os3 := fun F σ H Q ow sl q =>
  we_of (pe_slice sl_tupA pe_u (po_u lo) (po_u hi)) (ha F σ H _ ow sl fun F1 H1 v e1 o1 c1 => hl F1 σ H1 _ o1 (sl.mono e1) fun F2 H2 e2 o2 => hu F2 σ H2 _ o2 (sl.mono (e1.trans e2)) fun F3 H3 e3 o3 => by
    obtain ⟨p, vs, rfl, h1, h2⟩ := hr F3 v ((c1.mono e2).mono e3)
    have e := (e1.trans e2).trans e3
    have hd := dqall_cut h2 l u
    rw [cut_map] at hd
    refine ⟨p, vs, rfl, .of (o3.ex _ _ h1), fun hw => ?_, fun hw m hm => ?_⟩
    · refine q F3 H3 _ e o3 (cl_dat (.tup h1 ?_))
      have e4 : cutV vs l u = vs := by
        unfold cutV
        rw [hw.1, hw.2, List.drop_zero, Nat.sub_zero, List.take_length]
      rw [e4] at hd
      exact hd
    · have fp := o3.ex.free hm
      exact q _ _ _ (e.trans (same_upd fp)) (o3.frozen hm) (cl_dat (.tup upd_same (dqall_mono (same_upd fp) _ _ hd))))
/-- xs[::-1] of a list -/
theorem en_rev {α : Type} {enc : α → PyData} {xs : List α} {kk : Nat} {p1 p2 p3 : Pos} (hr : RdL X φ os1 (xs.map enc)) (ha : EX X es os a φ os1) : EN X es os (.Subscript a (.Slice none none (some (.UnaryOp .USub (.Constant (.int 1) kk p1) p2)) p3) pos) (ol (xs.reverse.map enc)) os1 := fun F σ H Q ow sl q =>
  we_of (pe_revL pe_u) (ha F σ H _ ow sl fun F1 H1 v e1 o1 c1 => by
    obtain ⟨p, vs, rfl, h1, h2⟩ := hr F1 H1 v o1 c1
    refine ⟨p, vs, rfl, h1, fun m hm => q F1 _ m e1 (o1.new hm fun G g => ⟨_, rfl, ?_⟩)⟩
    rw [List.map_reverse]
    exact dqall_mono g _ _ (dqall_rev h2))
def mapO {α β : Type} (f : α → Option β) : List α → Option (List β)
  | [] => some []
  | x :: xs => (f x).bind fun y => (mapO f xs).bind fun ys => some (y :: ys)
def lcO {α β : Type} (f : α → Option β) (xs : List α) : Option (List β) := if xs.length < sizeLine then mapO f xs else none
theorem lcS_mapO {α β : Type} (f : α → Option β) : ∀ (xs : List α) (ys : List β), mapO f xs = some ys → lcS (fun (_ : Unit) x => (f x).map fun y => (some y, ())) xs () = some (ys, ())
  | [], ys, h => by
    cases h
    rfl
  | x :: xs, ys, h => by
    unfold mapO at h
    obtain ⟨y, hy, h⟩ := bnd h
    obtain ⟨zs, hz, h⟩ := bnd h
    cases h
    unfold lcS
    rw [hy]
    show ((lcS _ xs ()).bind fun u => some ([y] ++ u.1, u.2)) = _
    rw [lcS_mapO f xs zs hz]
    rfl
theorem lcO_ok {α β : Type} {f : α → Option β} {xs : List α} {ys : List β} (h : lcO f xs = some ys) : xs.length < sizeLine ∧ lcS (fun (_ : Unit) x => (f x).map fun y => (some y, ())) xs () = some (ys, ()) := by
  unfold lcO at h
  split at h
  · rename_i hl
    exact ⟨hl, lcS_mapO f xs ys h⟩
  · cases h
end
end Z
namespace Z
open PySem PySem.Spec PyProof.Rows L2
abbrev absI (i : Int) : Int := if i < 0 then -i else i
abbrev maxI (i j : Int) : Int := if j > i then j else i
abbrev minI (i j : Int) : Int := if j < i then j else i
theorem fdivO_lit {i j : Int} (h : 0 < j) (h2 : j.natAbs.log2 < 9000) : fdivO i j = some (i / j) := if_pos ⟨h, h2⟩
theorem modO_lit {i j : Int} (h : 0 < j) : modO i j = some (i % j) := if_pos h
theorem and_fix {k l : Bool} (h : k = false → l = false) : (k && l) = l := by
  cases k with
  | true => rfl
  | false => rw [h rfl]; rfl
theorem or_fix {k l : Bool} (h : k = true → l = true) : (k || l) = l := by
  cases k with
  | false => rfl
  | true => rw [h rfl]; rfl
section
variable {X X' : Cx} {es es' : List Slot} {os os1 os2 : Os} {F0 : Hp} {rest : List Stmt} {st : Stmt} {D : Ends} {N V G W : List Str} {k i j l vi gi gj : Nat} {x y z : Str} {p pos : Pos} {e e2 a b c : Expr} {φ ψ : VP} {n : Ent} {α β : Type} {scope : Scope}
theorem sx_join (es' : List Slot) (os' : Os) (h : SX X es' os' F0 rest D) (kk : SX X es' os' F0 rest D → SX X es os F0 (st :: rest) D) : SX X es os F0 (st :: rest) D := kk h
theorem sx_end (h : ∀ F σ H, Same F0 F → Ow F os H → D.nx σ H) : SX X es os F0 [] D := sx_nil fun σ H a => let ⟨F, s, o, _⟩ := a; h F σ H s o
theorem fam_mg {f : Str} {v : Option Value} (h : Fam X scope X') (e : X.mg f = v) : X'.mg f = v := by
  obtain ⟨_, _, _, _, _, rfl⟩ := h
  exact e
theorem fam_cal {f : Str} {s : Stmt} {ps : List Str} {sp : PySem.W.Frag → Sp} {m : Nat} (h : Fam X scope X') (c : Cal X.prog X.w X.K X.mg X.base m f s ps (sp X.K)) : Cal X'.prog X'.w X'.K X'.mg X'.base m f s ps (sp X'.K) := by
  obtain ⟨_, _, _, _, _, rfl⟩ := h
  exact c
/-- a stored comprehension -/
theorem sw_ok {elt : Expr} {gs : List Comprehension} {l : Nat} {py : Pos} {env : Env} (hk : (match env.scope.kind with | .function => true | _ => false) = true) (hy : env.scope.names.lookup y = some .local) (hl : (py.line == pos.line) = true)
    (ha : (scope.names.any fun q => q.1 == y && (q.2 == .local || q.2 == .cell)) = false) : swapsWith (.ListComp elt gs scope pos) (some (.Name y py)) l env = pure true := by
  refine sw_true ?_ hy hl ha
  split at hk
  · assumption
  · cases hk
def RdX (X : Cx) (φ : VP) (os : Os) (d : PyData) : Prop := d.hasDict = false → ∀ F H v, Ow F os H → Cl φ F v → Dp X.K H v d
theorem rdx_dat {d : PyData} : RdX X (dat d) os d := fun z F H v ow c => dq_dp _ _ _ z (dq_mono ow.ex _ _ c.now)
theorem rdx_own {q : Addr} {ds : List PyData} (m : Nat) (h : os[m]? = some (q, ol ds)) : RdX X (own q) os (.list ds) := fun z F H v ow c => by
  obtain ⟨_, vs, ho, hv⟩ := (ow.perm (perm_at h)).atL
  obtain rfl : v = .ref q := c.now
  exact .lst (.of ho) (dqall_dp _ _ _ (by simpa [PyData.hasDict] using z) (dqall_mono ow.ex _ _ hv))
theorem r2_eqR {d d' : PyData} {t : Bool} (r1 : RdX X φ os d) (r2 : RdX X ψ os d') (h1 : SeqAt.shaped d = true) (h2 : SeqAt.shaped d' = true) (hk : PyData.eqv d d' = t) : R2X X (rEqD X.K) φ ψ os (dat (.bool t)) := fun F H x y Q ow cx cy q =>
  ⟨d, d', r1 (shaped_lay h1) F H x ow cx, r2 (shaped_lay h2) F H y ow cy, h1, h2, by rw [hk]; exact q F H _ (Same.refl F) ow (cl_dat (.bl _))⟩
theorem r2_neR {d d' : PyData} {t : Bool} (r1 : RdX X φ os d) (r2 : RdX X ψ os d') (h1 : SeqAt.shaped d = true) (h2 : SeqAt.shaped d' = true) (hk : (!PyData.eqv d d') = t) : R2X X (rNeD X.K) φ ψ os (dat (.bool t)) := fun F H x y Q ow cx cy q =>
  ⟨d, d', r1 (shaped_lay h1) F H x ow cx, r2 (shaped_lay h2) F H y ow cy, h1, h2, by rw [hk]; exact q F H _ (Same.refl F) ow (cl_dat (.bl _))⟩
section
variable [DecidableEq α] {e : α → PyData} {m : Nat} {x y : α}
theorem ex_neR (B : Bd X N W G k) (h : EqvOk e) (s : ShOk e m) (hn : m ≤ 64) (r1 : RdX X φ os2 (e x)) (r2 : RdX X ψ os2 (e y)) (ha : EX X es os a φ os1) (hb : EX X es os1 b ψ os2) : EX X es os (.Compare a [.NotEq] [b] pos) (dat (.bool (!decide (x = y)))) os2 :=
  ex_cmp (op_neD B.room.units) (r2_neR r1 r2 (s.shaped hn x) (s.shaped hn y) (by rw [h x y])) (nomark _) ha hb
theorem tx_eqR (B : Bd X N W G k) (h : EqvOk e) (s : ShOk e m) (hn : m ≤ 64) (r1 : RdX X φ os2 (e x)) (r2 : RdX X ψ os2 (e y)) (ha : EX X es os a φ os1) (hb : EX X es os1 b ψ os2) : TX X es os (.Compare a [.Eq] [b] pos) (decide (x = y)) os2 :=
  tx_cmp (op_eqD B.room.units) (r2_eqR r1 r2 (s.shaped hn x) (s.shaped hn y) (h x y)) (nomark _) ha hb
theorem tx_neR (B : Bd X N W G k) (h : EqvOk e) (s : ShOk e m) (hn : m ≤ 64) (r1 : RdX X φ os2 (e x)) (r2 : RdX X ψ os2 (e y)) (ha : EX X es os a φ os1) (hb : EX X es os1 b ψ os2) : TX X es os (.Compare a [.NotEq] [b] pos) (!decide (x = y)) os2 :=
  tx_cmp (op_neD B.room.units) (r2_neR r1 r2 (s.shaped hn x) (s.shaped hn y) (by rw [h x y])) (nomark _) ha hb
end
theorem r2_notB {s t : Bool} : R2X X rNotB (dat (.bool s)) (dat (.bool t)) os (dat (.bool (!decide (s = t)))) := fun F H x y Q ow cx cy q =>
  ⟨s, t, clv_bool cx, clv_bool cy, q F H _ (Same.refl F) ow (cl_dat (.bl _))⟩
def rgO (a b : Int) : Option (List Int) := if -(2 ^ 62) ≤ a ∧ a < 2 ^ 62 ∧ -(2 ^ 62) ≤ b ∧ b < 2 ^ 62 ∧ (b - a).toNat ≤ 2 ^ 24 then some (range' a b) else none
theorem rgV_map (a b : Int) : rgV a b = (range' a b).map L2.V.int := by
  unfold rgV range'
  rw [List.map_map]
  rfl
theorem en_rgL1 {b : Int} {xs : List Int} (B : Bd X N W G k) (hj : G[gi]? = some "list") (hj2 : G[gj]? = some "range") (hm : X.mg "list" = none) (hm2 : X.mg "range" = none) (hr : rgO 0 b = some xs) (ha : EX X es os e (dat (.int b)) os1) {p2 pos2 : Pos}
    (na : starEach [(.Call (.Name "range" p2) [e] [] pos2)] X.env = (false, eval (.Call (.Name "range" p2) [e] [] pos2) X.env) :: starEach [] X.env := by rfl) (nb : starEach [e] X.env = (false, eval e X.env) :: starEach [] X.env := by rfl) :
    EN X es os (.Call (.Name "list" p) [.Call (.Name "range" p2) [e] [] pos2] [] pos) (ol (xs.map PyData.int)) os1 := fun F σ H Q ow sl q => by
  unfold rgO at hr
  split at hr
  · rename_i hl
    cases hr
    refine we_of (pe_listRg B.calm (B.gl _ (List.mem_of_getElem? hj)).1 hm (prg_1 (B.gl _ (List.mem_of_getElem? hj2)).1 hm2 pe_u nb) na) (ha F σ H _ ow sl fun F1 H1 v e1 o1 c1 => ⟨b, clv_int c1, hl, fun r hr => ?_⟩)
    rw [rgV_map]
    exact q F1 _ r e1 (o1.new hr fun G g => ⟨_, rfl, dqall_ints _⟩)
  · cases hr
theorem en_rgL2 {lo b : Int} {xs : List Int} (B : Bd X N W G k) (hj : G[gi]? = some "list") (hj2 : G[gj]? = some "range") (hm : X.mg "list" = none) (hm2 : X.mg "range" = none) (hr : rgO lo b = some xs) (ha : EX X es os e (dat (.int lo)) os1) (hb : EX X es os1 e2 (dat (.int b)) os2) {p2 pos2 : Pos}
    (na : starEach [(.Call (.Name "range" p2) [e, e2] [] pos2)] X.env = (false, eval (.Call (.Name "range" p2) [e, e2] [] pos2) X.env) :: starEach [] X.env := by rfl) (nb : starEach [e, e2] X.env = (false, eval e X.env) :: starEach [e2] X.env := by rfl) (nc : starEach [e2] X.env = (false, eval e2 X.env) :: starEach [] X.env := by rfl)
    (hpp : (backTo pos2 (starEach [e2] X.env)).any (·.1) = false := by rfl) : EN X es os (.Call (.Name "list" p) [.Call (.Name "range" p2) [e, e2] [] pos2] [] pos) (ol (xs.map PyData.int)) os2 := fun F σ H Q ow sl q => by
  unfold rgO at hr
  split at hr
  · rename_i hl
    cases hr
    refine we_of (pe_listRg B.calm (B.gl _ (List.mem_of_getElem? hj)).1 hm (prg_2 (B.gl _ (List.mem_of_getElem? hj2)).1 hm2 pe_u pe_u nb nc hpp) na) (ha F σ H _ ow sl fun F1 H1 v e1 o1 c1 => hb F1 σ H1 _ o1 (sl.mono e1) fun F2 H2 u e2 o2 c2 => ⟨lo, b, clv_int c1, clv_int c2, hl, fun r hr => ?_⟩)
    rw [rgV_map]
    exact q F2 _ r (e1.trans e2) (o2.new hr fun G g => ⟨_, rfl, dqall_ints _⟩)
  · cases hr
section
variable {S : Type} {elt iter : Expr} {ifs : List Expr} {xs : List α} {vp : α → VP} {enc : β → PyData} {s0 : S} {os0 : Os} {ys : List β} {sf : S} {tpos : Pos} {cc : Os → Prop}
theorem lc_mk1 {c : Os → Prop} (f : S → α → Option (Option β × S)) (OS : S → Os → Os) (s0 : S) (ys : List β) (sf : S) (B : Bd X N W G k) (hj : N[j]? = some x) (hun : (es[j]? = some un)) (hblk : blkC X.N X.env.scope scope [(x, j)] = true) (hown : ownB scope X.env.scope x = true) (hif : ifs.length ≤ 1)
    (hl : xs.length < sizeLine ∧ lcS f xs s0 = some (ys, sf)) (hi : IX X (.Name x tpos) es os iter xs vp c (OS s0 os0)) (hc : ∀ s tl, c (OS s tl)) (hperm : ∀ s q tl, (OS s (q :: tl)).Perm (q :: OS s tl))
    (hb : ∀ s x t tl, x ∈ xs → f s x = some t → ∃ b os1, ∀ X', Fam X scope X' → PTX X' (es.set j (sl (vp x))) (OS s tl) ifs b os1 ∧ (b = true → ∃ y, t.1 = some y ∧ EX X' (es.set j (sl (vp x))) os1 elt (dat (enc y)) (OS t.2 tl)) ∧ (b = false → t.1 = none ∧ os1 = OS t.2 tl)) :
    LcOk X es os (.Name x tpos) iter elt ifs scope [(x, j)] xs vp c (gName j) (fun x es => es.set j (sl (vp x))) enc f OS s0 os0 ys sf where
  calm := B.calm
  nd := B.hN ▸ B.nd
  ok := blkOk_by hblk
  pg := fun X' hX => pg_own hX B hj hown
  hv := fun m hm => by
    have e : m = j := by simpa using hm
    rw [e]
    exact hun
  hid := lc_id1
  hg := fun x F σ H v Q os2 sl hw ow c q => lc_gname x F σ H v Q os2 sl hw ow c q
  hif := hif
  hl := hl.2
  hz := hl.1
  hi := hi
  hc := hc
  hperm := hperm
  hb := hb
end
end
end Z
namespace Z
open PySem PySem.Spec PyProof.Rows L2
theorem elimL {α β γ : Type} {f : α → Option γ} {g : β → Option γ} {x : α} {c : Option γ} (h : Sum.elim f g (.inl x) = c) : f x = c := h
theorem elimR {α β γ : Type} {f : α → Option γ} {g : β → Option γ} {x : β} {c : Option γ} (h : Sum.elim f g (.inr x) = c) : g x = c := h
theorem len_ok {ds : List PyData} {n : Nat} (h : ds.length = n) (h2 : n ≤ sizeLine := by decide +kernel) : ds.length ≤ sizeLine := h ▸ h2
section
variable {X : Cx} {os : Os}
def noneB : PyData → Bool
  | .none => true
  | _ => false
theorem dq_none {F : Hp} : ∀ {v : L2.V} {d : PyData}, Dq F v d → decide (v = .non) = noneB d
  | _, _, .non => rfl
  | _, _, .bl _ => by simp [noneB]
  | _, _, .int _ => by simp [noneB]
  | _, _, .str _ => by simp [noneB]
  | _, _, .lst _ _ => by simp [noneB]
  | _, _, .tup _ _ => by simp [noneB]
  | _, _, .dctK _ _ _ => by simp [noneB]
  | _, _, .dctT _ _ _ => by simp [noneB]
theorem r2_isN {d : PyData} {t : Bool} (h : noneB d = t) : R2X X (fun x y H Q => y = .non ∧ Q (.bl (decide (x = .non))) H) (dat d) (dat .none) os (dat (.bool t)) := fun F H x y Q ow cx cy q =>
  ⟨by have := cy.now; cases this; rfl, by rw [dq_none cx.now, h]; exact q F H _ (Same.refl F) ow (cl_dat (.bl _))⟩
end
theorem Ow.suf {F H : Hp} {rest : Os} : ∀ {l : Os}, Ow F (l ++ rest) H → Ow F rest H
  | [], h => h
  | _ :: l, h => Ow.suf (l := l) h.drop
section
variable {X : Cx} {es : List Slot} {os os1 rest : Os} {N V G : List Str} {k j : Nat} {x : Str} {p pos : Pos} {e : Expr} {st : Stmt} {pn : List Str} {α β : Type} {ps : α → List VP} {pre : α → Os} {m : α → Option β} {res : α → β → VP} {post : α → β → Os} {n : Ent} {gi : Nat} {φ : VP}
/-- a call whose one argument is a list made for it -/
theorem ex_calln {a : Addr → α} {b : β} (B : Bd X N V G k) (hj : G[gi]? = some x) (c : Cal X.prog X.w X.K X.mg X.base j x st pn (spZ ps pre m res post)) (hl : j ≤ k) (hm : ∀ q, m (a q) = some b) (ha : EN X es os e n rest)
    (hps : ∀ q, ps (a q) = [own q]) (hpre : ∀ q, pre (a q) = [(q, n)]) (hres : ∀ q, res (a q) b = φ)
    (he : starEach [e] X.env = (false, eval e X.env) :: starEach [] X.env := by rfl) (hpl : (backTo pos (starEach [] X.env)).any (·.1) = false := by rfl) : EX X es os (.Call (.Name x p) [e] [] pos) φ rest := fun F σ H Q ow sl q =>
  let ⟨u, v⟩ := B.gl x (List.mem_of_getElem? hj)
  we_of (pe_g (c.mono hl) B.gd B.room u (pa_cons (hs := he) pe_u pa_nil) (dun_d v) he hpl) (ha F σ H _ ow sl fun F1 H1 r e1 o1 => ⟨a r, b, F1, rest, by rw [hps]; exact ⟨_, [], rfl, cl_own, rfl⟩, by rw [hpre]; exact o1, hm r, fun F2 H2 v e2 o2 c2 => q F2 H2 v (e1.trans e2) o2.suf (hres r ▸ c2)⟩)
end
end Z
namespace Z
open PySem PySem.Spec PyProof.Rows L2 HT
def mapG {α β : Type} (f : α → Option (Option β)) : List α → Option (List β)
  | [] => some []
  | x :: xs => (f x).bind fun y => (mapG f xs).bind fun ys => some (y.toList ++ ys)
def lcG {α β : Type} (f : α → Option (Option β)) (xs : List α) : Option (List β) := if xs.length < sizeLine then mapG f xs else none
theorem lcS_mapG {α β : Type} (f : α → Option (Option β)) : ∀ (xs : List α) (ys : List β), mapG f xs = some ys → lcS (fun (_ : Unit) x => (f x).map fun y => (y, ())) xs () = some (ys, ())
  | [], ys, h => by
    cases h
    rfl
  | x :: xs, ys, h => by
    unfold mapG at h
    obtain ⟨y, h1, h2⟩ := bnd h
    obtain ⟨zs, h3, h4⟩ := bnd h2
    obtain rfl := som h4
    unfold lcS
    rw [h1]
    show ((lcS _ xs ()).bind fun u => some (y.toList ++ u.1, u.2)) = _
    rw [lcS_mapG f xs zs h3]
    rfl
theorem lcG_ok {α β : Type} {f : α → Option (Option β)} {xs : List α} {ys : List β} (h : lcG f xs = some ys) : xs.length < sizeLine ∧ lcS (fun (_ : Unit) x => (f x).map fun y => (y, ())) xs () = some (ys, ()) := by
  unfold lcG at h
  split at h
  · rename_i hl
    exact ⟨hl, lcS_mapG f xs ys h⟩
  · cases h
end Z
set_option maxHeartbeats 4000000
namespace Z
open PySem PySem.Spec PyProof.Rows L2
end Z
namespace Z
open PySem PySem.Spec PyProof.Rows L2
section
variable {X : Cx} {os : Os}
theorem rc_len2 {d1 d2 : PyData} : RCX (fun xs H Q => ∃ p ys, xs = [L2.V.ref p] ∧ (SqL X.K H p ys ∨ SqT X.K H p ys) ∧ Q (.int ys.length) H) [dat (.tuple [d1, d2])] os (dat (.int 2)) os := rc_lenT (ds := [d1, d2]) rdt_dat
end
end Z
namespace Z
open PySem PySem.Spec PyProof.Rows L2
theorem new_enum1 {v : Value} {o : Obj} {H : Heap → Prop} (B : Begins v o H) :
    Meets (Builtin.«enumerate.__new__» ⟨[.type "enumerate", v], []⟩) (fun _ R s => H s.heap ∧
      R (.ok (.ret (.ref (s.heap.push o).objs.size))) { s with heap := (s.heap.push o).push { cls := .type "enumerate", data := .fields #[.none, .bool false, .ref s.heap.objs.size, rawInt 0, .none, .none] } }) :=
  .of_wp fun prog w A R s h => by
    obtain ⟨hp, g, d, tk, os⟩ := s
    obtain ⟨h1, h⟩ := h
    have hsub := sub_enumerate
    have q1 : ∀ {A' : Around} {E : Value → Shared → Prop} {Q : Value → Shared → Prop}, Q (.ref hp.objs.size) ⟨hp.push o, g, d, tk, os⟩ → wpAny (model prog w) A' (pyIter v) Q E ⟨hp, g, d, tk, os⟩ := fun q => B.iter prog w _ _ ⟨hp, g, d, tk, os⟩ _ h1 q
    wp_walk using q1
    refine wpAny_stack_any fun st => wpAny_pure ?_
    split
    · rename_i c _ _ _ _ _
      cases (c == Value.type "enumerate") <;> (wp_walk using q1; exact ⟨_, rfl, h⟩)
    · wp_walk using q1
      exact ⟨_, rfl, h⟩
theorem enum_begins1 {prog : Program} {w : World} {A : Around} {E : Value → Shared → Prop} {s : Shared} {v : Value} {o : Obj} {H : Heap → Prop} {Q : Value → Shared → Prop} (B : Begins v o H) (h1 : H s.heap)
    (h : ∀ g, IsEnum g (s.heap.objs.size + 1) s.heap.objs.size 0 .none → g.get? s.heap.objs.size = some o → (∀ b u, s.heap.get? b = some u → g.get? b = some u) → Q (.ref (s.heap.objs.size + 1)) { s with heap := g }) :
    wpAny (model prog w) A (call (.type "enumerate") [v]) Q E s := by
  refine callType_new F.called_enumerate (by decide) (F.typeCall_enumerate_1 _) (F.newCall_enumerate_1 _) (fun obj => F.args_object_init_2 obj _) F.entry_enumerate_new (new_enum1 B) ⟨h1, ?_⟩
  have hz : (s.heap.push o).objs.size = s.heap.objs.size + 1 := Heap.size_push ..
  show _ ∧ _
  rw [hz]
  have he : IsEnum ((s.heap.push o).push { cls := .type "enumerate", data := .fields #[.none, .bool false, .ref s.heap.objs.size, rawInt 0, .none, .none] }) (s.heap.objs.size + 1) s.heap.objs.size 0 .none := by
    have q := Heap.get?_push_size (s.heap.push o) (o := { cls := .type "enumerate", data := .fields #[.none, .bool false, .ref s.heap.objs.size, rawInt 0, .none, .none] }) rfl
    rw [hz] at q
    exact q
  exact ⟨⟨_, he, rfl⟩, h _ he (Heap.get?_push_of_some _ (Heap.get?_push_size _ B.free)) fun b u x => Heap.get?_push_of_some _ (Heap.get?_push_of_some _ x)⟩
/-- the items of the tuple at a, each in a new pair -/
def IteT (K : PySem.W.Frag) (a : Addr) : It :=
  ⟨fun i H => ∃ (xs : List L2.V) (x : L2.V), SqT K H a xs ∧ xs[i]? = some x, fun i H v H' => ∃ T x, v = .ref T ∧ H T = none ∧ H' = upd H T (.tup [.int (i : Nat), x]) ∧ ∀ xs, SqT K H a xs → xs[i]? = some x, fun i H => ∃ xs : List L2.V, SqT K H a xs ∧ xs.length ≤ i⟩
theorem turn_enumT {P : Program} {w : World} {K : PySem.W.Frag} {elts : List Expr} {kk : Nat} {tpos : Pos} (a e it : Addr) :
    Turn P w K (.Tuple elts kk tpos) (IteT K a) [e, it] e (fun i h => (∃ old, IsEnum h e it ((i : Nat) : Int) old) ∧ h.IsTupleIter it a i ∧ e ≠ it ∧ a ≠ e ∧ a ≠ it) where
  mem := by simp
  obj := fun i h st b hb => by
    obtain ⟨⟨old, he⟩, ⟨o, ho, hc, hd⟩, _⟩ := st
    have z : b = e ∨ b = it := by simpa using hb
    rcases z with z | z
    · rw [z]
      exact ⟨_, he, fun v q => nomatch q⟩
    · rw [z]
      exact ⟨o, ho, fun v q => by rw [hd] at q; cases q⟩
  keep := fun i h g st k => by
    obtain ⟨⟨old, he⟩, hi, r⟩ := st
    exact ⟨⟨old, k e (by simp) _ he⟩, hi.at fun o q => k it (by simp) o q, r⟩
  item := by
    intro X hP hw hK hc i pins s σ H E I hf st hg
    subst hP hw hK
    obtain ⟨⟨old, he⟩, hit, hne, hae, hai⟩ := st
    obtain ⟨xs, x, hq, hx⟩ := hg
    obtain ⟨its, rv, p, hz⟩ := I.tuple hq
    obtain ⟨u, hu, ru⟩ := rv.get hx
    have hel : e < s.heap.objs.size := Heap.lt_size he
    have hil : it < s.heap.objs.size := by
      obtain ⟨_, q, _⟩ := hit
      exact Heap.lt_size q
    have D := Draws.tuple (prog := X.prog) (w := X.w) (A := X.A.in1) (I.ok.hd hc) it a hai its.toArray
    have hlt : i < its.toArray.size := by
      have := (List.getElem?_eq_some_iff.mp hu).1
      simpa using this
    refine wpAny_pyNext_enum_itemD D he ⟨hit, p⟩ hlt hne (by simp [hne, Ne.symm hae]) fun x' h' tk hP' ho hst hT hsz hk => ?_
    have ex : x' = u := by
      have q : its.toArray[i]? = some u := by simpa using hu
      exact Option.some.inj (hP'.symm.trans q)
    subst ex
    refine ⟨_, rfl, wpAny_letOwnedTupleGo_enum (s := { s with heap := h', toks := tk + 1 }) ho fun h'' he' sb => ?_⟩
    have hT2 : h''.get? s.heap.objs.size = some { cls := .type "tuple", data := .seq #[.int i tk, x'] } := (sb.2 _ (Nat.ne_of_gt hel)).trans hT
    have new : ObjOk X.prog X.w (upd H s.heap.objs.size (.tup [.int (i : Nat), x])) h'' s.heap.objs.size (.tup [.int (i : Nat), x]) :=
      ⟨by show 2 ≤ sizeLine; decide, [.int i tk, x'], .cons ⟨_, rfl⟩ (.cons ru .nil), ⟨_, hT2, rfl, _, rfl⟩⟩
    have I1 : Inv X pins σ (upd H s.heap.objs.size (.tup [.int (i : Nat), x])) { s with heap := h'', toks := tk + 1 } :=
      I.turnedNew (ch := [e, it]) (fun b ob hb q => (sb.2 b (fun z => hb (by simp [z]))).trans (hk b ob (fun z => hb (by simp [z])) (fun z => hb (by simp [z])) q)) hf (Nat.le_refl _) new
    refine ⟨.ref s.heap.objs.size, _, I1, rfl, ⟨_, x, rfl, I.hok.fresh (Nat.le_refl _), rfl, fun ys hy => by rw [I.tuple_inj hy hq]; exact hx⟩, ⟨⟨x', ?_⟩, hst.1.at fun o q => (sb.2 it (Ne.symm hne)).trans q, hne, hae, hai⟩, fun b hb => ?_⟩
    · have e1 : ((i + 1 : Nat) : Int) = (i : Int) + 1 := by omega
      rw [e1]
      exact he'
    · have hb' : b < s.heap.objs.size := by
        have z : b = e ∨ b = it := by simpa using hb
        rcases z with z | z
        · rw [z]
          exact hel
        · rw [z]
          exact hil
      rw [upd_ne (Nat.ne_of_lt hb')]
      exact (hf b hb).1
  done := by
    intro X hP hw hK hc i pins s σ H E I hf st hg
    subst hP hw hK
    obtain ⟨⟨old, he⟩, hit, hne, hae, hai⟩ := st
    obtain ⟨xs, hq, hx⟩ := hg
    obtain ⟨its, rv, p, hz⟩ := I.tuple hq
    obtain ⟨f0, f1, f2, f3, f4, f5⟩ := hf it (by simp)
    have hl := rv.length
    have hT : s.TypeIs (.ref e) "enumerate" := ⟨_, he, rfl⟩
    unfold pyNext
    refine wpAny_bind (wpAny_attempt (wpAny_callSpecial?_slot (name := Str.ofString "__next__") hT F.slot_enumerate_next (wpAny_call_entry F.slot_enumerate_next hT F.entry_enumerate_next ?_ (F.args_enumerate_next_1 _))))
    show wpAny _ _ (field (.ref e) 2 >>= _) _ _ _
    refine wpAny_bind (wpAny_field he rfl (x := .ref it) rfl ?_)
    refine wpAny_bind (wpAny_nextOf_tuple_end (A := X.A.in1) (I.ok.hd hc) hit (show s.heap.IsTuple a its.toArray from p) (by simp; omega) fun h' x he' hx' => ?_)
    obtain ⟨o, ho, hcx⟩ := hx'
    refine wpAny_bind (wpAny_isInstance (T := "StopIteration") (b := true) ⟨o, ho, hcx⟩ isSubtype_stop ?_)
    exact wpAny_pure ⟨rfl, I.turned (t' := s.toks) (fun b o hb q => he' b o hb q) f0 f1 f3 f4 f5⟩
  self := fun A i s Q E st h => by
    obtain ⟨⟨_, he⟩, _⟩ := st
    exact wpAny_pyIter_enum he h
def iEnumT (K : PySem.W.Frag) (ta : TA) : TI := fun σ H R => ta σ H fun vs H1 => ∃ a xs, vs = [.ref a] ∧ SqT K H1 a xs ∧ R (IteT K a) H1
theorem pi_enumT {X : Cx} {e : Expr} {ta : TA} {p pos tpos : Pos} {elts : List Expr} {kk : Nat} (hg : Gl X "enumerate") (hm : X.mg "enumerate" = none) (ha : PA X [e] ta) (hs : starEach [e] X.env = [(false, eval e X.env)] := by rfl) :
    PI X (.Tuple elts kk tpos) (.Call (.Name "enumerate" p) [e] [] pos) (iEnumT X.K ta) := by
  refine ⟨fun pins s σ H R I h => Call_ (ld_blt I hg hm boot_enumerate (PyProof.Rows.callWith_type1 (thn (ha.run pos pins s σ H _ I h) fun us s1 ⟨vs, H1, I1, r1, q1⟩ => ?_) hs rfl))⟩
  obtain ⟨a, xs, rfl, hq, q⟩ := q1
  cases r1 with
  | cons r rr =>
    cases rr
    cases r
    obtain ⟨its, rv, p2, hz⟩ := I1.tuple hq
    have ht : s1.heap.IsTuple a its.toArray := p2
    have hal : a < s1.heap.objs.size := by
      obtain ⟨_, z, _⟩ := ht
      exact Heap.lt_size z
    refine enum_begins1 (begins_tuple a its.toArray) ht fun h' he hit hk => wpAny_pyIter_enum he ?_
    have I2 : Inv X pins σ H1 { s1 with heap := h' } := I1.kept (t' := s1.toks) hk
    refine ⟨s1.heap.objs.size + 1, [s1.heap.objs.size + 1, s1.heap.objs.size], _, _, H1, rfl, I2, turn_enumT a (s1.heap.objs.size + 1) s1.heap.objs.size, ⟨⟨.none, he⟩, ⟨_, hit, rfl, rfl⟩, Nat.succ_ne_self _, Nat.ne_of_lt (Nat.lt_succ_of_lt hal), Nat.ne_of_lt hal⟩, fun b hb => ?_, q⟩
    have z : b = s1.heap.objs.size + 1 ∨ b = s1.heap.objs.size := by simpa using hb
    have hle : s1.heap.objs.size ≤ b := by
      rcases z with z | z
      · rw [z]
        exact Nat.le_succ _
      · rw [z]
        exact Nat.le_refl _
    exact I1.fpOk hle (I1.hok.fresh hle)
section
variable {X : Cx} {es : List Slot} {os os1 os2 os3 : Os} {N V G W : List Str} {k i vi gi j : Nat} {x : Str} {p pos : Pos} {e e2 e3 a : Expr} {φ : VP} {n : Ent} {α : Type}
theorem ix_enumT {elts : List Expr} {kk : Nat} {tpos : Pos} {xs : List α} {enc : α → PyData} (B : Bd X N W G k) (hj : G[gi]? = some "enumerate") (hm : X.mg "enumerate" = none) (he : EX X es os e φ os1) (hr : RdT φ (xs.map enc)) (hs : starEach [e] X.env = [(false, eval e X.env)] := by rfl) :
    IX X (.Tuple elts kk tpos) es os (.Call (.Name "enumerate" p) [e] [] pos) (enum xs) (fun x => dat (.tuple [.int x.1, enc x.2])) anyOs os1 := fun F σ H R ow sl q =>
  wi_of (pi_enumT (B.gl _ (List.mem_of_getElem? hj)).1 hm pa_u hs) (wa_of (pa_cons pe_u pa_nil hs) (he F σ H _ ow sl fun F1 H1 v e1 o1 c1 => by
    obtain ⟨a, vs, rfl, h1, h2⟩ := hr F1 v c1
    refine ⟨a, vs, rfl, .of (o1.ex _ _ h1), q F1 H1 _ e1 o1 fun F2 H2 os2 i s ow2 k2 => ?_⟩
    have g1 := s _ _ h1
    have g2 := dqall_mono s _ _ h2
    have hl := dqall_len g2
    rw [List.length_map] at hl
    have hT : SqT X.K H2 a vs := .of (ow2.ex _ _ g1)
    refine ⟨fun h => ⟨vs, hT, by rw [enum_len] at h; omega⟩, fun x hx => ?_⟩
    obtain ⟨hz1, hz2⟩ := zipIdx_get hx
    obtain ⟨u, hu, hd⟩ := dqall_map g2 hz2
    refine ⟨⟨vs, u, hT, hu⟩, fun w H3 y => ?_⟩
    obtain ⟨T, w2, rfl, hTn, rfl, hy⟩ := y
    have ew : vs[i]? = some w2 := hy vs hT
    rw [hu] at ew
    cases ew
    have fT := ow2.ex.free hTn
    refine ⟨_, same_upd fT, ow2.frozen hTn, cl_dat (.tup upd_same ?_)⟩
    rw [hz1]
    exact .cons (.int _) (.cons (dq_mono (same_upd fT) _ _ hd) .nil)))
end
end Z
namespace Z
open PySem PySem.Spec PyProof.Rows L2
end Z
namespace Z
open PySem PySem.Spec PyProof.Rows L2
inductive Lk (Q : Hp → Prop) : Hp → Prop
  | now {H : Hp} : Q H → Lk Q H
  | lock {H : Hp} (d : Addr) (u : HO) : H d = some u → Mut (some u) → (∀ od, Lk Q (upd H d (.frz od u))) → Lk Q H
theorem Lk.bind {Q R : Hp → Prop} {H : Hp} (h : Lk Q H) (k : ∀ H, Q H → Lk R H) : Lk R H := by
  induction h with
  | now q => exact k _ q
  | lock d u a b _ ih => exact .lock d u a b ih
theorem Lk.inv {X : Cx} {pins : List (Addr × Obj)} {σ : L2.St} {s : Shared} {Q : Hp → Prop} {H : Hp} (h : Lk Q H) : Inv X pins σ H s → ∃ H', Inv X pins σ H' s ∧ Q H' := by
  induction h with
  | now q => exact fun I => ⟨_, I, q⟩
  | lock d u a b _ ih =>
    intro I
    obtain ⟨od, I1⟩ := I.lock a b
    exact ih od I1
theorem we_lk {X : Cx} {e : Expr} {σ : L2.St} {H : Hp} {Q : VK} (h : WE X e σ H fun v H' => Lk (Q v) H') : WE X e σ H Q := fun pins s I =>
  wpAny_mono (h pins s I) (fun u s1 ⟨v, H1, I1, r, k⟩ => let ⟨H2, I2, q⟩ := k.inv I1; ⟨v, H2, I2, r, q⟩) fun _ _ z => z
/-- what is owned as e may be given away, as the data d -/
def Frb (e : Ent) (d : PyData) : Prop := ∀ p F os H (Q : Hp → Prop), Ow F ((p, e) :: os) H → (∀ F' H', Same F F' → Ow F' os H' → Dq F' (.ref p) d → Q H') → Lk Q H
theorem frb_ol {ds : List PyData} : Frb (ol ds) (.list ds) := fun p F os H Q ow q => by
  obtain ⟨o, ho, ⟨vs, rfl, hv⟩, s, o2⟩ := ow.freezeU uni_ol
  exact .now (q _ H s o2 (.lst upd_same (dqall_mono s _ _ hv)))
section
variable {κ β : Type} [DecidableEq κ]
def dGet (d : List (κ × β)) (k : κ) : Option β := (d.find? fun kv => decide (kv.1 = k)).map (·.2)
def dPut (d : List (κ × β)) (k : κ) (v : β) : List (κ × β) :=
  if (d.any fun kv => decide (kv.1 = k)) = true then d.map (fun kv => if kv.1 = k then (kv.1, v) else kv) else d ++ [(k, v)]
def dDel (d : List (κ × β)) (k : κ) : List (κ × β) := d.filter fun kv => decide (kv.1 ≠ k)
/-- a store in bounds -/
def dPutO (d : List (κ × β)) (k : κ) (v : β) : Option (List (κ × β)) := if d.length < sizeLine then some (dPut d k v) else none
/-- d.pop(k) -/
def dPopO (d : List (κ × β)) (k : κ) : Option (β × List (κ × β)) := (dGet d k).map fun v => (v, dDel d k)
end
theorem dGet_map {κ β γ : Type} [DecidableEq κ] (f : β → γ) (k : κ) : ∀ d : List (κ × β), dGet (d.map fun p => (p.1, f p.2)) k = (dGet d k).map f
  | [] => rfl
  | (a, b) :: d => by
    have ih := dGet_map f k d
    unfold dGet at ih ⊢
    rw [List.map_cons, List.find?_cons, List.find?_cons]
    by_cases h : a = k
    · simp [h]
    · simp only [h, decide_false]
      exact ih
theorem dPut_map {κ β γ : Type} [DecidableEq κ] (f : β → γ) (k : κ) (v : β) (d : List (κ × β)) : dPut (d.map fun p => (p.1, f p.2)) k (f v) = (dPut d k v).map fun p => (p.1, f p.2) := by
  unfold dPut
  rw [List.any_map]
  have e : ((fun kv : κ × γ => decide (kv.1 = k)) ∘ fun p : κ × β => (p.1, f p.2)) = fun kv => decide (kv.1 = k) := rfl
  rw [e]
  split
  · rw [List.map_map, List.map_map]
    congr 1
    funext p
    show (if p.1 = k then (p.1, f v) else (p.1, f p.2)) = _
    by_cases h : p.1 = k
    · simp [h]
    · simp [h]
  · simp
/-- the keys renamed one to one -/
theorem dGet_key {κ κ' β : Type} [DecidableEq κ] [DecidableEq κ'] {f : κ → κ'} (hf : ∀ a b, f a = f b → a = b) (k : κ) : ∀ d : List (κ × β), dGet (d.map fun p => (f p.1, p.2)) (f k) = dGet d k
  | [] => rfl
  | (a, b) :: d => by
    have ih := dGet_key hf k d
    unfold dGet at ih ⊢
    rw [List.map_cons, List.find?_cons, List.find?_cons]
    by_cases h : a = k
    · simp [h]
    · have h2 : ¬ f a = f k := fun z => h (hf _ _ z)
      simp only [h, h2, decide_false]
      exact ih
theorem dPut_key {κ κ' β : Type} [DecidableEq κ] [DecidableEq κ'] {f : κ → κ'} (hf : ∀ a b, f a = f b → a = b) (k : κ) (v : β) (d : List (κ × β)) : dPut (d.map fun p => (f p.1, p.2)) (f k) v = (dPut d k v).map fun p => (f p.1, p.2) := by
  unfold dPut
  rw [List.any_map]
  have e : ((fun kv : κ' × β => decide (kv.1 = f k)) ∘ fun p : κ × β => (f p.1, p.2)) = fun kv => decide (kv.1 = k) := by
    funext p
    show decide (f p.1 = f k) = decide (p.1 = k)
    exact decide_eq_decide.mpr ⟨hf _ _, fun z => by rw [z]⟩
  rw [e]
  split
  · rw [List.map_map, List.map_map]
    congr 1
    funext p
    show (if f p.1 = f k then (f p.1, v) else (f p.1, p.2)) = _
    by_cases h : p.1 = k
    · simp [h]
    · have h2 : ¬ f p.1 = f k := fun z => h (hf _ _ z)
      simp [h, h2]
  · simp
theorem valV_dGet {κ : Type} [DecidableEq κ] (d : List (κ × L2.V)) (k : κ) : valV d k = dGet d k := rfl
inductive Kd (κ : Type) where
  | fl (f : κ → Key)
  | tu (f : κ → List Key)
section
variable {κ : Type}
def Kd.ek : Kd κ → κ → PyData
  | .fl f, k => kPD (f k)
  | .tu f, k => .tuple ((f k).map kPD)
def Kd.Inj : Kd κ → Prop
  | .fl f => ∀ a b, f a = f b → a = b
  | .tu f => ∀ a b, f a = f b → a = b
def Kd.ho : Kd κ → List (κ × L2.V) → HO
  | .fl f, kvs => .dK (kvs.map fun p => (f p.1, p.2))
  | .tu f, kvs => .dT (kvs.map fun p => (f p.1, p.2))
def Kd.pd (kd : Kd κ) (ps : List (κ × PyData)) : PyData := match kd with
  | .fl f => .dict (ps.map fun p => (kPD (f p.1), p.2))
  | .tu f => .dict ((.none, .none) :: ps.map fun p => (PyData.tuple ((f p.1).map kPD), p.2))
theorem Kd.ntup (kd : Kd κ) (kvs : List (κ × L2.V)) : ∀ xs, kd.ho kvs ≠ .tup xs := by cases kd <;> intro _ z <;> cases z
theorem Kd.mut (kd : Kd κ) (kvs : List (κ × L2.V)) : Mut (some (kd.ho kvs)) := by cases kd <;> trivial
end
abbrev kI : Kd Int := .fl Sum.inl
abbrev kII : Kd (Int × Int) := .tu fun p => [Sum.inl p.1, Sum.inl p.2]
theorem inj_kII : kII.Inj := fun a b h => by
  injection h with h1 h2
  injection h2 with h2 _
  exact Prod.ext (Sum.inl.inj h1) (Sum.inl.inj h2)
section
variable {κ : Type}
inductive DV (F : Hp) : List (κ × L2.V) → List (κ × PyData) → Prop
  | nil : DV F [] []
  | cons {k : κ} {v : L2.V} {d : PyData} {kvs : List (κ × L2.V)} {ds : List (κ × PyData)} : Dq F v d → DV F kvs ds → DV F ((k, v) :: kvs) ((k, d) :: ds)
theorem dv_mono {F F' : Hp} (e : Same F F') : ∀ {kvs : List (κ × L2.V)} {ds : List (κ × PyData)}, DV F kvs ds → DV F' kvs ds
  | _, _, .nil => .nil
  | _, _, .cons h1 h2 => .cons (dq_mono e _ _ h1) (dv_mono e h2)
theorem dv_len {F : Hp} : ∀ {kvs : List (κ × L2.V)} {ds : List (κ × PyData)}, DV F kvs ds → kvs.length = ds.length
  | _, _, .nil => rfl
  | _, _, .cons h1 h2 => by rw [List.length_cons, List.length_cons, dv_len h2]
theorem dv_app {F : Hp} : ∀ {kvs us : List (κ × L2.V)} {ds es : List (κ × PyData)}, DV F kvs ds → DV F us es → DV F (kvs ++ us) (ds ++ es)
  | _, _, _, _, .nil, h => h
  | _, _, _, _, .cons h1 h2, h => .cons h1 (dv_app h2 h)
theorem dv_keys {F : Hp} : ∀ {kvs : List (κ × L2.V)} {ds : List (κ × PyData)}, DV F kvs ds → kvs.map (·.1) = ds.map (·.1)
  | _, _, .nil => rfl
  | _, _, .cons h1 h2 => by rw [List.map_cons, List.map_cons, dv_keys h2]
theorem dv_vals {F : Hp} : ∀ {kvs : List (κ × L2.V)} {ds : List (κ × PyData)}, DV F kvs ds → DqAll F (kvs.map (·.2)) (ds.map (·.2))
  | _, _, .nil => .nil
  | _, _, .cons h1 h2 => .cons h1 (dv_vals h2)
variable [DecidableEq κ]
theorem dv_get {F : Hp} (k : κ) : ∀ {kvs : List (κ × L2.V)} {ds : List (κ × PyData)}, DV F kvs ds → (∀ d, dGet ds k = some d → ∃ v, dGet kvs k = some v ∧ Dq F v d) ∧ (dGet ds k = none → dGet kvs k = none)
  | _, _, .nil => ⟨fun d h => (nomatch h), fun _ => rfl⟩
  | _, _, .cons (k := j) h1 h2 => by
    have ih := dv_get k h2
    unfold dGet at ih ⊢
    rw [List.find?_cons, List.find?_cons]
    by_cases e : j = k
    · simp only [e, decide_true]
      exact ⟨fun d h => by cases h; exact ⟨_, rfl, h1⟩, fun h => nomatch h⟩
    · simp only [e, decide_false]
      exact ih
theorem dv_any {F : Hp} (k : κ) : ∀ {kvs : List (κ × L2.V)} {ds : List (κ × PyData)}, DV F kvs ds → (kvs.any fun kv => decide (kv.1 = k)) = ds.any fun kv => decide (kv.1 = k)
  | _, _, .nil => rfl
  | _, _, .cons (k := j) h1 h2 => by
    rw [List.any_cons, List.any_cons, dv_any k h2]
theorem dv_rep {F : Hp} (k : κ) {v : L2.V} {d : PyData} (hd : Dq F v d) : ∀ {kvs : List (κ × L2.V)} {ds : List (κ × PyData)}, DV F kvs ds → DV F (kvs.map fun kv => if kv.1 = k then (kv.1, v) else kv) (ds.map fun kv => if kv.1 = k then (kv.1, d) else kv)
  | _, _, .nil => .nil
  | _, _, .cons (k := j) h1 h2 => by
    rw [List.map_cons, List.map_cons]
    by_cases e : j = k
    · simp only [e, if_true]
      exact .cons hd (dv_rep k hd h2)
    · simp only [e, if_false]
      exact .cons h1 (dv_rep k hd h2)
theorem dv_put {F : Hp} (k : κ) {v : L2.V} {d : PyData} (hd : Dq F v d) {kvs : List (κ × L2.V)} {ds : List (κ × PyData)} (h : DV F kvs ds) : DV F (dPut kvs k v) (dPut ds k d) := by
  unfold dPut
  rw [dv_any k h]
  split
  · exact dv_rep k hd h
  · exact dv_app h (.cons hd .nil)
end
section
variable {κ : Type}
def od (kd : Kd κ) (d : List (κ × PyData)) : Ent := fun p F h => ∃ kvs, h = one p (kd.ho kvs) ∧ DV F kvs d
theorem uni_od {kd : Kd κ} {d : List (κ × PyData)} : Uni (od kd d) (fun F o => ∃ kvs, o = kd.ho kvs ∧ DV F kvs d) := fun p F h ⟨kvs, e, x⟩ => ⟨_, e, kvs, rfl, x⟩
theorem od_one {kd : Kd κ} {d : List (κ × PyData)} {p : Addr} {F : Hp} {kvs : List (κ × L2.V)} (h : DV F kvs d) : ∀ F', Same F F' → od kd d p F' (one p (kd.ho kvs)) := fun _ g => ⟨kvs, rfl, dv_mono g h⟩
theorem dq_pd {F : Hp} {kd : Kd κ} {a : Addr} {ob : Obj} {kvs : List (κ × L2.V)} {d : List (κ × PyData)} (h : F a = some (.frz ob (kd.ho kvs))) (k : DV F kvs d) : Dq F (.ref a) (kd.pd d) := by
  have kk := dv_keys k
  have kv := dv_vals k
  cases kd with
  | fl f =>
    refine .dctK h ?_ ?_
    · rw [List.map_map, List.map_map]
      have : (kvs.map (·.1)).map (fun x => kPD (f x)) = (d.map (·.1)).map (fun x => kPD (f x)) := by rw [kk]
      rw [List.map_map, List.map_map] at this
      exact this
    · rw [List.map_map, List.map_map]
      exact kv
  | tu f =>
    refine .dctT h ?_ ?_
    · rw [List.map_map, List.map_map]
      have : (kvs.map (·.1)).map (fun x => PyData.tuple ((f x).map kPD)) = (d.map (·.1)).map (fun x => PyData.tuple ((f x).map kPD)) := by rw [kk]
      rw [List.map_map, List.map_map] at this
      exact this
    · rw [List.map_map, List.map_map]
      exact kv
theorem frb_od {kd : Kd κ} {d : List (κ × PyData)} : Frb (od kd d) (kd.pd d) := fun p F os H Q ow q => by
  obtain ⟨fp, o, ho, _, kvs, rfl, hv⟩ := ow.atU uni_od
  refine .lock p _ ho (kd.mut kvs) fun ob => .now ?_
  have o1 : Ow F ((p, fun q G h => h = one q (.frz ob (kd.ho kvs)) ∧ DV G kvs d) :: os) (upd H p (.frz ob (kd.ho kvs))) := ow.putU uni_od fun G g => ⟨rfl, dv_mono g hv⟩
  obtain ⟨o', ho', ⟨rfl, hv'⟩, s, o2⟩ := o1.freezeU (r := fun G o => o = .frz ob (kd.ho kvs) ∧ DV G kvs d) fun q G h ⟨e, x⟩ => ⟨_, e, rfl, x⟩
  exact q _ _ s o2 (dq_pd upd_same (dv_mono s hv'))
end
end Z
namespace Z
open PySem PySem.Spec PyProof.Rows L2
abbrev eM {κ β : Type} (e : β → PyData) (w : List (κ × β)) : List (κ × PyData) := w.map fun p => (p.1, e p.2)
section
variable {κ β : Type} {kd : Kd κ} {enc : β → PyData}
def KeyV (kd : Kd κ) (k : κ) (F : Hp) (y : L2.V) : Prop := match kd with
  | .fl f => y = kV (f k)
  | .tu f => ∃ b, y = .ref b ∧ F b = some (.tup ((f k).map kV))
theorem dq_key {F : Hp} : ∀ {k : Key} {v : L2.V}, Dq F v (kPD k) → v = kV k
  | .inl _, _, h => by cases h; rfl
  | .inr _, _, h => by cases h; rfl
theorem dqall_keys {F : Hp} : ∀ {ks : List Key} {vs : List L2.V}, DqAll F vs (ks.map kPD) → vs = ks.map kV
  | [], _, h => by cases h; rfl
  | k :: ks, _, h => by
    cases h with
    | cons h1 h2 => rw [dq_key h1, dqall_keys h2, List.map_cons]
theorem key_val {k : κ} {F : Hp} {y : L2.V} (h : Cl (dat (kd.ek k)) F y) : KeyV kd k F y := by
  have q := h.now
  cases kd with
  | fl f => exact dq_key q
  | tu f =>
    have q : Dq F y (.tuple ((f k).map kPD)) := q
    cases q with
    | tup a b => exact ⟨_, rfl, by rw [← dqall_keys b]; exact a⟩
variable [DecidableEq κ]
theorem isD_of {H : Hp} {a : Addr} {kvs : List (κ × L2.V)} (e : Rd H a (kd.ho kvs)) : IsD H a := by
  cases kd with
  | fl f => exact .inl ⟨_, e⟩
  | tu f => exact .inr ⟨_, e⟩
end
theorem Bd.u1 {X : Cx} {N V G : List Str} {n : Nat} (B : Bd X N V G n) : X.A.units + 1 < cLine := by
  have := B.room.units
  omega
section
variable {κ β : Type}
def RdD (kd : Kd κ) (φ : VP) (os : Os) (d : List (κ × PyData)) : Prop := ∀ F H v, Ow F os H → Cl φ F v → ∃ a kvs, v = .ref a ∧ Rd H a (kd.ho kvs) ∧ DV F kvs d
theorem rdd_own {kd : Kd κ} {os : Os} {d : List (κ × PyData)} {p : Addr} (k : Nat) (h : os[k]? = some (p, od kd d)) : RdD kd (own p) os d := fun F H v ow c => by
  obtain ⟨_, o, ho, _, kvs, rfl, hv⟩ := (ow.perm (perm_at h)).atU uni_od
  exact ⟨p, kvs, c.now, .inl ho, hv⟩
/-- at q stands an entry of one thing, of the content d; another content may take its place -/
def WrT {γ : Type} (os : Os) (q : Addr) (f : γ → Ent) (d : γ) (os' : γ → Os) : Prop := ∀ F H (r : Hp → HO → Prop), Uni (f d) r → Ow F os H → F q = none ∧ ∃ o, H q = some o ∧ f d q F (one q o) ∧ r F o ∧
  ∀ o' d', (∀ xs, o' ≠ .tup xs) → (∀ F', Same F F' → f d' q F' (one q o')) → Ow F (os' d') (upd H q o')
theorem wr_flat {γ : Type} {os : Os} {q : Addr} {f : γ → Ent} {d : γ} (j : Nat) (h : os[j]? = some (q, f d)) : WrT os q f d (fun d' => os.set j (q, f d')) := fun F H r u ow => by
  have o1 := ow.perm (perm_at h)
  obtain ⟨a, o, b, c, d⟩ := o1.atU u
  exact ⟨a, o, b, c, d, fun o' e' nt he => (o1.putU u he nt).perm (perm_set h)⟩
abbrev odT (kd : Kd κ) (e : β → PyData) : List (κ × β) → Ent := fun w => od kd (eM e w)
end
section
variable {X : Cx} {es es' : List Slot} {os os1 os2 os3 : Os} {F0 : Hp} {rest : List Stmt} {D : Ends} {N V G W : List Str} {n i vi gi : Nat} {p pos apos cpos : Pos} {e a b c : Expr} {φ : VP} {κ β : Type} [DecidableEq κ] {kd : Kd κ} {enc : β → PyData} {w : List (κ × β)} {k : κ} {x : β}
theorem EN.exF {m : Ent} {d : PyData} (h : EN X es os e m os1) (f : Frb m d) : EX X es os e (dat d) os1 := fun F σ H Q ow sl q =>
  we_lk (h F σ H _ ow sl fun F' H' p e o => f p F' os1 H' _ o fun F2 H2 s o2 dq => q F2 H2 _ (e.trans s) o2 (cl_dat dq))
/-- {} -/
theorem en_dnew : EN X es os (.Dict [] [] pos) (od kd []) os := fun F σ H Q ow sl q => by
  cases kd with
  | fl f => exact we_of pe_dnewK fun p hp => q F _ p (Same.refl F) (ow.new hp (od_one (kd := .fl f) .nil))
  | tu f => exact we_of pe_dnewT fun p hp => q F _ p (Same.refl F) (ow.new hp (od_one (kd := .tu f) .nil))
theorem dput_enc {F : Hp} {kvs : List (κ × L2.V)} {v : L2.V} (dv : DV F kvs (eM enc w)) (hd : Dq F v (enc x)) : DV F (dPut kvs k v) (eM enc (dPut w k x)) := by
  have := dv_put k hd dv
  rw [dPut_map] at this
  exact this
/-- a.setdefault(b, c), keys ints or texts -/
def dSetO (w : List (κ × β)) (k : κ) (x : β) : Option (β × List (κ × β)) := if w.length < sizeLine then some (match dGet w k with
  | some y => (y, w)
  | none => (x, dPut w k x)) else none
end
end Z
namespace Z
open PySem PySem.Spec PyProof.Rows L2
def uniH : List Hp → Hp
  | [] => fun _ => none
  | h :: hs => ov h (uniH hs)
theorem uniH_some : ∀ {l : List Hp} {a : Addr} {o : HO}, uniH l a = some o → ∃ h ∈ l, h a = some o
  | [], _, _, e => nomatch e
  | h :: l, a, o, e => by
    unfold uniH at e
    cases q : h a with
    | some u =>
      rw [ov_some q] at e
      exact ⟨h, List.mem_cons_self, q.trans e⟩
    | none =>
      rw [ov_none q] at e
      obtain ⟨k, hk, e2⟩ := uniH_some e
      exact ⟨k, List.mem_cons_of_mem _ hk, e2⟩
theorem uniH_same : ∀ {l : List Hp} {h : Hp}, l.Pairwise Ap → h ∈ l → Same h (uniH l)
  | [], _, _, m => nomatch m
  | k :: l, h, p, m => by
    obtain ⟨p1, p2⟩ := List.pairwise_cons.mp p
    intro a o e
    unfold uniH
    rcases List.mem_cons.mp m with rfl | m
    · exact ov_some e
    · have : k a = none := (p1 h m).symm a (by rw [e]; simp)
      rw [ov_none this]
      exact uniH_same p2 m a o e
theorem uniH_none {l : List Hp} {a : Addr} (h : ∀ k ∈ l, k a = none) : uniH l a = none := by
  cases e : uniH l a with
  | none => rfl
  | some o =>
    obtain ⟨k, hk, q⟩ := uniH_some e
    rw [h k hk] at q
    cases q
def onl (qs : List Addr) (es : List Ent) : Ent := fun p F h => ∃ hs, h = uniH (one p (.lst (qs.map .ref)) :: hs) ∧ Pcs F (qs.zip es) hs ∧ (one p (.lst (qs.map .ref)) :: hs).Pairwise Ap ∧ (∀ k ∈ hs, NT k) ∧ qs.length = es.length
def orf (qs : List Addr) : Ent := fun p _ h => h = one p (.lst (qs.map .ref))
theorem pcs_app {F : Hp} : ∀ {os os' : Os} {hs hs' : List Hp}, Pcs F os hs → Pcs F os' hs' → Pcs F (os ++ os') (hs ++ hs')
  | _, _, _, _, .nil, h => h
  | _, _, _, _, .cons h1 h2, h => .cons h1 (pcs_app h2 h)
theorem pcs_split {F : Hp} : ∀ {os os' : Os} {l : List Hp}, Pcs F (os ++ os') l → ∃ hs hs', l = hs ++ hs' ∧ Pcs F os hs ∧ Pcs F os' hs'
  | [], os', l, h => ⟨[], l, rfl, .nil, h⟩
  | q :: os, os', _, .cons h1 h2 => by
    obtain ⟨hs, hs', rfl, a, b⟩ := pcs_split h2
    exact ⟨_ :: hs, hs', rfl, .cons h1 a, b⟩
section
variable {F H : Hp} {os : Os} {p : Addr} {qs : List Addr} {es : List Ent}
theorem Ow.opn (h : Ow F ((p, onl qs es) :: os) H) : Ow F ((p, orf qs) :: (qs.zip es ++ os)) H ∧ qs.length = es.length := by
  obtain ⟨l, a, b, c⟩ := h.ps
  cases a with
  | @cons _ _ k r h1 h2 =>
    obtain ⟨hs, rfl, p1, pw, nt, hl⟩ := h1 F (Same.refl F)
    obtain ⟨c1, c2⟩ := List.pairwise_cons.mp c
    obtain ⟨s, x, _⟩ := b _ List.mem_cons_self
    have sub : ∀ g ∈ one p (.lst (qs.map .ref)) :: hs, Same g H ∧ Ap F g := fun g hg =>
      ⟨(uniH_same pw hg).trans s, fun z hz => (uniH_same pw hg).free (x z hz)⟩
    have far : ∀ g ∈ one p (.lst (qs.map .ref)) :: hs, ∀ t ∈ r, Ap g t := fun g hg t ht z hz => by
      refine c1 t ht z ?_
      cases e : g z with
      | none => exact (hz e).elim
      | some o => rw [uniH_same pw hg z o e]; simp
    refine ⟨⟨h.ex, one p (.lst (qs.map .ref)) :: (hs ++ r), .cons (fun _ _ => rfl) (pcs_app p1 h2), fun g hg => ?_, ?_⟩, hl⟩
    · rcases List.mem_cons.mp hg with rfl | hg
      · exact ⟨(sub _ List.mem_cons_self).1, (sub _ List.mem_cons_self).2, nt_one (fun _ z => by cases z)⟩
      · rcases List.mem_append.mp hg with hg | hg
        · exact ⟨(sub g (List.mem_cons_of_mem _ hg)).1, (sub g (List.mem_cons_of_mem _ hg)).2, nt g hg⟩
        · exact b g (List.mem_cons_of_mem _ hg)
    · rw [← List.cons_append]
      exact List.pairwise_append.mpr ⟨pw, c2, fun g hg t ht => far g hg t ht⟩
theorem Ow.cls (h : Ow F ((p, orf qs) :: (qs.zip es ++ os)) H) (hl : qs.length = es.length) : Ow F ((p, onl qs es) :: os) H := by
  obtain ⟨l, a, b, c⟩ := h.ps
  cases a with
  | @cons _ _ k r h1 h2 =>
    obtain rfl : k = one p (.lst (qs.map .ref)) := h1 F (Same.refl F)
    obtain ⟨hs, r', rfl, p1, p2⟩ := pcs_split h2
    rw [← List.cons_append] at c
    obtain ⟨c1, c2, c3⟩ := List.pairwise_append.mp c
    have bb : ∀ g ∈ one p (.lst (qs.map .ref)) :: hs, Same g H ∧ Ap F g ∧ NT g := fun g hg => b g (by
      rcases List.mem_cons.mp hg with rfl | hg
      · exact List.mem_cons_self
      · exact List.mem_cons_of_mem _ (List.mem_append_left _ hg))
    refine ⟨h.ex, uniH (one p (.lst (qs.map .ref)) :: hs) :: r', .cons (fun F' s => ⟨hs, rfl, p1.mono s, c1, fun k hk => (bb k (List.mem_cons_of_mem _ hk)).2.2, hl⟩) p2, fun g hg => ?_, List.pairwise_cons.mpr ⟨fun t ht => ?_, c2⟩⟩
    · rcases List.mem_cons.mp hg with rfl | hg
      · refine ⟨fun z o e => ?_, fun z hz => uniH_none fun k hk => (bb k hk).2.1 z hz, fun z xs e => ?_⟩
        · obtain ⟨k, hk, q⟩ := uniH_some e
          exact (bb k hk).1 z o q
        · obtain ⟨k, hk, q⟩ := uniH_some e
          exact (bb k hk).2.2 z xs q
      · exact b g (List.mem_cons_of_mem _ (List.mem_append_right _ hg))
    · intro z hz
      cases e : uniH (one p (.lst (qs.map .ref)) :: hs) z with
      | none => exact (hz e).elim
      | some o =>
        obtain ⟨k, hk, q⟩ := uniH_some e
        exact c3 k hk t ht z (by rw [q]; simp)
end
def ixD (n : Nat) (z : Int) : Nat := (ixN n z).getD 0
/-- the address at the place z -/
def qa (qs : List Addr) (z : Int) : Addr := qs.getD (ixD qs.length z) 0
def setI {α : Type} (xs : List α) (z : Int) (x : α) : List α := xs.set (ixD xs.length z) x
theorem setI_len {α : Type} (xs : List α) (z : Int) (x : α) : (setI xs z x).length = xs.length := by
  unfold setI
  rw [List.length_set]
theorem idx_at {α : Type} {xs : List α} {z : Int} {x : α} (h : idx xs z = some x) : ixN xs.length z = some (ixD xs.length z) ∧ xs[ixD xs.length z]? = some x := by
  unfold idx atI at h
  unfold ixD
  cases e : ixN xs.length z with
  | none => rw [e] at h; cases h
  | some j =>
    rw [e] at h
    exact ⟨rfl, h⟩
theorem zip_at {α β : Type} : ∀ {qs : List α} {es : List β} {i : Nat} {q : α} {e : β}, qs[i]? = some q → es[i]? = some e → (qs.zip es)[i]? = some (q, e)
  | [], _, _, _, _, h, _ => by simp at h
  | _ :: _, [], _, _, _, _, h => by simp at h
  | a :: qs, b :: es, 0, q, e, h, k => by simp at h k; subst h; subst k; rfl
  | a :: qs, b :: es, i + 1, q, e, h, k => zip_at (i := i) (qs := qs) (es := es) (by simpa using h) (by simpa using k)
theorem zip_set {α β : Type} : ∀ {qs : List α} {es : List β} {i : Nat} {q : α} {e' : β}, qs[i]? = some q → (qs.zip es).set i (q, e') = qs.zip (es.set i e')
  | [], _, _, _, _, h => by simp at h
  | _ :: _, [], _, _, _, _ => by simp
  | a :: qs, b :: es, 0, q, e', h => by simp at h; subst h; rfl
  | a :: qs, b :: es, i + 1, q, e', h => by
    rw [List.zip_cons_cons, List.set_cons_succ, List.set_cons_succ, List.zip_cons_cons, zip_set (by simpa using h)]
theorem getD_at {α : Type} {l : List α} {i : Nat} {d : α} (h : i < l.length) : l[i]? = some (l.getD i d) := by
  rw [List.getD_eq_getElem?_getD, List.getElem?_eq_getElem h]
  rfl
end Z
namespace Z
open PySem PySem.Spec PyProof.Rows L2
end Z
namespace Z
open PySem PySem.Spec PyProof.Rows L2
section
variable {X : Cx} {es : List Slot} {os os0 os1 os2 : Os} {F0 : Hp} {rest : List Stmt} {D : Ends} {N V G W : List Str} {k i j vi gi : Nat} {x y : Str} {p pos tpos : Pos} {e : Expr} {α β κ γ : Type} {scope : Scope} {iter tg elt kx vx : Expr} {ifs : List Expr} {own : List (Str × Nat)} {xs : List α} {vp : α → VP} {c : Os → Prop} {g : TG} {up : α → List Slot → List Slot}
theorem dput_len [DecidableEq κ] (w : List (κ × β)) (k : κ) (v : β) : (dPut w k v).length ≤ w.length + 1 := by
  unfold dPut
  split
  · rw [List.length_map]; omega
  · rw [List.length_append]; simp
end
end Z
namespace Z
open PySem PySem.Spec PyProof.Rows L2
/-- to assign a value of ψ to tg: slots and what is owned change -/
def GY (X : Cx) (tg : Expr) (ψ : VP) (es : List Slot) (os : Os) (es' : List Slot) (os' : Os) : Prop := ∀ F σ H v (Q : L2.St → Hp → Prop), Ow F os H → Sl F es σ → Cl ψ F v → (∀ F' σ' H', Same F F' → Ow F' os' H' → Sl F' es' σ' → Q σ' H') → WG X tg v σ H Q
end Z
namespace Z
open PySem PySem.Spec PyProof.Rows L2
section
variable {X : Cx} {es es1 es2 : List Slot} {os os1 os2 os3 : Os} {F0 : Hp} {rest : List Stmt} {D : Ends} {N V G W : List Str} {n i j vi gi : Nat} {x y : Str} {p pos tpos apos cpos : Pos} {e a b c k v : Expr} {φ ψ : VP} {α κ β γ : Type} {enc : β → PyData}
theorem wr_same_flat {f : γ → Ent} {d : γ} {q : Addr} (j : Nat) (h : os[j]? = some (q, f d)) : ∀ F H, Ow F os H → Ow F (os.set j (q, f d)) H := fun F H ow => (ow.perm (perm_at h)).perm (perm_set h)
end
end Z
namespace Z
open PySem PySem.Spec PyProof.Rows L2
end Z
namespace Z
open PySem PySem.Spec PyProof.Rows L2
/-- a tuple of a datum and of the list at q -/
def tpo (d : PyData) (q : Addr) : VP := fun F v => ∃ a x, v = .ref a ∧ F a = some (.tup [x, .ref q]) ∧ Dq F x d
/-- the same as one owned thing -/
def tpE (d : PyData) (ds : List PyData) : Ent := fun p F h => ∃ q x, F p = some (.tup [x, .ref q]) ∧ Dq F x d ∧ ol ds q F h
theorem Ow.re {F H : Hp} {os : Os} {p q : Addr} {e e' : Ent} (h : Ow F ((q, e) :: os) H) (k : ∀ F' g, Same F F' → e q F' g → e' p F' g) : Ow F ((p, e') :: os) H := by
  obtain ⟨hs, a, b, c⟩ := h.ps
  cases a with
  | cons h1 h2 => exact ⟨h.ex, _, .cons (fun G g => k G _ g (h1 G g)) h2, b, c⟩
theorem Ow.opT {F H : Hp} {os : Os} {p : Addr} {d : PyData} {ds : List PyData} (h : Ow F ((p, tpE d ds) :: os) H) : ∃ q, Cl (tpo d q) F (.ref p) ∧ Ow F ((q, ol ds) :: os) H := by
  obtain ⟨k, h1, _, _, _, _⟩ := h.wr
  obtain ⟨q, x, e1, e2, e3⟩ := h1 F (Same.refl F)
  refine ⟨q, fun G g => ⟨p, x, rfl, g _ _ e1, dq_mono g _ _ e2⟩, h.re fun G w g => ?_⟩
  rintro ⟨q', x', a1, a2, a3⟩
  rw [g _ _ e1] at a1
  cases a1
  exact a3
section
variable {X : Cx} {es es1 es2 : List Slot} {os os1 os2 os3 : Os} {F0 : Hp} {rest : List Stmt} {D : Ends} {N V G W : List Str} {n i j k vi gi gj : Nat} {x y : Str} {p p2 q' pos pos' tpos apos cpos : Pos} {e a b c v : Expr} {φ ψ : VP} {q : Addr} {d : PyData} {ds ds' : List PyData}
theorem en_tpo {x1} (ha : EX X es os a (dat d) os1) (hb : EX X es os1 b (own q) os2) (hj : os2[j]? = some (q, ol ds)) (s1 : starEach [a, b] X.env = (false, eval a X.env) :: starEach [b] X.env := by rfl) (s2 : starEach [b] X.env = (false, eval b X.env) :: starEach [] X.env := by rfl) : EN X es os (.Tuple [a, b] x1 pos) (tpE d ds) (os2.eraseIdx j) := fun F σ H Q ow sl qq =>
  we_of (pe_tup pa_u) (ax_cons ha (ax_cons hb ax_nil s2) s1 F σ H _ ow sl fun F1 H1 vs e1 o1 c1 => by
    obtain ⟨u, w, rfl, h1, h2⟩ := cla2 c1
    refine ⟨by show 2 ≤ sizeLine; decide, fun p hp => ?_⟩
    obtain rfl : w = .ref q := h2.now
    have fp := o1.ex.free hp
    have o2 := (o1.perm (perm_at hj)).frozen (o := .tup [u, .ref q]) hp
    refine qq _ _ p (e1.trans (same_upd fp)) (o2.re fun G w g hg => ⟨q, u, g _ _ upd_same, dq_mono ((same_upd fp).trans g) _ _ h1.now, hg⟩))
end
theorem frb_tpE {d : PyData} {ds : List PyData} : Frb (tpE d ds) (.tuple [d, .list ds]) := fun p F os H Q ow k => by
  obtain ⟨q, c, o1⟩ := ow.opT
  refine frb_ol q F os H Q o1 fun F1 H1 s1 o2 dq => k F1 H1 s1 o2 ?_
  obtain ⟨a, x, e, h1, h2⟩ := (c.mono s1).now
  cases e
  exact .tup h1 (.cons h2 (.cons dq .nil))
/-- a product: one factor is small, or both are not too long -/
def mulW (i j : Int) : Option Int := if (-(2 ^ 64) < i ∧ i < 2 ^ 64) ∨ (-(2 ^ 64) < j ∧ j < 2 ^ 64) ∨ i.natAbs.log2 + j.natAbs.log2 < 1000000 then some (i * j) else none
theorem ex_mulW {X : Cx} {es : List Slot} {os os1 os2 : Os} {a b : Expr} {pos : Pos} {i j m : Int} (hm : mulW i j = some m) (ha : EX X es os a (dat (.int i)) os1) (hb : EX X es os1 b (dat (.int j)) os2) : EX X es os (.BinOp a .Mult b pos) (dat (.int m)) os2 := by
  unfold mulW at hm
  split at hm
  · rename_i h
    cases hm
    rcases h with h | h | h
    · exact ex_mulL h ha hb
    · exact ex_mulR h ha hb
    · exact ex_mul (if_pos h) ha hb
  · cases hm
end Z
namespace Z
open PySem PySem.Spec PyProof.Rows L2
end Z
namespace Z
open PySem PySem.Spec PyProof.Rows L2
section
variable {X : Cx} {es es1 es2 : List Slot} {os os1 os2 os3 : Os} {F0 : Hp} {rest : List Stmt} {D : Ends} {N V G W : List Str} {n i j k vi gi gj : Nat} {x y : Str} {pos pos' tpos apos cpos pp : Pos} {p q : Addr} {e a b c v : Expr} {φ ψ : VP} {γ : Type} {f : γ → Ent} {ws : List γ} {d d' : γ} {z : Int} {qs : List Addr}
/-- one of a list of owned things, opened for a call -/
theorem Ow.sub {F H : Hp} (j : Nat) (h : os[j]? = some (p, onl qs (ws.map f))) (hk : idx ws z = some d) (ow : Ow F os H) : ∃ tl, qs.length = ws.length ∧ Ow F ((qa qs z, f d) :: (p, orf qs) :: (os.eraseIdx j ++ tl)) H ∧
    ∀ d' F' H', Ow F' ((qa qs z, f d') :: (p, orf qs) :: (os.eraseIdx j ++ tl)) H' → Ow F' (os.set j (p, onl qs ((setI ws z d').map f))) H' := by
  obtain ⟨o1, hl⟩ := (ow.perm (perm_at h)).opn
  rw [List.length_map] at hl
  obtain ⟨k1, k2⟩ := idx_at hk
  have hi : ixD ws.length z < ws.length := (List.getElem?_eq_some_iff.mp k2).1
  have hq : qs[ixD ws.length z]? = some (qa qs z) := by
    unfold qa
    rw [hl]
    exact getD_at (by rw [hl]; exact hi)
  have he : (ws.map f)[ixD ws.length z]? = some (f d) := by rw [List.getElem?_map, k2]; rfl
  have hz : (qs.zip (ws.map f))[ixD ws.length z]? = some (qa qs z, f d) := zip_at hq he
  have pz : ∀ e' : Ent, (qs.zip (ws.map f)).set (ixD ws.length z) (qa qs z, e') = qs.zip ((ws.map f).set (ixD ws.length z) e') := fun e' => zip_set hq
  have pm : ∀ e' : Ent, ((p, orf qs) :: (((qs.zip (ws.map f)).set (ixD ws.length z) (qa qs z, e')) ++ os.eraseIdx j)).Perm ((qa qs z, e') :: (p, orf qs) :: (os.eraseIdx j ++ (qs.zip (ws.map f)).eraseIdx (ixD ws.length z))) := fun e' => by
    have hs : ((qs.zip (ws.map f)).set (ixD ws.length z) (qa qs z, e')).Perm ((qa qs z, e') :: (qs.zip (ws.map f)).eraseIdx (ixD ws.length z)) := (perm_set hz).symm
    refine (List.Perm.cons _ (hs.append_right _)).trans ?_
    refine (List.Perm.swap _ _ _).trans (List.Perm.cons _ (List.Perm.cons _ List.perm_append_comm))
  refine ⟨(qs.zip (ws.map f)).eraseIdx (ixD ws.length z), hl, ?_, fun d' F' H' o' => ?_⟩
  · have := pm (f d)
    rw [show (qs.zip (ws.map f)).set (ixD ws.length z) (qa qs z, f d) = qs.zip (ws.map f) from by
      obtain ⟨q1, q2⟩ := List.getElem?_eq_some_iff.mp hz
      rw [← q2, List.set_getElem_self]] at this
    exact o1.perm this
  · have o2 := o'.perm (pm (f d')).symm
    rw [pz] at o2
    have o3 := o2.cls (by rw [List.length_set, List.length_map]; exact hl)
    have e5 : (ws.map f).set (ixD ws.length z) (f d') = (setI ws z d').map f := by
      unfold setI
      rw [List.map_set]
    rw [e5] at o3
    exact o3.perm (perm_set h)
theorem EX.sub (j : Nat) (h : os[j]? = some (p, onl qs (ws.map f))) (hk : idx ws z = some d) (k : ∀ tl, qs.length = ws.length → EX X es ((qa qs z, f d) :: (p, orf qs) :: (os.eraseIdx j ++ tl)) e φ ((qa qs z, f d') :: (p, orf qs) :: (os.eraseIdx j ++ tl))) : EX X es os e φ (os.set j (p, onl qs ((setI ws z d').map f))) := fun F σ H Q ow sl qq => by
  obtain ⟨tl, hl, o1, back⟩ := ow.sub j h hk
  exact k tl hl F σ H Q o1 sl fun F' H' v e' o' c' => qq F' H' v e' (back d' F' H' o') c'
end
end Z
namespace Z
open PySem PySem.Spec PyProof.Rows L2
section
variable {P : Program} {w : World} {K : PySem.W.Frag} {mg : Str → Option Value} {base : Heap}
variable {α β : Type} {ps : α → List VP} {pre : α → Os} {m : α → Option β} {res : α → β → VP} {post : α → β → Os} {n : α → β → Ent} {x : Str} {st : Stmt} {f : Addr} {fd : FuncData} {N V Gs pn : List Str} {k nl : Nat}
theorem cal_ZQ {sts : List Stmt} (hst : defBody st = sts) (Fn : Fun K x x st f fd) (S : FnScope N pn (defScope st)) (nam : namB (defScope st) V Gs = true) (loc : V.all (locB (defScope st)) = true) (hmg : mg x = some (.ref f)) (hb : Binds K fd pn []) (hps : ∀ a, (ps a).length = pn.length) (hN : N.length = pn.length + nl)
    (body : ∀ (f : Addr) (cdv : Value) (A : Around) (outer : List Env) (s : Shared) (H : Hp) (E : XK) (a : α) (b : β) (F0 : Hp) (os : Os) (D : Ends), Bd (cxOf CX0 P w K mg base N x (defScope st) f cdv A outer s H E).nox N V Gs k → Bt (cxOf CX0 P w K mg base N x (defScope st) f cdv A outer s H E).nox V →
      m a = some b → RetZ F0 (post a b ++ os) (res a b) D → SX (cxOf CX0 P w K mg base N x (defScope st) f cdv A outer s H E).nox ((ps a).map sl ++ List.replicate nl un) (pre a ++ os) F0 sts D) : Cal P w K mg base (k + 1) x st pn (spZ ps pre m res post) := by
  subst hst
  exact cal_Z Fn S nam loc hmg hb hps hN body
theorem cal_NQ {sts : List Stmt} (hst : defBody st = sts) (Fn : Fun K x x st f fd) (S : FnScope N pn (defScope st)) (nam : namB (defScope st) V Gs = true) (loc : V.all (locB (defScope st)) = true) (hmg : mg x = some (.ref f)) (hb : Binds K fd pn []) (hps : ∀ a, (ps a).length = pn.length) (hN : N.length = pn.length + nl)
    (body : ∀ (f : Addr) (cdv : Value) (A : Around) (outer : List Env) (s : Shared) (H : Hp) (E : XK) (a : α) (b : β) (F0 : Hp) (os : Os) (D : Ends), Bd (cxOf CX0 P w K mg base N x (defScope st) f cdv A outer s H E).nox N V Gs k → Bt (cxOf CX0 P w K mg base N x (defScope st) f cdv A outer s H E).nox V →
      m a = some b → RetN F0 (post a b ++ os) (n a b) D → SX (cxOf CX0 P w K mg base N x (defScope st) f cdv A outer s H E).nox ((ps a).map sl ++ List.replicate nl un) (pre a ++ os) F0 sts D) : Cal P w K mg base (k + 1) x st pn (spN ps pre m n post) := by
  subst hst
  exact cal_N Fn S nam loc hmg hb hps hN body
end
end Z
namespace Z
open PySem PySem.Spec PyProof.Rows L2
def ltI : Int → Int → Bool := fun a b => decide (a < b)
def ltL {α : Type} [DecidableEq α] (lt : α → α → Bool) : List α → List α → Bool
  | x :: xs, y :: ys => if x = y then ltL lt xs ys else lt x y
  | [], _ :: _ => true
  | _, [] => false
def ltP2 {α β : Type} [DecidableEq α] (l1 : α → α → Bool) (l2 : β → β → Bool) : α × β → α × β → Bool := fun a b => if a.1 = b.1 then l2 a.2 b.2 else l1 a.1 b.1
end Z
namespace Z
open PySem PySem.Spec PyProof.Rows L2
end Z
namespace Z
open PySem PySem.Spec PyProof.Rows L2
end Z
namespace Z
open PySem PySem.Spec PyProof.Rows L2
def idxH {γ : Type} (ws : List (Option γ)) (z : Int) : Option γ := (idx ws z).bind id
def unH {γ : Type} : List (Option γ) → Option (List γ)
  | [] => some []
  | o :: r => o.bind fun x => (unH r).bind fun xs => some (x :: xs)
theorem idx_mapS {γ : Type} {ws : List γ} {z : Int} {d : γ} (h : idx ws z = some d) : idx (ws.map some) z = some (some d) := by
  obtain ⟨k1, k2⟩ := idx_at h
  unfold idx atI
  rw [List.length_map, k1]
  show (ws.map some)[ixD ws.length z]? = _
  rw [List.getElem?_map, k2]
  rfl
section
variable {X : Cx} {es es1 : List Slot} {os os1 os2 : Os} {F0 : Hp} {rest : List Stmt} {D : Ends} {N V G W : List Str} {n k i j vi gi : Nat} {x : Str} {p q pos apos cpos tpos : Pos} {e a b tg : Expr} {φ ψ : VP} {γ : Type} {f : γ → Ent} {g : γ → PyData} {m : Ent}
theorem GY.drop {es' : List Slot} {u : Addr × Ent} (k : GY X tg ψ es os es' (u :: os1)) : GY X tg ψ es os es' os1 := fun F σ H v Q ow s c qq => k F σ H v Q ow s c fun F' σ' H' e o l => qq F' σ' H' e o.drop l
end
end Z
namespace Z
open PySem PySem.Spec PyProof.Rows L2
end Z
namespace Z
open PySem PySem.Spec PyProof.Rows L2
abbrev T3 : Type := Tri Int Int Int
abbrev e3 : T3 → PyData := eP3 PyData.int PyData.int PyData.int
/-- the place of a triple in the order, if its parts lie in [0, 10^6) -/
def cd3 (t : T3) : Int := (t.a * 1000000 + t.b) * 1000000 + t.c
end Z
namespace Z
open PySem PySem.Spec PyProof.Rows L2
end Z
namespace Z
open PySem PySem.Spec PyProof.Rows L2
section
variable {X : Cx} {pins : List (Addr × Obj)} {σ : L2.St} {H : Hp} {s : Shared} {a b : Addr} {r : Value} {d : L2.V} {k : List Key} {A : Around} {E : Value → Shared → Prop}
/-- the call, the key a tuple -/
theorem setd_tup {kvs : List (List Key × L2.V)} {Q : Value → Shared → Prop} (hu : A.units + 1 < cLine) (I : Inv X pins σ H s) (e : H a = some (.dT kvs)) (eb : H b = some (.tup (k.map kV))) (rd : RelV d r) (hl : kvs.length < sizeLine)
    (h1 : ∀ v, valV kvs k = some v → ∀ (w' : Value) (s' : Shared), Inv X pins σ H s' → RelV v w' → Q w' s') (h2 : valV kvs k = none → ∀ (w' : Value) (s' : Shared), Inv X pins σ (upd H a (.dT (putK kvs k d))) s' → RelV d w' → Q w' s') :
    wpAny (model X.prog X.w) A (call (.builtin "dict.setdefault") [.ref a, .ref b, r]) Q E s := by
  obtain ⟨z, hd, xs, rel, dd⟩ := dt_of I.hok e
  have hz : xs.length ≤ sizeLine := by rw [← Paired.length rel]; exact z
  have hl2 : (putK kvs k d).length ≤ sizeLine := by
    have := length_putK kvs k d
    omega
  have rv := rel.val k
  refine call_meetsIn PySem.F.slot_dict_setdefault dd.typeIs PySem.F.entry_dict_setdefault (PySem.F.args_dict_setdefault_3 _ _ _) (meetsH_dict_setdefault (tupleKind (mixKind X.prog X.w)) a b hd r)
    ⟨tupleKind_room_in1 hu, k, xs, key_of I.hok eb, dd, hz, fun p hp => ?_, fun hn h' dd' hs => ?_⟩
  · rw [hp] at rv
    cases q0 : valV kvs k with
    | none =>
      rw [q0] at rv
      exact (show False from rv).elim
    | some v0 =>
      rw [q0] at rv
      exact h1 v0 q0 _ _ (I.tok _) rv
  · rw [hn] at rv
    cases q0 : valV kvs k with
    | some v0 =>
      rw [q0] at rv
      exact (show False from rv).elim
    | none =>
      obtain ⟨q, es, ep, hq, g2, g3, g4, _, g5⟩ := dd'
      refine h2 q0 _ _ (d_write (t' := _) I (by rw [e]; exact True.intro) hs ⟨q, hq⟩ ⟨hl2, hd, _, (rel.put k eb rd).keeps fun c ys ec => ?_, q, es, ep, hq, g2, g3, g4, g5⟩) rd
      rw [upd_ne (ne_of ec e (fun z => nomatch z))]
      exact ec
end
/-- d.setdefault(y, z), the keys tuples -/
def tSetdT (td ty tx : TE) : TE := fun σ H Q => td σ H fun x H1 => ∃ a, x = .ref a ∧ IsD H1 a ∧ ty σ H1 fun y H2 => tx σ H2 fun z H3 => ∃ (kvs : List (List Key × L2.V)) (k : List Key) (b : Addr), H3 a = some (.dT kvs) ∧ y = .ref b ∧ H3 b = some (.tup (k.map kV)) ∧ kvs.length < sizeLine ∧
  (∀ v, valV kvs k = some v → Q v H3) ∧ (valV kvs k = none → Q z (upd H3 a (.dT (putK kvs k z))))
section
variable {X : Cx} {o e f : Expr} {td ty tx : TE} {apos cpos : Pos}
theorem pe_setdT (hu : X.A.units + 1 < cLine) (ho : PE X o td) (he : PE X e ty) (hf : PE X f tx) (m : M2 X o "setdefault" apos e f cpos) : PE X (.Call (.Attribute o "setdefault" apos) [e, f] [] cpos) (tSetdT td ty tx) := by
  refine ⟨fun pins s σ H Q I h => ?_⟩
  refine wpAny_Call_method m.base m.few m.line PySem.F.plainAttrs_dict PySem.F.slot_dict_setdefault PySem.F.type_dict_setdefault (thn (ho.run pins s σ H _ I h) fun u s1 hx => ?_)
  obtain ⟨x, H1, I1, rx, a, rfl, d, q1⟩ := hx
  obtain rfl : u = Value.ref a := rx
  obtain ⟨t1, t2, _⟩ := isD_at I1 d
  refine ⟨t1, t2, ?_⟩
  rw [m.trees]
  refine Calls.callWith_builtin rfl (Calls.evalArgs_plain (Calls.spliced_cons (thn (he.run pins s1 σ H1 _ I1 q1) fun iv s2 hy => ?_)))
  obtain ⟨y, H2, I2, ry, q2⟩ := hy
  refine Calls.spliced_cons (thn (hf.run pins s2 σ H2 _ I2 q2) fun fv s3 hz => Calls.spliced_nil ?_)
  obtain ⟨z, H3, I3, rz, kvs, k, b, ea, rfl, eb, hl, q3, q4⟩ := hz
  obtain rfl : iv = Value.ref b := ry
  exact setd_tup hu I3 ea eb rz hl (fun v hv w' s4 I4 rw' => ⟨v, _, I4, rw', q3 v hv⟩) fun hn w' s4 I4 rw' => ⟨z, _, I4, rw', q4 hn⟩
end
section
variable {X : Cx} {es : List Slot} {os os1 os2 os3 : Os} {N V G W : List Str} {m : Nat} {apos cpos : Pos} {a b c : Expr} {κ β : Type} [DecidableEq κ] {k : κ} {x : β} {w : List (κ × β)} {d0 : List (κ × PyData)} {enc : β → PyData}
theorem ex_dsetdT {f : κ → List Key} {r : β × List (κ × β)} {q : Addr} {os' : List (κ × β) → Os} (B : Bd X N V G m) (hi : (Kd.tu f).Inj) (hp : dSetO w k x = some r) (ho : EX X es os a (own q) os1) (h0 : RdD (.tu f) (own q) os1 d0) (hb : EX X es os1 b (dat ((Kd.tu f).ek k)) os2) (hc : EX X es os2 c (dat (enc x)) os3) (hw : WrT os3 q (odT (.tu f) enc) w os')
    (hsame : ∀ F H, Ow F os3 H → Ow F (os' w) H)
    (hbase : attributeBase a "setdefault" X.env (eval a X.env) = eval a X.env := by rfl) (hline : (apos.endLine == cpos.line) = true := by rfl) (htr : backTo cpos (starEach [b, c] X.env) = [(false, eval b X.env), (false, eval c X.env)] := by rfl) :
    EX X es os (.Call (.Attribute a "setdefault" apos) [b, c] [] cpos) (dat (enc r.1)) (os' r.2) := fun F σ H Q ow sl qq => by
  unfold dSetO at hp
  split at hp
  · rename_i hl
    cases hp
    refine we_of (pe_setdT B.u1 pe_u pe_u pe_u ⟨hbase, by rw [htr]; rfl, hline, htr⟩) (ho F σ H _ ow sl fun F1 H1 v e1 o1 c1 => ?_)
    obtain ⟨p, kvs0, rfl, rd, _⟩ := h0 F1 H1 v o1 c1
    obtain rfl : p = q := by
      have := c1.now
      cases this
      rfl
    refine ⟨p, rfl, isD_of (kd := .tu f) rd, hb F1 σ H1 _ o1 (sl.mono e1) fun F2 H2 y e2 o2 c2 => hc F2 σ H2 _ o2 (sl.mono (e1.trans e2)) fun F3 H3 u e3 o3 c3 => ?_⟩
    obtain ⟨_, o, hq, _, ⟨kvs, rfl, dv⟩, z⟩ := hw F3 H3 _ uni_od o3
    have e := (e1.trans e2).trans e3
    obtain ⟨b', rfl, hb'⟩ := key_val (kd := .tu f) (c2.mono e3)
    refine ⟨_, f k, b', hq, rfl, o3.ex _ _ hb', by rw [List.length_map, dv_len dv, List.length_map]; exact hl, fun v hv => ?_, fun hn => ?_⟩
    · rw [valV_dGet, dGet_key hi] at hv
      cases hg : dGet w k with
      | none =>
        rw [(dv_get k dv).2 (by rw [dGet_map, hg]; rfl)] at hv
        cases hv
      | some y =>
        obtain ⟨u', hu, hd⟩ := (dv_get k dv).1 (enc y) (by rw [dGet_map, hg]; rfl)
        rw [hu] at hv
        cases hv
        simp only [hg] at qq
        exact qq F3 H3 _ e (hsame F3 H3 o3) (cl_dat hd)
    · rw [valV_dGet, dGet_key hi] at hn
      cases hg : dGet w k with
      | some y =>
        obtain ⟨u', hu, hd⟩ := (dv_get k dv).1 (enc y) (by rw [dGet_map, hg]; rfl)
        rw [hu] at hn
        cases hn
      | none =>
        have e5 : putK (kvs.map fun p => (f p.1, p.2)) (f k) u = (dPut kvs k u).map fun p => (f p.1, p.2) := dPut_key hi k u kvs
        rw [e5]
        simp only [hg] at qq
        exact qq F3 _ u e (z _ _ (Kd.ntup (.tu f) _) (od_one (kd := .tu f) (dput_enc dv c3.now))) c3
  · cases hp
end
end Z
namespace Z
open PySem PySem.Spec PyProof.Rows L2
end Z
namespace Z
open PySem PySem.Spec L2
def minO : List Int → Option Int
  | [] => none
  | x :: t => some (t.foldl (fun a b => if b < a then b else a) x)
def maxO : List Int → Option Int
  | [] => none
  | x :: t => some (t.foldl (fun a b => if b > a then b else a) x)
theorem fold_min : ∀ (t : List Int) (x : Int), (t.foldl (fun a b => if b < a then b else a) x = x ∨ t.foldl (fun a b => if b < a then b else a) x ∈ t) ∧ t.foldl (fun a b => if b < a then b else a) x ≤ x ∧ ∀ y ∈ t, t.foldl (fun a b => if b < a then b else a) x ≤ y
  | [], x => ⟨.inl rfl, Int.le_refl _, fun _ z => nomatch z⟩
  | b :: t, x => by
    obtain ⟨h1, h2, h3⟩ := fold_min t (if b < x then b else x)
    rw [List.foldl_cons]
    have hb : (if b < x then b else x) ≤ x ∧ (if b < x then b else x) ≤ b := by split <;> omega
    refine ⟨?_, by omega, fun y hy => ?_⟩
    · rcases h1 with h1 | h1
      · rw [h1]
        split
        · exact .inr List.mem_cons_self
        · exact .inl rfl
      · exact .inr (List.mem_cons_of_mem _ h1)
    · rcases List.mem_cons.mp hy with rfl | hy
      · omega
      · exact h3 y hy
theorem fold_max : ∀ (t : List Int) (x : Int), (t.foldl (fun a b => if b > a then b else a) x = x ∨ t.foldl (fun a b => if b > a then b else a) x ∈ t) ∧ x ≤ t.foldl (fun a b => if b > a then b else a) x ∧ ∀ y ∈ t, y ≤ t.foldl (fun a b => if b > a then b else a) x
  | [], x => ⟨.inl rfl, Int.le_refl _, fun _ z => nomatch z⟩
  | b :: t, x => by
    obtain ⟨h1, h2, h3⟩ := fold_max t (if b > x then b else x)
    rw [List.foldl_cons]
    have hb : x ≤ (if b > x then b else x) ∧ b ≤ (if b > x then b else x) := by split <;> omega
    refine ⟨?_, by omega, fun y hy => ?_⟩
    · rcases h1 with h1 | h1
      · rw [h1]
        split
        · exact .inr List.mem_cons_self
        · exact .inl rfl
      · exact .inr (List.mem_cons_of_mem _ h1)
    · rcases List.mem_cons.mp hy with rfl | hy
      · omega
      · exact h3 y hy
theorem minO_ok {ns : List Int} {r : Int} (h : minO ns = some r) : r ∈ ns ∧ ∀ y ∈ ns, r ≤ y := by
  cases ns with
  | nil => cases h
  | cons x t =>
    cases h
    obtain ⟨h1, h2, h3⟩ := fold_min t x
    refine ⟨h1.elim (fun e => by rw [e]; exact List.mem_cons_self) fun e => List.mem_cons_of_mem _ e, fun y hy => ?_⟩
    rcases List.mem_cons.mp hy with rfl | hy
    · exact h2
    · exact h3 y hy
theorem maxO_ok {ns : List Int} {r : Int} (h : maxO ns = some r) : r ∈ ns ∧ ∀ y ∈ ns, y ≤ r := by
  cases ns with
  | nil => cases h
  | cons x t =>
    cases h
    obtain ⟨h1, h2, h3⟩ := fold_max t x
    refine ⟨h1.elim (fun e => by rw [e]; exact List.mem_cons_self) fun e => List.mem_cons_of_mem _ e, fun y hy => ?_⟩
    rcases List.mem_cons.mp hy with rfl | hy
    · exact h2
    · exact h3 y hy
section
variable {X : Cx} {os : Os}
theorem rc_minL {φ : VP} {ns : List Int} {r : Int} (h : minO ns = some r) (hr : RdL X φ os (ns.map PyData.int)) : RCX (rMin X.K) [φ] os (dat (.int r)) os := fun F H vs Q ow c q => by
  obtain ⟨v, rfl, hv⟩ := cla1 c
  obtain ⟨a, us, rfl, h1, h2⟩ := hr F H v ow hv
  have e := dqall_of_ints ns h2
  subst e
  obtain ⟨m1, m2⟩ := minO_ok h
  refine ⟨a, ns, rfl, h1, List.length_pos_of_mem m1, fun m hm hle => ?_⟩
  have : m = r := Int.le_antisymm (hle r m1) (m2 m hm)
  subst this
  exact q F H _ (Same.refl F) ow (cl_dat (.int _))
theorem rc_maxL {φ : VP} {ns : List Int} {r : Int} (h : maxO ns = some r) (hr : RdL X φ os (ns.map PyData.int)) : RCX (rMax X.K) [φ] os (dat (.int r)) os := fun F H vs Q ow c q => by
  obtain ⟨v, rfl, hv⟩ := cla1 c
  obtain ⟨a, us, rfl, h1, h2⟩ := hr F H v ow hv
  have e := dqall_of_ints ns h2
  subst e
  obtain ⟨m1, m2⟩ := maxO_ok h
  refine ⟨a, ns, rfl, h1, List.length_pos_of_mem m1, fun m hm hle => ?_⟩
  have : m = r := Int.le_antisymm (m2 m hm) (hle r m1)
  subst this
  exact q F H _ (Same.refl F) ow (cl_dat (.int _))
end
end Z
namespace Z
open PySem PySem.Spec PyProof.Rows L2
end Z
namespace Z
open PySem PySem.Spec PyProof.Rows L2
open PySem.Sem (wp)
/-- one step deeper -/
def a1 (X : Cx) : Cx := { X with A := X.A.in1 }
section
variable {X : Cx} {pins : List (Addr × Obj)} {σ : L2.St} {H : Hp} {s : Shared}
/-- a new place -/
structure Fsh (X : Cx) (pins : List (Addr × Obj)) (a : Addr) : Prop where
  sz : X.s_0.heap.objs.size ≤ a
  loc : a ≠ X.env.locals
  cell : ∀ x c, X.env.cells.lookup x = some c → c ≠ a
  pin : ∀ p ∈ X.pn ++ pins, p.1 ≠ a
  fs : a ∉ X.fs
theorem list_raw {l : Addr} {xs : List V} (I : Inv X pins σ H s) (h : H l = some (.lst xs)) : ∃ its : List Value, Vals xs its ∧ s.heap.IsList l its.toArray := by
  obtain ⟨_, its, n, r, e⟩ := I.hok l _ h
  exact ⟨its, r, _, e, rfl, n, rfl⟩
theorem inv_turned {it : Addr} {h' : Heap} {t' : Nat} (I : Inv X pins σ H s) (f : Fsh X pins it) (hn : H it = none) (k : ∀ b o, b ≠ it → s.heap.get? b = some o → h'.get? b = some o) : Inv X pins σ H { s with heap := h', toks := t' } :=
  I.turned k hn f.loc (.inr f.sz) f.cell f.pin
end
section
variable {X : Cx} {pins : List (Addr × Obj)} {σ : L2.St} {os : Os} {F0 : Hp} {l S I f : Addr} {xs : List V} {kd : Nat → PyData} {k : Nat} {fd : FuncData} {ps : List Str} {sp : Sp}
/-- the state between two keys -/
def Btw (X : Cx) (pins : List (Addr × Obj)) (σ : L2.St) (os : Os) (F0 : Hp) (S I : Addr) (s : Shared) (P : Hp → Prop) : Prop := ∃ H F, Inv X pins σ H s ∧ Ow F os H ∧ Same F0 F ∧ H S = none ∧ H I = none ∧ P F
theorem Btw.turned {s : Shared} {it : Addr} {h' : Heap} {t' : Nat} {P : Hp → Prop} (b : Btw X pins σ os F0 S I s P) (f : Fsh X pins it) (hi : it = S ∨ it = I) (k : ∀ b o, b ≠ it → s.heap.get? b = some o → h'.get? b = some o) : Btw X pins σ os F0 S I { s with heap := h', toks := t' } P := by
  obtain ⟨H, F, inv, ow, sf, nS, nI, hP⟩ := b
  exact ⟨H, F, inv_turned inv f (hi.elim (fun e => e ▸ nS) fun e => e ▸ nI) k, ow, sf, nS, nI, hP⟩
theorem Btw.list {s : Shared} {P : Hp → Prop} (b : Btw X pins σ os F0 S I s P) (hl : F0 l = some (.lst xs)) : ∃ its : List Value, Vals xs its ∧ s.heap.IsList l its.toArray := by
  obtain ⟨H, F, inv, ow, sf, nS, nI, hP⟩ := b
  exact list_raw inv (ow.ex l _ (sf l _ hl))
end
end Z
namespace Z
open PySem PySem.Spec PyProof.Rows L2
end Z
namespace Z
open PySem PySem.Spec PyProof.Rows L2
end Z
namespace Z
open PySem PySem.Spec L2
end Z
namespace Z
open PySem PySem.Spec L2
end Z
namespace Z
open PySem PySem.Spec PyProof.Rows L2
end Z
namespace Z
open PySem PySem.Spec PyProof.Rows L2
end Z
namespace Z
end Z
namespace Z
open PySem PySem.Spec PyProof.Rows L2
end Z
namespace Z
open PySem PySem.Spec PyProof.Rows L2
end Z
namespace Z
open PySem PySem.Spec PyProof.Rows L2
end Z
set_option maxHeartbeats 3200000
namespace Z
open PySem PySem.Spec PyProof.Rows L2
end Z
namespace Z
open PySem PySem.Spec PyProof.Rows L2
end Z
namespace Z
open PySem PySem.Spec PyProof.Rows L2
end Z
namespace Z
open PySem PySem.Spec PyProof.Rows L2
end Z
namespace Z
open PySem PySem.Spec PyProof.Rows L2
end Z
namespace Z
open PySem PySem.Spec PyProof.Rows L2
end Z
namespace Z
open PySem PySem.Spec PyProof.Rows L2
def rMaxT (K : PySem.W.Frag) : List L2.V → Hp → VK → Prop := fun vs H Q => ∃ (a : Addr) (ns : List Int), vs = [L2.V.ref a] ∧ SqT K H a (ns.map L2.V.int) ∧ 0 < ns.length ∧ ∀ m, m ∈ ns → (∀ y, y ∈ ns → y ≤ m) → Q (.int m) H
def rMinT (K : PySem.W.Frag) : List L2.V → Hp → VK → Prop := fun vs H Q => ∃ (a : Addr) (ns : List Int), vs = [L2.V.ref a] ∧ SqT K H a (ns.map L2.V.int) ∧ 0 < ns.length ∧ ∀ m, m ∈ ns → (∀ y, y ∈ ns → m ≤ y) → Q (.int m) H
theorem ints_val {its : List Value} {ns : List Int} (h : IntsAre its ns) {i : Nat} {v : Value} (hv : its.toArray[i]? = some v) : ∃ t, v = .int (ns.getD i 0) t := by
  obtain ⟨t, e⟩ := IntsAre.int_at h i v (by simpa using hv)
  exact ⟨t, e⟩
theorem cr_maxT {X : Cx} (hc : X.calm = true) : CallR X (.builtin "max") (rMaxT X.K) := by
  intro pins s σ H xs us Q I r h
  obtain ⟨a, ns, rfl, ha, hn, q⟩ := h
  obtain ⟨its, rv, it, hz⟩ := I.tuple ha
  rw [Vals.ref1 r]
  have hi : IntsAre its ns := by simpa using rv.ints
  have hl : its.toArray.size = ns.length := by rw [List.size_toArray]; exact IntsAre.length hi
  have itt : s.heap.IsTuple a its.toArray := it
  obtain ⟨o, ho, _⟩ := it
  have hlt : a < s.heap.objs.size := Heap.lt_size ho
  refine call_max_walk (wpAny_pyIter_tuple itt ?_)
  refine ⟨s.heap.objs.size, _, _, _, _, _, _, rfl, Walks.tuple (by simp [I.ok.hd hc]) _ a (Nat.ne_of_lt hlt) its.toArray, ⟨⟨_, Heap.get?_push_size _ rfl, rfl, rfl⟩, itt.push _⟩, fun b hb => ?_, by omega, CmpOf.ints_gt (fun i => ns.getD i 0) (fun i v hv => ints_val hi hv), fun v h' tk hP keep => ?_⟩
  · have z1 : ∀ o : Obj, (s.heap.push o).objs.size = s.heap.objs.size + 1 := fun o => Heap.size_push ..
    rcases List.mem_cons.mp hb with rfl | hb
    · show _ < (s.heap.push _).objs.size
      rw [z1]
      exact Nat.lt_succ_self _
    · rw [List.mem_singleton.mp hb]
      show _ < (s.heap.push _).objs.size
      rw [z1]
      exact Nat.lt_succ_of_lt hlt
  · obtain ⟨t, e⟩ := ints_val hi hP
    subst e
    have hb := argBest_gt (fun i => ns.getD i 0) (its.toArray.size - 1)
    generalize hm : argBest (fun i j => decide (ns.getD i 0 > ns.getD j 0)) (its.toArray.size - 1) = m at hb hP
    have hm1 : m < ns.length := by omega
    refine ⟨.int (ns.getD m 0), H, ?_, ⟨_, rfl⟩, q _ ?_ fun y hy => ?_⟩
    · refine I.kept fun b u hu => keep b u (fun q => ?_) (Heap.get?_push_of_some _ hu)
      exact absurd (List.mem_singleton.mp q) (Nat.ne_of_lt (Heap.lt_size hu))
    · rw [List.getD_eq_getElem?_getD, List.getElem?_eq_getElem hm1]
      exact List.getElem_mem hm1
    · obtain ⟨j, hj⟩ := List.mem_iff_getElem?.mp hy
      have hj1 := (List.getElem?_eq_some_iff.mp hj).1
      have := hb.2 j (by omega)
      rw [show ns.getD j 0 = y by rw [List.getD_eq_getElem?_getD, hj]; rfl] at this
      exact this
theorem cr_minT {X : Cx} (hc : X.calm = true) : CallR X (.builtin "min") (rMinT X.K) := by
  intro pins s σ H xs us Q I r h
  obtain ⟨a, ns, rfl, ha, hn, q⟩ := h
  obtain ⟨its, rv, it, hz⟩ := I.tuple ha
  rw [Vals.ref1 r]
  have hi : IntsAre its ns := by simpa using rv.ints
  have hl : its.toArray.size = ns.length := by rw [List.size_toArray]; exact IntsAre.length hi
  have itt : s.heap.IsTuple a its.toArray := it
  obtain ⟨o, ho, _⟩ := it
  have hlt : a < s.heap.objs.size := Heap.lt_size ho
  refine call_min_walk (wpAny_pyIter_tuple itt ?_)
  refine ⟨s.heap.objs.size, _, _, _, _, _, _, rfl, Walks.tuple (by simp [I.ok.hd hc]) _ a (Nat.ne_of_lt hlt) its.toArray, ⟨⟨_, Heap.get?_push_size _ rfl, rfl, rfl⟩, itt.push _⟩, fun b hb => ?_, by omega, CmpOf.ints_lt (fun i => ns.getD i 0) (fun i v hv => ints_val hi hv), fun v h' tk hP keep => ?_⟩
  · have z1 : ∀ o : Obj, (s.heap.push o).objs.size = s.heap.objs.size + 1 := fun o => Heap.size_push ..
    rcases List.mem_cons.mp hb with rfl | hb
    · show _ < (s.heap.push _).objs.size
      rw [z1]
      exact Nat.lt_succ_self _
    · rw [List.mem_singleton.mp hb]
      show _ < (s.heap.push _).objs.size
      rw [z1]
      exact Nat.lt_succ_of_lt hlt
  · obtain ⟨t, e⟩ := ints_val hi hP
    subst e
    have hb := argBest_lt (fun i => ns.getD i 0) (its.toArray.size - 1)
    generalize hm : argBest (fun i j => decide (ns.getD i 0 < ns.getD j 0)) (its.toArray.size - 1) = m at hb hP
    have hm1 : m < ns.length := by omega
    refine ⟨.int (ns.getD m 0), H, ?_, ⟨_, rfl⟩, q _ ?_ fun y hy => ?_⟩
    · refine I.kept fun b u hu => keep b u (fun q => ?_) (Heap.get?_push_of_some _ hu)
      exact absurd (List.mem_singleton.mp q) (Nat.ne_of_lt (Heap.lt_size hu))
    · rw [List.getD_eq_getElem?_getD, List.getElem?_eq_getElem hm1]
      exact List.getElem_mem hm1
    · obtain ⟨j, hj⟩ := List.mem_iff_getElem?.mp hy
      have hj1 := (List.getElem?_eq_some_iff.mp hj).1
      have := hb.2 j (by omega)
      rw [show ns.getD j 0 = y by rw [List.getD_eq_getElem?_getD, hj]; rfl] at this
      exact this
section
variable {X : Cx} {os : Os}
theorem rc_maxT {φ : VP} {ns : List Int} {r : Int} (h : maxO ns = some r) (hr : RdT φ (ns.map PyData.int)) : RCX (rMaxT X.K) [φ] os (dat (.int r)) os := fun F H vs Q ow c q => by
  obtain ⟨v, rfl, hv⟩ := cla1 c
  obtain ⟨a, us, rfl, h1, h2⟩ := hr F v hv
  have e := dqall_of_ints ns h2
  subst e
  obtain ⟨m1, m2⟩ := maxO_ok h
  refine ⟨a, ns, rfl, .of (ow.ex _ _ h1), List.length_pos_of_mem m1, fun m hm hle => ?_⟩
  have : m = r := Int.le_antisymm (m2 m hm) (hle r m1)
  subst this
  exact q F H _ (Same.refl F) ow (cl_dat (.int _))
theorem rc_minT {φ : VP} {ns : List Int} {r : Int} (h : minO ns = some r) (hr : RdT φ (ns.map PyData.int)) : RCX (rMinT X.K) [φ] os (dat (.int r)) os := fun F H vs Q ow c q => by
  obtain ⟨v, rfl, hv⟩ := cla1 c
  obtain ⟨a, us, rfl, h1, h2⟩ := hr F v hv
  have e := dqall_of_ints ns h2
  subst e
  obtain ⟨m1, m2⟩ := minO_ok h
  refine ⟨a, ns, rfl, .of (ow.ex _ _ h1), List.length_pos_of_mem m1, fun m hm hle => ?_⟩
  have : m = r := Int.le_antisymm (hle r m1) (m2 m hm)
  subst this
  exact q F H _ (Same.refl F) ow (cl_dat (.int _))
end
end Z
namespace Z
open PySem PySem.Spec PyProof.Rows L2
abbrev Fs := List (Str × VP)
def FsR (F : Hp) : List (Str × L2.V) → Fs → Prop
  | [], [] => True
  | (f, v) :: vs, (g, φ) :: fs => f = g ∧ Cl φ F v ∧ FsR F vs fs
  | _, _ => False
theorem FsR.mono {F F' : Hp} (e : Same F F') : ∀ {vs : List (Str × L2.V)} {fs : Fs}, FsR F vs fs → FsR F' vs fs
  | [], [], _ => trivial
  | [], _ :: _, h => h.elim
  | _ :: _, [], h => h.elim
  | (f, v) :: vs, (g, φ) :: fs, h => ⟨h.1, h.2.1.mono e, FsR.mono e h.2.2⟩
theorem FsR.len {F : Hp} : ∀ {vs : List (Str × L2.V)} {fs : Fs}, FsR F vs fs → vs.length = fs.length
  | [], [], _ => rfl
  | [], _ :: _, h => h.elim
  | _ :: _, [], h => h.elim
  | (f, v) :: vs, (g, φ) :: fs, h => by rw [List.length_cons, List.length_cons, FsR.len h.2.2]
theorem FsR.get {F : Hp} {f : Str} {φ : VP} : ∀ {vs : List (Str × L2.V)} {fs : Fs}, FsR F vs fs → fs.lookup f = some φ → ∃ v, vs.lookup f = some v ∧ Cl φ F v
  | [], [], _, h => by cases h
  | [], _ :: _, h, _ => h.elim
  | _ :: _, [], h, _ => h.elim
  | (g, v) :: vs, (g', ψ) :: fs, h, e => by
    obtain ⟨h1, h2, h3⟩ := h
    subst h1
    rw [List.lookup_cons] at e ⊢
    cases c : f == g with
    | true =>
      rw [c] at e
      cases e
      exact ⟨v, rfl, h2⟩
    | false =>
      rw [c] at e
      exact FsR.get h3 e
def pF (f : Str) (φ : VP) : Fs → Fs
  | [] => [(f, φ)]
  | (g, ψ) :: r => if g = f then (g, φ) :: r else (g, ψ) :: pF f φ r
theorem FsR.put {F : Hp} {f : Str} {φ : VP} {v : L2.V} (hv : Cl φ F v) : ∀ {vs : List (Str × L2.V)} {fs : Fs}, FsR F vs fs → FsR F (putF f v vs) (pF f φ fs)
  | [], [], _ => ⟨rfl, hv, trivial⟩
  | [], _ :: _, h => h.elim
  | _ :: _, [], h => h.elim
  | (g, u) :: vs, (g', ψ) :: fs, h => by
    obtain ⟨h1, h2, h3⟩ := h
    subst h1
    unfold putF pF
    by_cases c : g = f
    · rw [if_pos c, if_pos c]
      exact ⟨rfl, hv, h3⟩
    · rw [if_neg c, if_neg c]
      exact ⟨rfl, h2, FsR.put hv h3⟩
structure CalM (P : Program) (w : World) (K : PySem.W.Frag) (mg : Str → Option Value) (base : Heap) (k : Nat) (C : Addr) (x qn : Str) (st : Stmt) (ps : List Str) (sp : Sp) : Prop where
  ex : ∃ (f : Addr) (fd : FuncData), Fun K x qn st f fd ∧ FnG P w K mg base CX0 k f fd ps sp ∧ Meth K C x f ∧ Binds K fd ps []
theorem CalM.mono {P : Program} {w : World} {K : PySem.W.Frag} {mg : Str → Option Value} {base : Heap} {i k : Nat} {C : Addr} {x qn : Str} {st : Stmt} {ps : List Str} {sp : Sp} (c : CalM P w K mg base i C x qn st ps sp) (h : i ≤ k) : CalM P w K mg base k C x qn st ps sp :=
  let ⟨f, fd, a, b, d⟩ := c.ex
  ⟨f, fd, a, b.mono h, d⟩
structure CalI (P : Program) (w : World) (K : PySem.W.Frag) (mg : Str → Option Value) (base : Heap) (k : Nat) (C : Addr) (x qn : Str) (st : Stmt) (ps : List Str) (sp : Sp) : Prop where
  ex : ∃ (f : Addr) (fd : FuncData), Fun K "__init__" qn st f fd ∧ FnG P w K mg base CX0 k f fd ps sp ∧ Mk K C f ∧ Binds K fd ps [] ∧ mg x = some (.ref C)
theorem CalI.mono {P : Program} {w : World} {K : PySem.W.Frag} {mg : Str → Option Value} {base : Heap} {i k : Nat} {C : Addr} {x qn : Str} {st : Stmt} {ps : List Str} {sp : Sp} (c : CalI P w K mg base i C x qn st ps sp) (h : i ≤ k) : CalI P w K mg base k C x qn st ps sp :=
  let ⟨f, fd, a, b, d, e, g⟩ := c.ex
  ⟨f, fd, a, b.mono h, d, e, g⟩
end Z
namespace Z
open PySem PySem.Spec PyProof.Rows L2
open PySem.W (EachIs KeepsBut sortingHeap copyHeap)
/-- two steps deeper -/
abbrev a2 (X : Cx) : Cx := a1 (a1 X)
/-- the keys -/
def kdsOf (kd : Nat → PyData) (n : Nat) : List PyData := (List.range n).map kd
section
variable {X : Cx} {pins : List (Addr × Obj)} {σ : L2.St} {os : Os} {F0 : Hp} {l S D f : Addr} {xs : List V} {kd : Nat → PyData} {k : Nat} {fd : FuncData} {ps : List Str} {sp : Sp}
/-- the keys made so far -/
def KVals (F : Hp) (kd : Nat → PyData) (n : Nat) (vs : List Value) (i : Nat) : Prop := EachIs (fun (v : Value) (d : PyData) => ∃ uk, RelV uk v ∧ Dq F uk d) vs ((kdsOf kd n).take i)
theorem KVals.mono {F F' : Hp} {n i : Nat} {vs : List Value} (e : Same F F') (h : KVals F kd n vs i) : KVals F' kd n vs i := EachIs.mono (fun _ _ ⟨uk, r, d⟩ => ⟨uk, r, dq_mono e _ _ d⟩) h
end
end Z
namespace Z
open PySem PySem.Spec PyProof.Rows L2
/-- the one dict that stands for another kind of dict is left out -/
def okD : PyData → Bool
  | .dict ((.none, .none) :: _) => false
  | _ => true
def isiO (d : PyData) (T : String) : Option Bool := if okD d = true then some (isTy d T) else none
theorem kB_int (d : PyData) : kitB (tyName d) "int" = some (isTy d "int") := by cases d <;> (dsimp only [tyName, isTy]; decide +kernel)
theorem kB_bool (d : PyData) : kitB (tyName d) "bool" = some (isTy d "bool") := by cases d <;> (dsimp only [tyName, isTy]; decide +kernel)
theorem kB_list (d : PyData) : kitB (tyName d) "list" = some (isTy d "list") := by cases d <;> (dsimp only [tyName, isTy]; decide +kernel)
theorem kB_tuple (d : PyData) : kitB (tyName d) "tuple" = some (isTy d "tuple") := by cases d <;> (dsimp only [tyName, isTy]; decide +kernel)
theorem rc_isiD {X : Cx} {os : Os} {d : PyData} {T : String} {r : Bool} (hk : ∀ d : PyData, kitB (tyName d) T = some (isTy d T)) (h : isiO d T = some r) : RCX (rIsi X.K) [dat d, fun _ v => v = .ty T] os (dat (.bool r)) os := by
  unfold isiO at h
  by_cases z : okD d = true
  · rw [if_pos z] at h
    refine rc_isi (by rw [hk d]; exact h) fun ps e => ?_
    rw [e] at z
    cases z
  · rw [if_neg z] at h
    cases h
def asT : PyData → Option (List PyData)
  | .tuple ds => some ds
  | _ => none
def asL : PyData → Option (List PyData)
  | .list ds => some ds
  | _ => none
def asI : PyData → Option Int
  | .int i => some i
  | _ => none
def asP : PyData → Option (Int × Int)
  | .tuple [.int a, .int b] => some (a, b)
  | _ => none
theorem asT_eq {d : PyData} {ds : List PyData} (h : asT d = some ds) : d = PyData.tuple (List.map id ds) := by
  rw [List.map_id]
  cases d <;> first | (cases h; rfl) | cases h
theorem asL_eq {d : PyData} {ds : List PyData} (h : asL d = some ds) : d = PyData.list (List.map id ds) := by
  rw [List.map_id]
  cases d <;> first | (cases h; rfl) | cases h
theorem asI_eq {d : PyData} {i : Int} (h : asI d = some i) : d = PyData.int i := by
  cases d <;> first | (cases h; rfl) | cases h
theorem asP_eq {d : PyData} {p : Int × Int} (h : asP d = some p) : d = PyData.tuple [PyData.int p.1, PyData.int p.2] := by
  unfold asP at h
  split at h
  · cases h
    rfl
  · cases h
section
variable {X : Cx} {es : List Slot} {os : Os} {a b c d : Expr} {pos : Pos}
def tChain3 (r r' r'' : R2) (ta tb tc td : TE) : TE := fun σ H Q => ta σ H fun x H1 => tb σ H1 fun y H2 => r x y H2 fun z H3 => ∃ k, z = .bl k ∧
  (if k = true then tc σ H3 fun w H4 => r' y w H4 fun z' H5 => ∃ k', z' = .bl k' ∧ (if k' = true then td σ H5 fun u H6 => r'' w u H6 Q else Q (.bl false) H5) else Q (.bl false) H3)
theorem pe_chain3 {op op' op'' : CmpOp} {r r' r'' : R2} {ta tb tc td : TE} (ho : OpR X (compareOp op) r) (ho' : OpR X (compareOp op') r') (ho'' : OpR X (compareOp op'') r'') (ha : PE X a ta) (hb : PE X b tb) (hc : PE X c tc) (hd : PE X d td)
    (hm : lastMarks [op, op', op''] [b, c, d] = false := by with_unfolding_all rfl) : PE X (.Compare a [op, op', op''] [b, c, d] pos) (tChain3 r r' r'' ta tb tc td) := by
  refine ⟨fun pins s σ H Q I h => ?_⟩
  refine Compare_chain (thn (ha.run pins s σ H _ I h) fun v s1 ⟨x, H1, I1, r1, q1⟩ => chain_link (thn (hb.run pins s1 σ H1 _ I1 q1) fun u s2 ⟨y, H2, I2, r2, q2⟩ =>
    thn (ho pins s2 σ H2 x y v u _ I2 r1 r2 q2) fun d s3 ⟨z, H3, I3, r3, k, e, q3⟩ => ?_)) hm
  subst e
  cases r3
  refine wpAny_truthy_bool ?_
  cases k with
  | false => exact ite_ff ⟨.bl false, H3, I3, rfl, q3⟩
  | true =>
    refine ite_tt (chain_link (thn (hc.run pins s3 σ H3 _ I3 q3) fun w' s4 ⟨z', H4, I4, r4, q4⟩ => thn (ho' pins s4 σ H4 y z' u w' _ I4 r2 r4 q4) fun d' s5 ⟨z2, H5, I5, r5, k2, e2, q5⟩ => ?_))
    subst e2
    cases r5
    refine wpAny_truthy_bool ?_
    cases k2 with
    | false => exact ite_ff ⟨.bl false, H5, I5, rfl, q5⟩
    | true => exact ite_tt (chain_last (thn (hd.run pins s5 σ H5 _ I5 q5) fun w2 s6 ⟨z3, H6, I6, r6, q6⟩ => ho'' pins s6 σ H6 z' z3 w' w2 Q I6 r4 r6 q6))
theorem ex_chain3 {op op' op'' : CmpOp} {r r' r'' : R2} {φ ψ χ ω : VP} {k k' k'' : Bool} (ho : OpR X (compareOp op) r) (ho' : OpR X (compareOp op') r') (ho'' : OpR X (compareOp op'') r'') (hr : R2X X r φ ψ os (dat (.bool k))) (hr' : R2X X r' ψ χ os (dat (.bool k'))) (hr'' : R2X X r'' χ ω os (dat (.bool k'')))
    (ha : EX X es os a φ os) (hb : EX X es os b ψ os) (hc : EX X es os c χ os) (hd : EX X es os d ω os) (hlm : lastMarks [op, op', op''] [b, c, d] = false := by rfl) : EX X es os (.Compare a [op, op', op''] [b, c, d] pos) (dat (.bool (k && (k' && k'')))) os := fun F σ H Q ow sl q =>
  we_of (pe_chain3 ho ho' ho'' pe_u pe_u pe_u pe_u hlm) (ha F σ H _ ow sl fun F1 H1 x e1 o1 c1 => hb F1 σ H1 _ o1 (sl.mono e1) fun F2 H2 y e2 o2 c2 =>
    hr F2 H2 x y _ o2 (c1.mono e2) c2 fun F3 H3 v e3 o3 c3 => ⟨k, clv_bool c3, by
      have e := (e1.trans e2).trans e3
      cases k with
      | true =>
        rw [if_pos rfl]
        refine hc F3 σ H3 _ o3 (sl.mono e) fun F4 H4 z e4 o4 c4 => ?_
        refine hr' F4 H4 y z _ o4 ((c2.mono e3).mono e4) c4 fun F5 H5 v e5 o5 c5 => ⟨k', clv_bool c5, ?_⟩
        have e' := (e.trans e4).trans e5
        cases k' with
        | true =>
          rw [if_pos rfl]
          refine hd F5 σ H5 _ o5 (sl.mono e') fun F6 H6 u e6 o6 c6 => ?_
          exact hr'' F6 H6 z u Q o6 ((c4.mono e5).mono e6) c6 fun F7 H7 v e7 o7 c7 => q F7 H7 v ((e'.trans e6).trans e7) o7 (by simpa using c7)
        | false =>
          rw [if_neg Bool.false_ne_true]
          exact q F5 H5 _ e' o5 (cl_dat (.bl _))
      | false =>
        rw [if_neg Bool.false_ne_true]
        exact q F3 H3 _ e o3 (cl_dat (.bl _))⟩)
theorem pt_chain3 {op op' op'' : CmpOp} {r r' r'' : R2} {ta tb tc td : TE} (ho : OpR X (compareOp op) r) (ho' : OpR X (compareOp op') r') (ho'' : OpR X (compareOp op'') r'') (ha : PE X a ta) (hb : PE X b tb) (hc : PE X c tc) (hd : PE X d td)
    (hm : lastMarks [op, op', op''] [b, c, d] = false := by with_unfolding_all rfl) : PT X (.Compare a [op, op', op''] [b, c, d] pos) (tTest (tChain3 r r' r'' ta tb tc td)) := by
  refine ⟨fun pins s σ H Q I h => ?_⟩
  refine isTrue_chain (thn (ha.run pins s σ H _ I h) fun v s1 ⟨x, H1, I1, r1, q1⟩ => test_link (thn (hb.run pins s1 σ H1 _ I1 q1) fun u s2 ⟨y, H2, I2, r2, q2⟩ =>
    thn (ho pins s2 σ H2 x y v u _ I2 r1 r2 q2) fun d s3 ⟨z, H3, I3, r3, k, e, q3⟩ => ?_)) hm
  subst e
  cases r3
  refine wpAny_truthy_bool ?_
  cases k with
  | false =>
    obtain ⟨k', e', q'⟩ := q3
    cases e'
    exact ite_ff ⟨H3, I3, q'⟩
  | true =>
    refine ite_tt (test_link (thn (hc.run pins s3 σ H3 _ I3 q3) fun w' s4 ⟨z', H4, I4, r4, q4⟩ => thn (ho' pins s4 σ H4 y z' u w' _ I4 r2 r4 q4) fun d' s5 ⟨z2, H5, I5, r5, k2, e2, q5⟩ => ?_))
    subst e2
    cases r5
    refine wpAny_truthy_bool ?_
    cases k2 with
    | false =>
      obtain ⟨k', e', q'⟩ := q5
      cases e'
      exact ite_ff ⟨H5, I5, q'⟩
    | true =>
      refine ite_tt (test_last (thn (hd.run pins s5 σ H5 _ I5 q5) fun w2 s6 ⟨z3, H6, I6, r6, q6⟩ => thn (ho'' pins s6 σ H6 z' z3 w' w2 _ I6 r4 r6 q6) fun d2 s7 ⟨z4, H7, I7, r7, k3, e3, q7⟩ => ?_))
      subst e3
      cases r7
      exact wpAny_truthy_bool ⟨H7, I7, q7⟩
theorem tx_chain3 {op op' op'' : CmpOp} {r r' r'' : R2} {φ ψ χ ω : VP} {k k' k'' : Bool} (ho : OpR X (compareOp op) r) (ho' : OpR X (compareOp op') r') (ho'' : OpR X (compareOp op'') r'') (hr : R2X X r φ ψ os (dat (.bool k))) (hr' : R2X X r' ψ χ os (dat (.bool k'))) (hr'' : R2X X r'' χ ω os (dat (.bool k'')))
    (ha : EX X es os a φ os) (hb : EX X es os b ψ os) (hc : EX X es os c χ os) (hd : EX X es os d ω os) (hlm : lastMarks [op, op', op''] [b, c, d] = false := by rfl) : TX X es os (.Compare a [op, op', op''] [b, c, d] pos) (k && (k' && k'')) os := fun F σ H Q ow sl q =>
  wt_of (pt_chain3 ho ho' ho'' pe_u pe_u pe_u pe_u hlm) (ha F σ H _ ow sl fun F1 H1 x e1 o1 c1 => hb F1 σ H1 _ o1 (sl.mono e1) fun F2 H2 y e2 o2 c2 =>
    hr F2 H2 x y _ o2 (c1.mono e2) c2 fun F3 H3 v e3 o3 c3 => ⟨k, clv_bool c3, by
      have e := (e1.trans e2).trans e3
      cases k with
      | true =>
        rw [if_pos rfl]
        refine hc F3 σ H3 _ o3 (sl.mono e) fun F4 H4 z e4 o4 c4 => ?_
        refine hr' F4 H4 y z _ o4 ((c2.mono e3).mono e4) c4 fun F5 H5 v e5 o5 c5 => ⟨k', clv_bool c5, ?_⟩
        have e' := (e.trans e4).trans e5
        cases k' with
        | true =>
          rw [if_pos rfl]
          refine hd F5 σ H5 _ o5 (sl.mono e') fun F6 H6 u e6 o6 c6 => ?_
          exact hr'' F6 H6 z u _ o6 ((c4.mono e5).mono e6) c6 fun F7 H7 v e7 o7 c7 => ⟨k'', clv_bool c7, by simpa using q F7 H7 ((e'.trans e6).trans e7) o7⟩
        | false =>
          rw [if_neg Bool.false_ne_true]
          exact ⟨false, rfl, by simpa using q F5 H5 e' o5⟩
      | false =>
        rw [if_neg Bool.false_ne_true]
        exact ⟨false, rfl, by simpa using q F3 H3 e o3⟩⟩)
end
end Z
namespace Z
open PySem PySem.Spec PyProof.Rows L2
def reprE (d : PyData) : Option Str := match d with
  | .dict [] => some ("{}" : Str)
  | d => reprO d
section
variable {X : Cx} {k : Nat} {os : Os}
def rReprE (K : PySem.W.Frag) : List L2.V → Hp → VK → Prop := fun xs H Q => rRepr K xs H Q ∨ ∃ (a : Addr) (o : Obj), xs = [.ref a] ∧ H a = some (.frz o (.dK [])) ∧ Q (.str ("{}" : Str)) H
theorem call_reprE (gd : X.A.guards = some []) (room : Room k X.A) : CallR X (.builtin "repr") (rReprE X.K) := by
  intro pins s σ H vs us Q I r h
  rcases h with h | ⟨a, o, rfl, hd, q⟩
  · exact call_repr gd room pins s σ H vs us Q I r h
  · obtain ⟨u, rfl, ru⟩ := vals1 r
    obtain rfl : u = Value.ref _ := ru
    have un := room.un
    obtain ⟨hs, hg, hx, es, ep, _, hdt, hsz, _⟩ := I.frzK hd
    have hes : es = #[] := Array.eq_empty_of_size_eq_zero hsz
    subst hes
    have hr : Reads s.heap (.ref a) (.dict []) (a :: [] ++ []) := .dict hg hx.1 hdt .nil .nil
    have e : (PyData.dict []).shown = ("{}" : Str) := by decide +kernel
    have q' : Q (.str (PyData.dict []).shown) H := by rw [e]; exact q
    have hdp : (PyData.dict []).depth ≤ 5 := by decide +kernel
    refine repr_of_reads' hr (by decide +kernel) (fun _ z => ?_) gd (by omega) (fun _ _ e => e) (fun h' tk t' hk => ⟨.str _, H, I.kept hk, ⟨_, rfl⟩, q'⟩) (by rw [e]; decide +kernel)
    have z : sysModules = a := by simpa using z
    rw [← z] at hs
    simp at hs
theorem rc_reprE {d : PyData} {t : Str} (h : reprE d = some t) : RCX (rReprE X.K) [dat d] os (dat (.str t)) os := fun F H vs Q ow c q => by
  by_cases z : d = .dict []
  · subst z
    have h : some ("{}" : Str) = some t := h
    cases h
    obtain ⟨v, rfl, h⟩ := cla1 c
    have hd := h.now
    generalize hv : PyData.dict [] = d at hd
    cases hd with
    | @dctK a o kvs ps k1 k2 k3 =>
      cases hv
      have : kvs = [] := by simpa using k2
      subst this
      exact .inr ⟨a, o, rfl, ow.ex _ _ k1, q F H _ (Same.refl F) ow (cl_dat (.str _))⟩
    | _ => cases hv
  · have h : reprO d = some t := by
      unfold reprE at h
      split at h
      · exact absurd rfl z
      · exact h
    exact .inl (rc_repr h F H vs Q ow c q)
end
end Z
namespace Z
open PySem PySem.Spec PyProof.Rows L2
section
variable {X : Cx} {es : List Slot} {os os1 : Os} {F0 : Hp} {rest z : List Stmt} {D : Ends} {N V G W : List Str} {k i vi : Nat} {x : Str} {p pos pos' : Pos} {e : Expr} {n : Ent}
theorem sx_asgNG (B : Bd X N W G k) (T : Bt X V) (hi : N[i]? = some x) (hv : V[vi]? = some x) (he : EN X es os e n os1) (h : ∀ p z, z = rest → SX X (es.set i (sl (own p))) ((p, n) :: os1) F0 z D) (hs : swapsWith e (some (.Name x pos')) pos.line X.env = pure false := by rfl) :
    SX X es os F0 (.Assign [.Name x pos'] e pos :: rest) D := sx_asgN B T hi hv he (fun p => h p rest rfl) hs
theorem sx_asgVG {φ : VP} (B : Bd X N W G k) (T : Bt X V) (hi : N[i]? = some x) (hv : V[vi]? = some x) (he : EX X es os e φ os1) (h : ∀ z, z = rest → SX X (es.set i (sl φ)) os1 F0 z D) (hs : swapsWith e (some (.Name x pos')) pos.line X.env = pure false := by rfl) :
    SX X es os F0 (.Assign [.Name x pos'] e pos :: rest) D := sx_asg B T hi hv he (h rest rfl) hs
theorem ax_consZ {as2 : List Expr} {as : List Expr} {a : Expr} {os2 : Os} {φ : VP} {φs : List VP} (hz : as2 = a :: as) (h : EX X es os a φ os1) (t : ∀ z, z = as → AX X es os1 z φs os2) (hs : starEach (a :: as) X.env = (false, eval a X.env) :: starEach as X.env := by rfl) : AX X es os as2 (φ :: φs) os2 := by
  subst hz
  exact ax_cons h (t as rfl) hs
theorem ax_nilZ {as2 : List Expr} (hz : as2 = []) : AX X es os as2 [] os := by
  subst hz
  exact ax_nil
theorem hs_lst {as : List Expr} {lpos : Pos} : ∀ x, foldedSetIterable (.List as lpos) X.env x = pure x := by
  intro _
  rfl
theorem sx_forL {S γ : Type} {tg : Expr} {as : List Expr} {body : List Stmt} {ds : List PyData} {up : PyData → List Slot → List Slot} {lpos fpos : Pos} (hz : z = .For tg (.List as lpos) body [] fpos :: rest) (f : S → PyData → Option S) (ES : S → γ → List Slot) (OS : S → γ → Os)
    (B : Bd X N W G k) (T : Bt X V) (hg : ∀ x, GX X tg (dat x) (up x)) (s0 : S) (g0 : γ) (fin : S) (hl : lp f ds s0 = some fin) (ha : ∀ z, z = as → AX X es os z (ds.map dat) (OS s0 g0)) (hd : ds.length ≤ sizeLine) (h0 : Wk es (ES s0 g0))
    (hb : ∀ F1, Same F0 F1 → ∀ s g x s', x ∈ ds → f s x = some s' → SX X (up x (ES s g)) (OS s g) F1 body (LgD F1 ES OS s'))
    (hn : ∀ g z, z = rest → SX X (ES fin g) (OS fin g) F0 z D) : SX X es os F0 z D := by
  subst hz
  have hi : IX X tg es os (.List as lpos) ds (fun x => dat (id x)) anyOs (OS s0 g0) := ix_list (enc := id) (c := anyOs) (EN.ex (by rw [List.map_id]; exact en_lst (ha as rfl) hd)) (fun _ _ => rdl_dat) trivial
  exact sx_for (c := anyOs) f ES OS B T hg s0 g0 fin hl hi h0 (fun _ _ => trivial) hb (fun g => hn g rest rfl) hs_lst
end
end Z
namespace L12
open PySem PySem.Spec L2 Z
/-- straightened -/
def m_p_straightened (walk : (List Int)) : Option (List Int) :=
  ((lp (fun (s1 : (List Int)) (step2 : Int) => ((if (decide (0 < (s1.length : Int))) = true then ((idx s1 (-1)).bind fun t6 => some (decide (t6 = (-step2)))) else some false).bind fun t7 => ((if t7 = true then ((popO s1).bind fun t8 => some t8.2) else ((appO s1 step2).bind fun t9 => some t9) : Option (List Int)).bind fun s10 => some s10))) walk ([] : (List Int))).bind fun f3 => some f3)
/-- is_integer -/
def m_p_is_integer (value : Int) : Option Bool :=
  some (true && true)
/-- is_integer -/
def m_p_is_integer_d (value : PyData) : Option Bool :=
  ((isiO value "int").bind fun t1 => (if t1 = true then ((isiO value "bool").bind fun t2 => some (!t2)) else some false).bind fun t3 => some t3)
/-- is_letters -/
def m_p_is_letters (value : Int) : Option Bool :=
  ((m_p_is_integer value).bind fun t1 => some (t1 && (decide (1 ≤ value) && decide (value ≤ 4))))
/-- is_step -/
def m_p_is_step (value : Int) (letters : Int) : Option Bool :=
  ((m_p_is_integer value).bind fun t1 => some (t1 && (decide (1 ≤ (absI value)) && decide ((absI value) ≤ letters))))
/-- is_a_walk -/
def m_p_is_a_walk (value : (List Int)) (letters : Int) : Option Bool :=
  ((if true = true then ((lcO (β := Bool) (fun (step1 : Int) => ((m_p_is_step step1 letters).bind fun t3 => some t3)) value).bind fun t4 => some (t4.all id)) else some false).bind fun t5 => some t5)
/-- need_letters -/
def m_p_need_letters (letters : Int) : Option Unit :=
  ((m_p_is_letters letters).bind fun t1 => (if (!t1) = true then none else some ()))
/-- need_walk -/
def m_p_need_walk (walk : (List Int)) (letters : Int) : Option Unit :=
  ((m_p_is_a_walk walk letters).bind fun t1 => (if (!t1) = true then none else some ()))
/-- need_walks -/
def m_p_need_walks (walks : (List (List Int))) (letters : Int) : Option Unit :=
  ((lp (fun (s1 : Unit) (walk2 : (List Int)) => ((m_p_need_walk walk2 letters).bind fun t6 => some ())) walks ()).bind fun f3 => some ())
/-- head_of -/
def m_p_head_of (w_heads : (List Int)) (room : Int) : Option (Int × (List Int)) :=
  ((wh (fun (s1 : Int) => ((idx w_heads s1).bind fun t3 => some (!decide (t3 = s1)))) (fun (s1 : Int) => (((idx w_heads s1).bind fun t6 => some (Step.go t6)) : Option (Step (Int × (List Int)) Int))) 10000 room).bind fun f2o => Sum.elim (fun r7 => none) (fun f2 => some (f2, w_heads)) f2o)
/-- petals_of -/
def m_p_petals_of (walks : (List (List Int))) : Option (Int × (List (Tri Int Int Int))) :=
  ((lp (fun (s2 : (Int × (List (Tri Int Int Int)))) (walk3 : (List Int)) => ((lp (fun (s7 : (Int × Int × (List (Tri Int Int Int)))) (x8 : (Int × Int)) => ((if (decide (x8.1 < ((walk3.length : Int) - 1))) = true then some ((s7.1 + 1), s7.1) else some (s7.1, 0) : Option (Int × Int)).bind fun s12 => ((appO s7.2.2 (if (decide (0 < x8.2)) = true then (Tri.mk s7.2.1 x8.2 s12.2) else (Tri.mk s12.2 (-x8.2) s7.2.1))).bind fun t13 => some (s12.1, s12.2, t13)))) (enum walk3) (s2.1, 0, s2.2)).bind fun f9 => some (f9.1, f9.2.2))) walks (1, ([] : (List (Tri Int Int Int))))).bind fun f4 => some (f4.1, f4.2))
/-- petals -/
def m_p_petals (letters : Int) (walks : (List (List Int))) : Option (Int × (List (Tri Int Int Int))) :=
  ((m_p_need_letters letters).bind fun t1 => ((m_p_need_walks walks letters).bind fun t2 => ((lcO (β := (List Int)) (fun (walk3 : (List Int)) => ((m_p_straightened walk3).bind fun t5 => some t5)) walks).bind fun t6 => (m_p_petals_of t6).bind fun t7 => some t7)))
/-- is_pair -/
def m_p_is_pair (value : (Int × Int)) (many : Int) : Option Bool :=
  ((if false = true then some true else ((if (!decide (2 = 2)) = true then some true else ((lcO (β := Bool) (fun (number1 : Int) => ((m_p_is_integer number1).bind fun t3 => some t3)) ([value.1, value.2])).bind fun t4 => some (!(t4.all id)))).bind fun t5 => some t5)).bind fun t6 => (if t6 = true then some false else some (decide (0 ≤ value.1) && (decide (value.1 < value.2) && decide (value.2 < many)))))
/-- is_pair -/
def m_p_is_pair_d (value : PyData) (many : Int) : Option Bool :=
  ((isiO value "tuple").bind fun t1 => (if (!t1) = true then some true else ((asT value).bind fun t2 => (if (!decide ((t2.length : Int) = 2)) = true then some true else ((asT value).bind fun t3 => (lcO (β := Bool) (fun (number4 : PyData) => ((m_p_is_integer_d number4).bind fun t6 => some t6)) t3).bind fun t7 => some (!(t7.all id)))).bind fun t8 => some t8)).bind fun t9 => (if t9 = true then some false else ((asT value).bind fun t10 => (idx t10 0).bind fun t11 => (asT value).bind fun t12 => (idx t12 1).bind fun t13 => (asI t11).bind fun t14 => (asI t13).bind fun t15 => some (decide (0 ≤ t14) && (decide (t14 < t15) && decide (t15 < many))))))
/-- unlike_ends -/
def m_p_unlike_ends (w_heads : (List Int)) (one : (Tri Int Int Int)) (other : (Tri Int Int Int)) : Option ((Option (Int × Int)) × (List Int)) :=
  (if (!decide (one.b = other.b)) = true then some (none, w_heads) else ((m_p_head_of w_heads one.a).bind fun t1 => (m_p_head_of t1.2 other.a).bind fun t2 => ((m_p_head_of t2.2 one.c).bind fun t3 => (m_p_head_of t3.2 other.c).bind fun t4 => (if ((decide ((t1.1, t2.1).1 = (t1.1, t2.1).2)) && (!decide ((t3.1, t4.1).1 = (t3.1, t4.1).2))) = true then some ((some ((t3.1, t4.1) : (Int × Int))), t4.2) else (if ((decide ((t3.1, t4.1).1 = (t3.1, t4.1).2)) && (!decide ((t1.1, t2.1).1 = (t1.1, t2.1).2))) = true then some ((some ((t1.1, t2.1) : (Int × Int))), t4.2) else some (none, t4.2))))))
/-- is_settled -/
def m_p_is_settled (w_heads : (List Int)) (ways : (List (Tri Int Int Int))) : Option (Bool × (List Int)) :=
  ((lpR (fun (s1 : ((List ((Int × Int) × Int)) × (List Int))) (x2 : (Tri Int Int Int)) => (((m_p_head_of s1.2 x2.a).bind fun t6 => (m_p_head_of t6.2 x2.c).bind fun t7 => ((dSetO s1.1 (t6.1, x2.b) t7.1).bind fun t8 => (if (!decide (t8.1 = t7.1)) = true then some (true, t8.2) else ((dSetO t8.2 (t7.1, (-x2.b)) t6.1).bind fun t9 => some ((!decide (t9.1 = t6.1)), t9.2))).bind fun t10 => (if t10.1 = true then some (Step.ret (false, t7.2)) else some (Step.go (t10.2, t7.2))))) : Option (Step (Bool × (List Int)) ((List ((Int × Int) × Int)) × (List Int))))) ways (([] : (List ((Int × Int) × Int))), w_heads)).bind fun f3o => Sum.elim (fun r12 => some r12) (fun f3 => some (true, f3.2)) f3o)
/-- joinings_hold -/
def m_p_joinings_hold (letters : Int) (walks : (List (List Int))) (value : (List (Int × Int))) : Option Bool :=
  ((m_p_petals letters walks).bind fun t1 => (((rgO 0 t1.1).bind fun t2 => ((lpR (fun (s3 : (List Int)) (pair4 : (Int × Int)) => (((m_p_is_pair pair4 (t1.2.length : Int)).bind fun t8 => (if (!t8) = true then some (Step.ret false) else ((idx t1.2 pair4.1).bind fun t9 => (idx t1.2 pair4.2).bind fun t10 => (m_p_unlike_ends s3 t9 t10).bind fun t11 => (match t11.1 with | none => (some (Step.ret false)) | some rooms12 => (((minO ([rooms12.1, rooms12.2])).bind fun t13 => (maxO ([rooms12.1, rooms12.2])).bind fun t14 => (setO t11.2 t14 t13).bind fun t15 => some (Step.go t15))))))) : Option (Step Bool (List Int)))) value t2).bind fun f5o => Sum.elim (fun r18 => some r18) (fun f5 => ((m_p_is_settled f5 t1.2).bind fun t17 => some t17.1)) f5o))))
/-- joinings_hold -/
def m_p_joinings_hold_d (letters : Int) (walks : (List (List Int))) (value : PyData) : Option Bool :=
  ((m_p_petals letters walks).bind fun t1 => ((isiO value "list").bind fun t2 => (if (!t2) = true then some false else ((rgO 0 t1.1).bind fun t3 => ((asL value).bind fun t4 => ((lpR (fun (s5 : (List Int)) (pair6 : PyData) => (((m_p_is_pair_d pair6 (t1.2.length : Int)).bind fun t10 => (if (!t10) = true then some (Step.ret false) else ((asP pair6).bind fun t11 => (idx t1.2 t11.1).bind fun t12 => (asP pair6).bind fun t13 => (idx t1.2 t13.2).bind fun t14 => (m_p_unlike_ends s5 t12 t14).bind fun t15 => (match t15.1 with | none => (some (Step.ret false)) | some rooms16 => (((minO ([rooms16.1, rooms16.2])).bind fun t17 => (maxO ([rooms16.1, rooms16.2])).bind fun t18 => (setO t15.2 t18 t17).bind fun t19 => some (Step.go t19))))))) : Option (Step Bool (List Int)))) t4 t3).bind fun f7o => Sum.elim (fun r22 => some r22) (fun f7 => ((m_p_is_settled f7 t1.2).bind fun t21 => some t21.1)) f7o))))))
/-- _law_well -/
def m_l_well (script : (List Int)) (k_ : Int) : Option (List Int) :=
  ((if (decide (k_ < (script.length : Int))) = true then ((idx script k_).bind fun t1 => some t1) else some ((7 * k_) + 3)).bind fun t2 => ((lp (fun (s3 : Int) (x4 : (Int × Int)) => ((mulW x4.2 (x4.1 + 3)).bind fun t8 => (some (((s3 * 31) + t8) % 10000000000000000000000000000000000000121)).bind fun total9 => some total9)) (enum script) 0).bind fun f5 => some [(maxI 0 (t2 - 1000000000000000000)), ((((t2 * 8191) + f5) + (524287 * k_)) % 100000000000000000000000000000000000000011), 0]))
/-- _law_take -/
def m_l_take (w_well_here : (List Int)) (many : Int) : Option (Int × (List Int)) :=
  ((idx w_well_here 0).bind fun t1 => (if (decide (0 < t1)) = true then ((idx w_well_here 0).bind fun t2 => (modO t2 many).bind fun t3 => ((idx w_well_here 0).bind fun t4 => (fdivO t4 many).bind fun t5 => (setO w_well_here 0 t5).bind fun t6 => some (t3, t6))) else ((idx w_well_here 2).bind fun t7 => (setO w_well_here 2 (t7 + 1)).bind fun t8 => ((idx t8 1).bind fun t9 => (idx t8 2).bind fun t10 => (powO (t9 + (86028121 * t10)) 3).bind fun t11 => ((idx t8 2).bind fun t12 => (powO ((t11 % 10000000000000000000000000000000000000000057) + (6700417 * t12)) 2).bind fun t13 => (some ((t13 + (t11 % 10000000000000000000000000000000000000000057)) % 1000000000000000000000000000000000000000063)).bind fun mixed14 => ((modO (mixed14 / 999983) many).bind fun t16 => some (t16, t8)))))))
/-- _law_straight -/
def m_l_straight (walk_here : (List Int)) : Option (List Int) :=
  ((lp (fun (s1 : (List Int)) (step2 : Int) => ((if (!decide (s1 = ([] : (List Int)))) = true then ((idx s1 (-1)).bind fun t6 => some (decide (t6 = (0 - step2)))) else some false).bind fun t7 => ((if t7 = true then ((popO s1).bind fun t8 => some t8.2) else ((appO s1 step2).bind fun t9 => some t9) : Option (List Int)).bind fun s10 => some s10))) walk_here ([] : (List Int))).bind fun f3 => some f3)
/-- _law_steps -/
def m_l_steps (letters : Int) : Option (List Int) :=
  ((rngO 1 (letters + 1)).bind fun t1 => ((lp (fun (s2 : (List Int)) (letter3 : Int) => ((catO (α := Int) s2 ([letter3, (0 - letter3)])).bind fun t7 => some t7)) t1 ([] : (List Int))).bind fun f4 => some f4))
/-- _law_walk -/
def m_l_walk (w_well_here : (List Int)) (letters : Int) (most : Int) : Option ((List Int) × (List Int)) :=
  ((m_l_steps letters).bind fun t1 => ((m_l_take w_well_here 4).bind fun t3 => ((m_l_take t3.2 (most + 1)).bind fun t4 => (rngO 0 t4.1).bind fun t5 => ((lp (fun (s6 : ((List Int) × (List Int))) (turn7 : Int) => ((m_l_take s6.1 (t1.length : Int)).bind fun t11 => (idx t1 t11.1).bind fun t12 => ((if (!(decide (t3.1 = 0))) = true then ((if (!decide (s6.2 = ([] : (List Int)))) = true then ((idx s6.2 (-1)).bind fun t13 => some (decide (t13 = (0 - t12)))) else some false).bind fun t14 => some t14) else some false).bind fun t15 => ((if t15 = true then some (0 - t12) else some t12 : Option Int).bind fun s16 => ((appO s6.2 s16).bind fun t17 => some (t11.2, t17)))))) t5 (t4.2, ([] : (List Int)))).bind fun f8 => some (f8.2, f8.1)))))
/-- _law_petals -/
def m_l_petals (walks : (List (List Int))) : Option (Int × (List (Tri Int Int Int))) :=
  ((lp (fun (s2 : (Int × (List (Tri Int Int Int)))) (walk_here3 : (List Int)) => ((m_l_straight walk_here3).bind fun t7 => ((rgO s2.1 ((s2.1 + (t7.length : Int)) - 1)).bind fun t8 => (catO (α := Int) ([0]) t8).bind fun t9 => (catO (α := Int) t9 ([0])).bind fun t10 => ((lp (fun (s11 : (List (Tri Int Int Int))) (x12 : (Int × Int)) => ((if (decide (0 < x12.2)) = true then ((idx t10 x12.1).bind fun t16 => (idx t10 (x12.1 + 1)).bind fun t17 => (appO s11 (Tri.mk t16 x12.2 t17)).bind fun t18 => some t18) else ((idx t10 (x12.1 + 1)).bind fun t19 => (idx t10 x12.1).bind fun t20 => (appO s11 (Tri.mk t19 (0 - x12.2) t20)).bind fun t21 => some t21) : Option (List (Tri Int Int Int))).bind fun s22 => some s22)) (enum t7) s2.2).bind fun f13 => some ((s2.1 + (maxI 0 ((t7.length : Int) - 1))), f13))))) walks (1, ([] : (List (Tri Int Int Int))))).bind fun f4 => some (f4.1, f4.2))
/-- _law_joined -/
def m_l_joined (heads : (List Int)) (one : (Tri Int Int Int)) (other : (Tri Int Int Int)) : Option (List Int) :=
  ((idx heads one.a).bind fun t1 => (idx heads other.a).bind fun t2 => (idx heads one.c).bind fun t3 => (idx heads other.c).bind fun t4 => ((if (!decide (one.b = other.b)) = true then some true else ((idx ([t1, t2]) 0).bind fun t5 => (idx ([t1, t2]) 1).bind fun t6 => (idx ([t3, t4]) 0).bind fun t7 => (idx ([t3, t4]) 1).bind fun t8 => some (decide ((decide (t5 = t6)) = (decide (t7 = t8)))))).bind fun t9 => (if t9 = true then some ([] : (List Int)) else ((idx ([t1, t2]) 0).bind fun t10 => (idx ([t1, t2]) 1).bind fun t11 => some (if (decide (t10 = t11)) = true then [t3, t4] else [t1, t2])))))
/-- _law_with -/
def m_l_with (heads : (List Int)) (rooms : (List Int)) : Option (List Int) :=
  ((lcO (β := Int) (fun (head1 : Int) => ((maxO rooms).bind fun t3 => (if (decide (head1 = t3)) = true then ((minO rooms).bind fun t4 => some t4) else some head1).bind fun t5 => some t5)) heads).bind fun t6 => some t6)
/-- _law_settled -/
def m_l_settled (heads : (List Int)) (ways : (List (Tri Int Int Int))) : Option Bool :=
  ((lpR (fun (s1 : (List ((Int × Int) × Int))) (x2 : (Tri Int Int Int)) => (((idx heads x2.a).bind fun t6 => (idx heads x2.c).bind fun t7 => (dSetO s1 (t6, x2.b) t7).bind fun t8 => (idx heads x2.c).bind fun t9 => (if (!decide (t8.1 = t9)) = true then some (Step.ret false) else ((idx heads x2.c).bind fun t10 => (idx heads x2.a).bind fun t11 => (dSetO t8.2 (t10, (0 - x2.b)) t11).bind fun t12 => (idx heads x2.a).bind fun t13 => (if (!decide (t12.1 = t13)) = true then some (Step.ret false) else some (Step.go t12.2))))) : Option (Step Bool (List ((Int × Int) × Int))))) ways ([] : (List ((Int × Int) × Int)))).bind fun f3o => Sum.elim (fun r15 => some r15) (fun f3 => some true) f3o)
/-- _law_holds -/
def m_l_holds (rooms : Int) (ways : (List (Tri Int Int Int))) (pairs : (List (Int × Int))) : Option (List Int) :=
  ((rgO 0 rooms).bind fun t1 => ((lpR (fun (s2 : (List Int)) (x3 : (Int × Int)) => ((if (!(decide (0 ≤ x3.1) && (decide (x3.1 < x3.2) && decide (x3.2 < (ways.length : Int))))) = true then some (Step.ret ([] : (List Int))) else ((idx ways x3.1).bind fun t7 => (idx ways x3.2).bind fun t8 => (m_l_joined s2 t7 t8).bind fun t9 => (if (decide (t9 = ([] : (List Int)))) = true then some (Step.ret ([] : (List Int))) else ((m_l_with s2 t9).bind fun t10 => some (Step.go t10))))) : Option (Step (List Int) (List Int)))) pairs t1).bind fun f4o => Sum.elim (fun r13 => some r13) (fun f4 => ((m_l_settled f4 ways).bind fun t12 => some (if t12 = true then f4 else ([] : (List Int))))) f4o))
/-- _law_drawn -/
def m_l_drawn (w_well_here : (List Int)) (rooms : Int) (ways : (List (Tri Int Int Int))) : Option ((List (Int × Int)) × (List Int)) :=
  ((rgO 0 rooms).bind fun t1 => ((rngO 0 (ways.length : Int)).bind fun t3 => ((lp (fun (s4 : (List (Int × Int))) (second5 : Int) => ((rngO 0 second5).bind fun t9 => (lcG (β := (Int × Int)) (fun (k_10 : Int) => ((idx ways k_10).bind fun t12 => (idx ways second5).bind fun t13 => if (decide (t12.b = t13.b)) = true then some (some (k_10, second5)) else some none)) t9).bind fun t14 => (catO (α := (Int × Int)) s4 t14).bind fun t15 => some t15)) t3 ([] : (List (Int × Int)))).bind fun f6 => ((rngO 0 rooms).bind fun t17 => ((lpR (fun (s18 : ((List Int) × (List (Int × Int)) × (List Int))) (turn19 : Int) => (((lcG (β := (Int × Int)) (fun (pair23 : (Int × Int)) => ((idx ways pair23.1).bind fun t25 => (idx ways pair23.2).bind fun t26 => (m_l_joined s18.1 t25 t26).bind fun t27 => if (!decide (t27 = ([] : (List Int)))) = true then some (some pair23) else some none)) f6).bind fun t28 => (if (decide (t28 = ([] : (List (Int × Int))))) = true then some (Step.ret (s18.2.1, s18.2.2)) else ((m_l_take s18.2.2 (t28.length : Int)).bind fun t29 => (idx t28 t29.1).bind fun t30 => ((appO s18.2.1 t30).bind fun t31 => ((idx ways t30.1).bind fun t32 => (idx ways t30.2).bind fun t33 => (m_l_joined s18.1 t32 t33).bind fun t34 => (m_l_with s18.1 t34).bind fun t35 => some (Step.go (t35, t31, t29.2))))))) : Option (Step ((List (Int × Int)) × (List Int)) ((List Int) × (List (Int × Int)) × (List Int))))) t17 (t1, ([] : (List (Int × Int))), w_well_here)).bind fun f20o => Sum.elim (fun r37 => some r37) (fun f20 => some (f20.2.1, f20.2.2)) f20o)))))
/-- _law_list -/
def m_l_list (w_well_here : (List Int)) (letters : Int) (many : Int) (most : Int) : Option ((List (List Int)) × (List Int)) :=
  ((m_l_take w_well_here (many + 1)).bind fun t1 => (rngO 0 t1.1).bind fun t2 => ((lp (fun (s3 : ((List Int) × (List (List Int)))) (turn4 : Int) => ((m_l_walk s3.1 letters most).bind fun t8 => ((if (!decide (s3.2 = ([] : (List (List Int))))) = true then ((m_l_take t8.2 2).bind fun t9 => some ((decide (t9.1 = 0)), t9.2)) else some (false, t8.2)).bind fun t10 => ((if t10.1 = true then ((m_l_take t10.2 (s3.2.length : Int)).bind fun t11 => (idx s3.2 t11.1).bind fun t12 => ((m_l_take t11.2 ((t12.length : Int) + 1)).bind fun t13 => ((catO (α := Int) (cut t12 none (some t13.1)) t8.1).bind fun t14 => (catO (α := Int) t8.1 (cut t12 (some t13.1) none)).bind fun t15 => (catO (α := Int) (cut t12 (some t13.1) none) (cut t12 none (some t13.1))).bind fun t16 => (catO (α := Int) t12 (cut t12 none (some t13.1))).bind fun t17 => (m_l_take t13.2 4).bind fun t18 => (idx ([t14, t15, t16, t17]) t18.1).bind fun t19 => some (t19, t18.2)))) else some (t8.1, t10.2) : Option ((List Int) × (List Int))).bind fun s20 => ((appO s3.2 (cut s20.1 none (some most))).bind fun t21 => some (s20.2, t21)))))) t2 (t1.2, ([] : (List (List Int))))).bind fun f5 => some (f5.2, f5.1)))
/-- _law_in -/
def m_l_in (right_here : (List (Int × Int))) (at_ : Int) (entry : (Int × Int)) : Option (List (Int × Int)) :=
  ((catO (α := (Int × Int)) (cut right_here none (some at_)) ([entry])).bind fun t1 => (catO (α := (Int × Int)) t1 (cut right_here (some at_) none)).bind fun t2 => some t2)
/-- _law_in -/
def m_l_in_d (right_here : (List PyData)) (at_ : Int) (entry : PyData) : Option (List PyData) :=
  ((catO (α := PyData) (cut right_here none (some at_)) ([entry])).bind fun t1 => (catO (α := PyData) t1 (cut right_here (some at_) none)).bind fun t2 => some t2)
/-- _law_numbers -/
def m_l_numbers (w_well_here : (List Int)) (right_here : (List (Int × Int))) (many : Int) : Option ((List (List (Int × Int))) × (List Int)) :=
  ((m_l_take w_well_here ((right_here.length : Int) + 1)).bind fun t1 => ((m_l_take t1.2 (many + 1)).bind fun t2 => (m_l_take t2.2 (many + 2)).bind fun t3 => ((m_l_in right_here t1.1 (t2.1, t3.1)).bind fun t4 => (m_l_in right_here t1.1 ((-1), 0)).bind fun t5 => (m_l_in right_here t1.1 (0, many)).bind fun t6 => ((m_l_in right_here t1.1 (t1.1, t1.1)).bind fun t7 => (catO (α := (List (Int × Int))) ([right_here, t4, t5, t6]) ([t7, right_here.reverse, [(t2.1, t3.1)], ([] : (List (Int × Int)))])).bind fun t8 => ((if (!decide (right_here = ([] : (List (Int × Int))))) = true then ((m_l_take t3.2 (right_here.length : Int)).bind fun t9 => (m_l_take t9.2 (right_here.length : Int)).bind fun t10 => ((idx right_here t9.1).bind fun t11 => ((catO (α := (Int × Int)) (cut right_here none (some t9.1)) (cut right_here (some (t9.1 + 1)) none)).bind fun t12 => ((m_l_in right_here t10.1 t11).bind fun t13 => (m_l_in t12 t9.1 (t11.2, t11.1)).bind fun t14 => (catO (α := (List (Int × Int))) t8 ([t12, t13, t14])).bind fun t15 => ((m_l_in t12 t10.1 t11).bind fun t16 => (m_l_in t12 t9.1 (t2.1, t3.1)).bind fun t17 => (m_l_in t12 t9.1 (t11.1, (t11.2 + 1))).bind fun t18 => (catO (α := (List (Int × Int))) t15 ([t16, t17, t18])).bind fun t19 => ((m_l_in t12 t9.1 ((t11.1 - many), t11.2)).bind fun t20 => (m_l_in t12 t9.1 (t11.1, t11.1)).bind fun t21 => (catO (α := (List (Int × Int))) t19 ([t20, t21])).bind fun t22 => some (t9.1, t22, t10.2))))))) else some (t1.1, t8, t3.2) : Option (Int × (List (List (Int × Int))) × (List Int))).bind fun s23 => some (s23.2.1, s23.2.2))))))
/-- _law_no_lists -/
def m_l_no_lists (w_well_here : (List Int)) (right_here : (List (Int × Int))) : Option ((List PyData) × (List Int)) :=
  ((m_l_take w_well_here ((right_here.length : Int) + 1)).bind fun t1 => ((lp (fun (s2 : (List PyData)) (entry3 : PyData) => ((m_l_in_d (List.map (eP PyData.int PyData.int) right_here) t1.1 entry3).bind fun t7 => (appO s2 (PyData.list (List.map id t7))).bind fun t8 => some t8)) ([(PyData.list []), (PyData.tuple []), (PyData.tuple [(PyData.int 0)]), (PyData.tuple [(PyData.int 0), (PyData.int 1), (PyData.int 2)]), PyData.none, (PyData.int 0), (PyData.str ("01" : Str)), (PyData.tuple [(PyData.tuple [(PyData.int 0), (PyData.int 1)])]), (PyData.tuple [(PyData.int 0), (PyData.str ("1" : Str))]), (PyData.tuple [PyData.none, (PyData.int 1)]), (PyData.tuple [(PyData.bool false), (PyData.int 1)]), (PyData.tuple [(PyData.int 0), (PyData.tuple [(PyData.int 1)])])]) ([(PyData.tuple (List.map (eP PyData.int PyData.int) right_here)), PyData.none, (PyData.int (right_here.length : Int)), (PyData.str ("[]" : Str)), (Kd.pd kI (eM PyData.int ([] : (List (Int × Int))))), (PyData.tuple [(PyData.list (List.map (eP PyData.int PyData.int) right_here)), (PyData.list (List.map (eP PyData.int PyData.int) right_here))]), (PyData.list [(PyData.list (List.map (eP PyData.int PyData.int) right_here))]), (PyData.bool true)])).bind fun f4 => ((if (!decide (right_here = ([] : (List (Int × Int))))) = true then ((m_l_take t1.2 (right_here.length : Int)).bind fun t10 => ((idx right_here t10.1).bind fun t11 => ((catO (α := (Int × Int)) (cut right_here none (some t10.1)) (cut right_here (some (t10.1 + 1)) none)).bind fun t12 => ((strO t11.1).bind fun t13 => ((lp (fun (s14 : (List PyData)) (entry15 : PyData) => ((m_l_in_d (List.map (eP PyData.int PyData.int) t12) t10.1 entry15).bind fun t19 => (appO s14 (PyData.list (List.map id t19))).bind fun t20 => some t20)) ([(PyData.list [(PyData.int t11.1), (PyData.int t11.2)]), (PyData.tuple [(PyData.int t11.1), (PyData.int t11.2), (PyData.int t11.2)]), (PyData.tuple [(PyData.int t11.2)]), (PyData.tuple [(PyData.str t13), (PyData.int t11.2)]), (PyData.tuple [(PyData.int t11.1), (PyData.list [(PyData.int t11.2)])])]) f4).bind fun f16 => ((if (decide (t11.1 < 2)) = true then ((m_l_in_d (List.map (eP PyData.int PyData.int) t12) t10.1 (PyData.tuple [(PyData.bool (decide (t11.1 = 1))), (PyData.int t11.2)])).bind fun t22 => (appO f16 (PyData.list (List.map id t22))).bind fun t23 => some t23) else some f16 : Option (List PyData)).bind fun s24 => ((if (decide (t11.2 < 2)) = true then ((m_l_in_d (List.map (eP PyData.int PyData.int) t12) t10.1 (PyData.tuple [(PyData.int t11.1), (PyData.bool (decide (t11.2 = 1)))])).bind fun t25 => (appO s24 (PyData.list (List.map id t25))).bind fun t26 => some t26) else some s24 : Option (List PyData)).bind fun s27 => some (t10.1, s27, t10.2)))))))) else some (t1.1, f4, t1.2) : Option (Int × (List PyData) × (List Int))).bind fun s29 => some (s29.2.1, s29.2.2))))
/-- _law_right -/
def m_l_right (w_well_here : (List Int)) : Option (Bool × (List Int)) :=
  ((m_l_take w_well_here 4).bind fun t1 => ((m_l_list t1.2 (1 + t1.1) 4 6).bind fun t2 => ((m_l_petals t2.1).bind fun t3 => ((m_l_drawn t2.2 t3.1 t3.2).bind fun t4 => ((m_l_numbers t4.2 t4.1 (t3.2.length : Int)).bind fun t5 => ((lpR (fun (s6 : Unit) (pairs7 : (List (Int × Int))) => (((m_l_holds t3.1 t3.2 pairs7).bind fun t11 => ((m_p_joinings_hold (1 + t1.1) t2.1 pairs7).bind fun t12 => (if (false || ((!decide (t12 = (!decide (t11 = ([] : (List Int)))))) || (!decide (pairs7 = pairs7)))) = true then some (Step.ret (false, t5.2)) else some (Step.go ())))) : Option (Step (Bool × (List Int)) Unit))) t5.1 ()).bind fun f8o => Sum.elim (fun r28 => some r28) (fun f8 => ((m_l_no_lists t5.2 t4.1).bind fun t14 => ((lpR (fun (s15 : Unit) (value16 : PyData) => (((reprE value16).bind fun t20 => ((m_p_joinings_hold_d (1 + t1.1) t2.1 value16).bind fun t21 => (if (!decide (t21 = false)) = true then some true else ((reprE value16).bind fun t22 => some (!decide (t22 = t20)))).bind fun t23 => (if t23 = true then some (Step.ret (false, t14.2)) else ((m_p_joinings_hold (1 + t1.1) t2.1 t4.1).bind fun t24 => (if (!decide (t24 = true)) = true then some (Step.ret (false, t14.2)) else some (Step.go ())))))) : Option (Step (Bool × (List Int)) Unit))) t14.1 ()).bind fun f17o => Sum.elim (fun r26 => some r26) (fun f17 => some (true, t14.2)) f17o))) f8o))))))
/-- law -/
def m_l_law (script : (List Int)) : Option Bool :=
  ((rngO 0 (maxI 1 (minI 2 (script.length : Int)))).bind fun t1 => ((lpR (fun (s2 : Unit) (k_3 : Int) => (((m_l_well script k_3).bind fun t7 => (m_l_right t7).bind fun t8 => (if (!t8.1) = true then some (Step.ret false) else some (Step.go ()))) : Option (Step Bool Unit))) t1 ()).bind fun f4o => Sum.elim (fun r10 => some r10) (fun f4 => some true) f4o))
end L12
namespace L12
open PySem PySem.Spec PyProof.Rows L2 Z
def top (i : Nat) : Stmt := PySem.Challenge.pw_walkclubs_k12_joinings_with_one_wrong_pl.main.body.getD i (.Pass ⟨0, 0, 0, 0⟩)
abbrev s_p_straightened : Stmt := top 5
def N_p_straightened : List Str := ["walk", "found", "step"]
def V_p_straightened : List Str := ["walk", "found", "step"]
def G_p_straightened : List Str := ["len", "tuple"]
theorem sc_p_straightened : FnScope N_p_straightened ["walk"] (defScope s_p_straightened) := ⟨rfl, rfl, rfl, by decide +kernel, rfl, by decide +kernel, by decide +kernel⟩
abbrev sp_p_straightened (K : PySem.W.Frag) : Sp := spZ (α := (List Int)) (β := (List Int)) (fun a => [(dat (PyData.tuple (List.map PyData.int a)))]) (fun a => []) (fun a => m_p_straightened a) (fun a b => (dat (PyData.tuple (List.map PyData.int b)))) (fun a b => [])
set_option maxHeartbeats 4000000 in
theorem body_p_straightened {X : Cx} (hsc : X.env.scope = defScope s_p_straightened) {sts_ : List Stmt} (hst_ : defBody s_p_straightened = sts_) (B : Bd X N_p_straightened V_p_straightened G_p_straightened 0) (T : Bt X V_p_straightened) (g_len : X.mg "len" = none) (g_tuple : X.mg "tuple" = none) (walk : (List Int)) (b : (List Int)) (F0 : Hp) (os : Os) (D : Ends) (hm : m_p_straightened walk = some b) (R : RetZ F0 (os) (dat (PyData.tuple (List.map PyData.int b))) D) :
    SX X [sl (dat (PyData.tuple (List.map PyData.int walk))), un, un] (os) F0 sts_ D := by
  subst hst_
  unfold m_p_straightened at hm
  refine sx_asgN (i := 1) (vi := 1) (n := ol (List.map PyData.int ([] : (List Int)))) B T rfl rfl (en_lst (ds := []) ax_nil) (fun q_found0 => ?_)
  obtain ⟨f3, h11, hm⟩ := bnd hm
  refine sx_for (c := anyOs) _ (fun (s1 : (List Int)) (_ : Unit) => [sl (dat (PyData.tuple (List.map PyData.int walk))), sl (own q_found0), un]) (fun (s1 : (List Int)) (_ : Unit) => (q_found0, ol (List.map PyData.int s1)) :: os) B T (fun step2 => gx_name (i := 2) (vi := 2) (φ := (dat (PyData.int step2))) B T rfl rfl) ([] : (List Int)) () f3 h11 (ix_tup (enc := PyData.int) (ex_v (i := 0) (j := 0) B rfl rfl rfl) rdt_dat) ⟨.inl rfl, .inl rfl, .inl rfl, trivial⟩ (fun _ _ => trivial) (fun F5 e4 s1 _ step2 z12 hx hm => ?_) (fun _ => ?_)
  · clear h11
    obtain ⟨t7, h7, hm⟩ := bnd hm
    obtain ⟨s10, h_s10, hm⟩ := bnd hm
    refine sx_join [sl (dat (PyData.tuple (List.map PyData.int walk))), sl (own q_found0), sl (dat (PyData.int step2))] ((q_found0, ol (List.map PyData.int s10)) :: os) (?_) (fun Q => ?_)
    · clear h_s10
      obtain rfl := som hm
      exact sx_nil fun σ H a => ⟨(), (a.weak ⟨.inl rfl, .inl rfl, .inr rfl, trivial⟩)⟩
    · have hm := h_s10
      refine sx_if (WX.tx (wx_and (l := t7) (os2 := (q_found0, ol (List.map PyData.int s1)) :: os) (tx_cmp op_gt r2_gt (nomark _) (EX.to (ex_fn (j := 0) B rfl g_len (by decide +kernel) call_len_seq (rc_lenL (ds := List.map PyData.int s1) (rdl_own 0 rfl)) (ax_cons (ex_v (i := 1) (j := 1) B rfl rfl rfl) ax_nil)) (by rw [List.length_map])) ex_int) (fun hk => by (have hm := ifT h7 hk; obtain ⟨t6, h6, hm⟩ := bnd hm; obtain rfl := som hm; exact (wx_and1 (tx_cmp op_eq r2_eqI (nomark _) (ex_idxL (enc := PyData.int) h6 (rdl_own 0 rfl) (ex_v (i := 1) (j := 1) B rfl rfl rfl) (ex_neg ex_int)) (ex_neg (ex_v (i := 2) (j := 2) B rfl rfl rfl)))))) (fun hk => by (have hm := ifF h7 hk; obtain rfl := som hm; rfl)) (and_fix (fun hk => by (have hm := ifF h7 hk; obtain rfl := som hm; rfl))))) (fun hk => ?_) (fun hk => ?_)
      · have hm := ifT hm hk
        obtain ⟨t8, h8, hm⟩ := bnd hm
        refine sx_expr (ex_popO (enc := PyData.int) (j := 0) h8 (ex_v (i := 1) (j := 1) B rfl rfl rfl) rfl) ?_
        obtain rfl := som hm
        exact sx_fall Q rfl
      · have hm := ifF hm hk
        obtain ⟨t9, h9, hm⟩ := bnd hm
        refine sx_expr (ex_app (enc := PyData.int) (j := 0) (xs0 := s1) (xs := s1) (y := step2) h9 (ex_v (i := 1) (j := 1) B rfl rfl rfl) rfl (ex_v (i := 2) (j := 2) B rfl rfl rfl) rfl) ?_
        obtain rfl := som hm
        exact sx_fall Q rfl
  · skip
    refine sx_frz (j := 0) (i := 1) rfl rfl ?_
    obtain rfl := som hm
    exact sx_ret (ex_ty (j := 1) B rfl g_tuple (by decide +kernel) call_tuple_of (rc_tupL (ds := List.map PyData.int f3) rdl_dat) (ax_cons (ex_v (i := 1) (j := 1) B rfl rfl rfl) ax_nil)) (fun F H v e o c => R.rt F H v e o c)
theorem cal_p_straightened {P : Program} {w : World} {K : PySem.W.Frag} {mg : Str → Option Value} {base : Heap} {f : Addr} {fd : FuncData} (Fn : Fun K "straightened" "straightened" s_p_straightened f fd) (hmg : mg "straightened" = some (.ref f)) (hb : Binds K fd ["walk"] []) (g_len : mg "len" = none) (g_tuple : mg "tuple" = none) : Cal P w K mg base 1 "straightened" s_p_straightened ["walk"] (sp_p_straightened K) := by
  obtain ⟨sts_, hst_⟩ : ∃ z_, defBody s_p_straightened = z_ := ⟨_, rfl⟩
  exact cal_ZQ (V := V_p_straightened) (Gs := G_p_straightened) (nl := 2) hst_ Fn sc_p_straightened (by decide +kernel) (by decide +kernel) hmg hb (fun _ => rfl) rfl fun _ _ _ _ _ _ _ a b F0 os D B T hm R => body_p_straightened rfl hst_ B T g_len g_tuple a b F0 os D hm R
abbrev s_p_is_integer : Stmt := top 8
def N_p_is_integer : List Str := ["value"]
def V_p_is_integer : List Str := ["value"]
def G_p_is_integer : List Str := ["isinstance", "int", "bool"]
theorem sc_p_is_integer : FnScope N_p_is_integer ["value"] (defScope s_p_is_integer) := ⟨rfl, rfl, rfl, by decide +kernel, rfl, by decide +kernel, by decide +kernel⟩
abbrev sp_p_is_integer (K : PySem.W.Frag) : Sp := spZ (α := Int) (β := Bool) (fun a => [(dat (PyData.int a))]) (fun a => []) (fun a => m_p_is_integer a) (fun a b => (dat (PyData.bool b))) (fun a b => [])
set_option maxHeartbeats 4000000 in
theorem body_p_is_integer {X : Cx} (hsc : X.env.scope = defScope s_p_is_integer) {sts_ : List Stmt} (hst_ : defBody s_p_is_integer = sts_) (B : Bd X N_p_is_integer V_p_is_integer G_p_is_integer 0) (T : Bt X V_p_is_integer) (g_isinstance : X.mg "isinstance" = none) (g_int : X.mg "int" = none) (g_bool : X.mg "bool" = none) (value : Int) (b : Bool) (F0 : Hp) (os : Os) (D : Ends) (hm : m_p_is_integer value = some b) (R : RetZ F0 (os) (dat (PyData.bool b)) D) :
    SX X [sl (dat (PyData.int value))] (os) F0 sts_ D := by
  subst hst_
  unfold m_p_is_integer at hm
  obtain rfl := som hm
  exact sx_ret (ex_and (ex_fn (j := 0) B rfl g_isinstance (by decide +kernel) call_isi (rc_isi (d := (PyData.int value)) (T := "int") (show kitB "int" "int" = some true by decide +kernel)) (ax_cons (ex_v (i := 0) (j := 0) B rfl rfl rfl) (ax_cons (ex_tyname (T := "int") (gi := 1) B rfl g_int (by decide +kernel)) ax_nil))) (fun _ => (ex_one (ex_not (ex_fn (j := 0) B rfl g_isinstance (by decide +kernel) call_isi (rc_isi (d := (PyData.int value)) (T := "bool") (show kitB "int" "bool" = some false by decide +kernel)) (ax_cons (ex_v (i := 0) (j := 0) B rfl rfl rfl) (ax_cons (ex_tyname (T := "bool") (gi := 2) B rfl g_bool (by decide +kernel)) ax_nil)))))) (fun _ => rfl) rfl) (fun F H v e o c => R.rt F H v e o c)
theorem cal_p_is_integer {P : Program} {w : World} {K : PySem.W.Frag} {mg : Str → Option Value} {base : Heap} {f : Addr} {fd : FuncData} (Fn : Fun K "is_integer" "is_integer" s_p_is_integer f fd) (hmg : mg "is_integer" = some (.ref f)) (hb : Binds K fd ["value"] []) (g_isinstance : mg "isinstance" = none) (g_int : mg "int" = none) (g_bool : mg "bool" = none) : Cal P w K mg base 1 "is_integer" s_p_is_integer ["value"] (sp_p_is_integer K) := by
  obtain ⟨sts_, hst_⟩ : ∃ z_, defBody s_p_is_integer = z_ := ⟨_, rfl⟩
  exact cal_ZQ (V := V_p_is_integer) (Gs := G_p_is_integer) (nl := 0) hst_ Fn sc_p_is_integer (by decide +kernel) (by decide +kernel) hmg hb (fun _ => rfl) rfl fun _ _ _ _ _ _ _ a b F0 os D B T hm R => body_p_is_integer rfl hst_ B T g_isinstance g_int g_bool a b F0 os D hm R
abbrev s_p_is_integer_d : Stmt := top 8
def N_p_is_integer_d : List Str := ["value"]
def V_p_is_integer_d : List Str := ["value"]
def G_p_is_integer_d : List Str := ["isinstance", "int", "bool"]
theorem sc_p_is_integer_d : FnScope N_p_is_integer_d ["value"] (defScope s_p_is_integer_d) := ⟨rfl, rfl, rfl, by decide +kernel, rfl, by decide +kernel, by decide +kernel⟩
abbrev sp_p_is_integer_d (K : PySem.W.Frag) : Sp := spZ (α := PyData) (β := Bool) (fun a => [(dat a)]) (fun a => []) (fun a => m_p_is_integer_d a) (fun a b => (dat (PyData.bool b))) (fun a b => [])
set_option maxHeartbeats 4000000 in
theorem body_p_is_integer_d {X : Cx} (hsc : X.env.scope = defScope s_p_is_integer_d) {sts_ : List Stmt} (hst_ : defBody s_p_is_integer_d = sts_) (B : Bd X N_p_is_integer_d V_p_is_integer_d G_p_is_integer_d 0) (T : Bt X V_p_is_integer_d) (g_isinstance : X.mg "isinstance" = none) (g_int : X.mg "int" = none) (g_bool : X.mg "bool" = none) (value : PyData) (b : Bool) (F0 : Hp) (os : Os) (D : Ends) (hm : m_p_is_integer_d value = some b) (R : RetZ F0 (os) (dat (PyData.bool b)) D) :
    SX X [sl (dat value)] (os) F0 sts_ D := by
  subst hst_
  unfold m_p_is_integer_d at hm
  obtain ⟨t1, h1, hm⟩ := bnd hm
  obtain ⟨t3, h3, hm⟩ := bnd hm
  obtain rfl := som hm
  exact sx_ret (ex_and (l := t3) (os2 := os) (ex_fn (j := 0) B rfl g_isinstance (by decide +kernel) call_isi (rc_isiD kB_int h1) (ax_cons (ex_v (i := 0) (j := 0) B rfl rfl rfl) (ax_cons (ex_tyname (T := "int") (gi := 1) B rfl g_int (by decide +kernel)) ax_nil))) (fun hk => by (have hm := ifT h3 hk; obtain ⟨t2, h2, hm⟩ := bnd hm; obtain rfl := som hm; exact (ex_one (ex_not (ex_fn (j := 0) B rfl g_isinstance (by decide +kernel) call_isi (rc_isiD kB_bool h2) (ax_cons (ex_v (i := 0) (j := 0) B rfl rfl rfl) (ax_cons (ex_tyname (T := "bool") (gi := 2) B rfl g_bool (by decide +kernel)) ax_nil))))))) (fun hk => by (have hm := ifF h3 hk; obtain rfl := som hm; rfl)) (and_fix (fun hk => by (have hm := ifF h3 hk; obtain rfl := som hm; rfl)))) (fun F H v e o c => R.rt F H v e o c)
theorem cal_p_is_integer_d {P : Program} {w : World} {K : PySem.W.Frag} {mg : Str → Option Value} {base : Heap} {f : Addr} {fd : FuncData} (Fn : Fun K "is_integer" "is_integer" s_p_is_integer_d f fd) (hmg : mg "is_integer" = some (.ref f)) (hb : Binds K fd ["value"] []) (g_isinstance : mg "isinstance" = none) (g_int : mg "int" = none) (g_bool : mg "bool" = none) : Cal P w K mg base 1 "is_integer" s_p_is_integer_d ["value"] (sp_p_is_integer_d K) := by
  obtain ⟨sts_, hst_⟩ : ∃ z_, defBody s_p_is_integer_d = z_ := ⟨_, rfl⟩
  exact cal_ZQ (V := V_p_is_integer_d) (Gs := G_p_is_integer_d) (nl := 0) hst_ Fn sc_p_is_integer_d (by decide +kernel) (by decide +kernel) hmg hb (fun _ => rfl) rfl fun _ _ _ _ _ _ _ a b F0 os D B T hm R => body_p_is_integer_d rfl hst_ B T g_isinstance g_int g_bool a b F0 os D hm R
abbrev s_p_is_letters : Stmt := top 10
def N_p_is_letters : List Str := ["value"]
def V_p_is_letters : List Str := ["value"]
def G_p_is_letters : List Str := ["is_integer", "MOST_LETTERS"]
theorem sc_p_is_letters : FnScope N_p_is_letters ["value"] (defScope s_p_is_letters) := ⟨rfl, rfl, rfl, by decide +kernel, rfl, by decide +kernel, by decide +kernel⟩
abbrev sp_p_is_letters (K : PySem.W.Frag) : Sp := spZ (α := Int) (β := Bool) (fun a => [(dat (PyData.int a))]) (fun a => []) (fun a => m_p_is_letters a) (fun a b => (dat (PyData.bool b))) (fun a b => [])
set_option maxHeartbeats 4000000 in
theorem body_p_is_letters {X : Cx} (hsc : X.env.scope = defScope s_p_is_letters) {sts_ : List Stmt} (hst_ : defBody s_p_is_letters = sts_) (B : Bd X N_p_is_letters V_p_is_letters G_p_is_letters 1) (T : Bt X V_p_is_letters) {tk_MOST_LETTERS : Tok} (c_p_is_integer : Cal X.prog X.w X.K X.mg X.base 1 "is_integer" s_p_is_integer ["value"] (sp_p_is_integer X.K)) (g_MOST_LETTERS : X.mg "MOST_LETTERS" = some (.int 4 tk_MOST_LETTERS)) (value : Int) (b : Bool) (F0 : Hp) (os : Os) (D : Ends) (hm : m_p_is_letters value = some b) (R : RetZ F0 (os) (dat (PyData.bool b)) D) :
    SX X [sl (dat (PyData.int value))] (os) F0 sts_ D := by
  subst hst_
  unfold m_p_is_letters at hm
  obtain ⟨t1, h1, hm⟩ := bnd hm
  obtain rfl := som hm
  exact sx_ret (ex_and (ex_call (a := value) (b := t1) (gi := 0) (rest := os) B rfl c_p_is_integer (by decide) h1 (ax_cons (ex_v (i := 0) (j := 0) B rfl rfl rfl) ax_nil)) (fun _ => (ex_one (ex_chain op_le op_le r2_le r2_le (fun _ => rfl) ex_int (ex_v (i := 0) (j := 0) B rfl rfl rfl) (fun _ => (ex_g (j := 1) B rfl g_MOST_LETTERS))))) (fun _ => rfl) rfl) (fun F H v e o c => R.rt F H v e o c)
theorem cal_p_is_letters {P : Program} {w : World} {K : PySem.W.Frag} {mg : Str → Option Value} {base : Heap} {f : Addr} {fd : FuncData} (Fn : Fun K "is_letters" "is_letters" s_p_is_letters f fd) (hmg : mg "is_letters" = some (.ref f)) (hb : Binds K fd ["value"] []) {tk_MOST_LETTERS : Tok} (c_p_is_integer : Cal P w K mg base 1 "is_integer" s_p_is_integer ["value"] (sp_p_is_integer K)) (g_MOST_LETTERS : mg "MOST_LETTERS" = some (.int 4 tk_MOST_LETTERS)) : Cal P w K mg base 2 "is_letters" s_p_is_letters ["value"] (sp_p_is_letters K) := by
  obtain ⟨sts_, hst_⟩ : ∃ z_, defBody s_p_is_letters = z_ := ⟨_, rfl⟩
  exact cal_ZQ (V := V_p_is_letters) (Gs := G_p_is_letters) (nl := 0) hst_ Fn sc_p_is_letters (by decide +kernel) (by decide +kernel) hmg hb (fun _ => rfl) rfl fun _ _ _ _ _ _ _ a b F0 os D B T hm R => body_p_is_letters rfl hst_ B T c_p_is_integer g_MOST_LETTERS a b F0 os D hm R
abbrev s_p_is_step : Stmt := top 11
def N_p_is_step : List Str := ["value", "letters"]
def V_p_is_step : List Str := ["value", "letters"]
def G_p_is_step : List Str := ["is_integer", "abs"]
theorem sc_p_is_step : FnScope N_p_is_step ["value", "letters"] (defScope s_p_is_step) := ⟨rfl, rfl, rfl, by decide +kernel, rfl, by decide +kernel, by decide +kernel⟩
abbrev sp_p_is_step (K : PySem.W.Frag) : Sp := spZ (α := (Int × Int)) (β := Bool) (fun a => [(dat (PyData.int a.1)), (dat (PyData.int a.2))]) (fun a => []) (fun a => m_p_is_step a.1 a.2) (fun a b => (dat (PyData.bool b))) (fun a b => [])
set_option maxHeartbeats 4000000 in
theorem body_p_is_step {X : Cx} (hsc : X.env.scope = defScope s_p_is_step) {sts_ : List Stmt} (hst_ : defBody s_p_is_step = sts_) (B : Bd X N_p_is_step V_p_is_step G_p_is_step 1) (T : Bt X V_p_is_step) (c_p_is_integer : Cal X.prog X.w X.K X.mg X.base 1 "is_integer" s_p_is_integer ["value"] (sp_p_is_integer X.K)) (g_abs : X.mg "abs" = none) (value : Int) (letters : Int) (b : Bool) (F0 : Hp) (os : Os) (D : Ends) (hm : m_p_is_step value letters = some b) (R : RetZ F0 (os) (dat (PyData.bool b)) D) :
    SX X [sl (dat (PyData.int value)), sl (dat (PyData.int letters))] (os) F0 sts_ D := by
  subst hst_
  unfold m_p_is_step at hm
  obtain ⟨t1, h1, hm⟩ := bnd hm
  obtain rfl := som hm
  exact sx_ret (ex_and (ex_call (a := value) (b := t1) (gi := 0) (rest := os) B rfl c_p_is_integer (by decide) h1 (ax_cons (ex_v (i := 0) (j := 0) B rfl rfl rfl) ax_nil)) (fun _ => (ex_one (ex_chain op_le op_le r2_le r2_le (fun _ => rfl) ex_int (ex_fn (j := 1) B rfl g_abs (by decide +kernel) call_abs rc_abs (ax_cons (ex_v (i := 0) (j := 0) B rfl rfl rfl) ax_nil)) (fun _ => (ex_v (i := 1) (j := 1) B rfl rfl rfl))))) (fun _ => rfl) rfl) (fun F H v e o c => R.rt F H v e o c)
theorem cal_p_is_step {P : Program} {w : World} {K : PySem.W.Frag} {mg : Str → Option Value} {base : Heap} {f : Addr} {fd : FuncData} (Fn : Fun K "is_step" "is_step" s_p_is_step f fd) (hmg : mg "is_step" = some (.ref f)) (hb : Binds K fd ["value", "letters"] []) (c_p_is_integer : Cal P w K mg base 1 "is_integer" s_p_is_integer ["value"] (sp_p_is_integer K)) (g_abs : mg "abs" = none) : Cal P w K mg base 2 "is_step" s_p_is_step ["value", "letters"] (sp_p_is_step K) := by
  obtain ⟨sts_, hst_⟩ : ∃ z_, defBody s_p_is_step = z_ := ⟨_, rfl⟩
  exact cal_ZQ (V := V_p_is_step) (Gs := G_p_is_step) (nl := 0) hst_ Fn sc_p_is_step (by decide +kernel) (by decide +kernel) hmg hb (fun _ => rfl) rfl fun _ _ _ _ _ _ _ a b F0 os D B T hm R => body_p_is_step rfl hst_ B T c_p_is_integer g_abs a.1 a.2 b F0 os D hm R
abbrev s_p_is_a_walk : Stmt := top 12
def N_p_is_a_walk : List Str := ["value", "letters", "step"]
def V_p_is_a_walk : List Str := ["value", "letters"]
def G_p_is_a_walk : List Str := ["isinstance", "tuple", "all"]
theorem sc_p_is_a_walk : FnScope N_p_is_a_walk ["value", "letters"] (defScope s_p_is_a_walk) := ⟨rfl, rfl, rfl, by decide +kernel, rfl, by decide +kernel, by decide +kernel⟩
abbrev sp_p_is_a_walk (K : PySem.W.Frag) : Sp := spZ (α := ((List Int) × Int)) (β := Bool) (fun a => [(dat (PyData.tuple (List.map PyData.int a.1))), (dat (PyData.int a.2))]) (fun a => []) (fun a => m_p_is_a_walk a.1 a.2) (fun a b => (dat (PyData.bool b))) (fun a b => [])
set_option maxHeartbeats 4000000 in
theorem body_p_is_a_walk {X : Cx} (hsc : X.env.scope = defScope s_p_is_a_walk) {sts_ : List Stmt} (hst_ : defBody s_p_is_a_walk = sts_) (B : Bd X N_p_is_a_walk V_p_is_a_walk G_p_is_a_walk 2) (T : Bt X V_p_is_a_walk) (g_isinstance : X.mg "isinstance" = none) (g_tuple : X.mg "tuple" = none) (g_all : X.mg "all" = none) (c_p_is_step : Cal X.prog X.w X.K X.mg X.base 2 "is_step" s_p_is_step ["value", "letters"] (sp_p_is_step X.K)) (value : (List Int)) (letters : Int) (b : Bool) (F0 : Hp) (os : Os) (D : Ends) (hm : m_p_is_a_walk value letters = some b) (R : RetZ F0 (os) (dat (PyData.bool b)) D) :
    SX X [sl (dat (PyData.tuple (List.map PyData.int value))), sl (dat (PyData.int letters)), un] (os) F0 sts_ D := by
  subst hst_
  unfold m_p_is_a_walk at hm
  obtain ⟨t5, h5, hm⟩ := bnd hm
  obtain rfl := som hm
  exact sx_ret (ex_and (l := t5) (os2 := os) (ex_fn (j := 0) B rfl g_isinstance (by decide +kernel) call_isi (rc_isi (d := (PyData.tuple (List.map PyData.int value))) (T := "tuple") (show kitB "tuple" "tuple" = some true by decide +kernel)) (ax_cons (ex_v (i := 0) (j := 0) B rfl rfl rfl) (ax_cons (ex_tyname (T := "tuple") (gi := 1) B rfl g_tuple (by decide +kernel)) ax_nil))) (fun hk => by (have hm := ifT h5 hk; obtain ⟨t4, h4, hm⟩ := bnd hm; obtain rfl := som hm; exact (ex_one (ex_fn (j := 2) B rfl g_all (by decide +kernel) (cr_all B.calm) (rc_all rdl_dat) (ax_cons (EN.ex (en_lc (lc_mk1 (j := 2) (vp := fun step1 => (dat (PyData.int step1))) (c := anyOs) (enc := PyData.bool) (fun (_ : Unit) (step1 : Int) => ((fun (step1 : Int) => ((m_p_is_step step1 letters).bind fun t3 => some t3)) step1).map fun y => (some y, ())) (fun (_ : Unit) (tl1 : Os) => tl1) () (t4) () B rfl rfl (by rw [B.hN, hsc]; decide +kernel) (by rw [hsc]; decide +kernel) (by decide) (lcO_ok h4) (ix_tup (enc := PyData.int) (ex_v (i := 0) (j := 0) B rfl rfl rfl) rdt_dat) (fun _ _ => trivial) (fun _ _ _ => List.Perm.refl _) (fun _ step1 t tl1 hx hf => by (obtain ⟨y, hy, rfl⟩ := Option.map_eq_some_iff.mp hf; obtain ⟨t3, h3, hy⟩ := bnd hy; obtain rfl := som hy; exact ⟨true, _, fun X1 hX => by (have B1 := Bd.fam (W' := ["letters", "step"]) (G' := ["is_step"]) B hX (by (try rw [hsc]); decide +kernel); have c_p_is_step' := fam_cal hX c_p_is_step; exact ⟨.nil, fun _ => ⟨_, rfl, (ex_call (a := (step1, letters)) (b := t3) (gi := 0) (rest := tl1) B1 rfl c_p_is_step' (by decide) h3 (ax_cons (ex_v (i := 2) (j := 1) B1 rfl rfl rfl) (ax_cons (ex_v (i := 1) (j := 0) B1 rfl rfl rfl) ax_nil)))⟩, fun h => Bool.noConfusion h⟩)⟩))))) ax_nil))))) (fun hk => by (have hm := ifF h5 hk; obtain rfl := som hm; rfl)) (and_fix (fun hk => by (have hm := ifF h5 hk; obtain rfl := som hm; rfl)))) (fun F H v e o c => R.rt F H v e o c)
theorem cal_p_is_a_walk {P : Program} {w : World} {K : PySem.W.Frag} {mg : Str → Option Value} {base : Heap} {f : Addr} {fd : FuncData} (Fn : Fun K "is_a_walk" "is_a_walk" s_p_is_a_walk f fd) (hmg : mg "is_a_walk" = some (.ref f)) (hb : Binds K fd ["value", "letters"] []) (g_isinstance : mg "isinstance" = none) (g_tuple : mg "tuple" = none) (g_all : mg "all" = none) (c_p_is_step : Cal P w K mg base 2 "is_step" s_p_is_step ["value", "letters"] (sp_p_is_step K)) : Cal P w K mg base 3 "is_a_walk" s_p_is_a_walk ["value", "letters"] (sp_p_is_a_walk K) := by
  obtain ⟨sts_, hst_⟩ : ∃ z_, defBody s_p_is_a_walk = z_ := ⟨_, rfl⟩
  exact cal_ZQ (V := V_p_is_a_walk) (Gs := G_p_is_a_walk) (nl := 1) hst_ Fn sc_p_is_a_walk (by decide +kernel) (by decide +kernel) hmg hb (fun _ => rfl) rfl fun _ _ _ _ _ _ _ a b F0 os D B T hm R => body_p_is_a_walk rfl hst_ B T g_isinstance g_tuple g_all c_p_is_step a.1 a.2 b F0 os D hm R
abbrev s_p_need_letters : Stmt := top 13
def N_p_need_letters : List Str := ["letters"]
def V_p_need_letters : List Str := ["letters"]
def G_p_need_letters : List Str := ["is_letters", "InvalidLetters"]
theorem sc_p_need_letters : FnScope N_p_need_letters ["letters"] (defScope s_p_need_letters) := ⟨rfl, rfl, rfl, by decide +kernel, rfl, by decide +kernel, by decide +kernel⟩
abbrev sp_p_need_letters (K : PySem.W.Frag) : Sp := spZ (α := Int) (β := Unit) (fun a => [(dat (PyData.int a))]) (fun a => []) (fun a => m_p_need_letters a) (fun a b => (dat PyData.none)) (fun a b => [])
set_option maxHeartbeats 4000000 in
theorem body_p_need_letters {X : Cx} (hsc : X.env.scope = defScope s_p_need_letters) {sts_ : List Stmt} (hst_ : defBody s_p_need_letters = sts_) (B : Bd X N_p_need_letters V_p_need_letters G_p_need_letters 2) (T : Bt X V_p_need_letters) (c_p_is_letters : Cal X.prog X.w X.K X.mg X.base 2 "is_letters" s_p_is_letters ["value"] (sp_p_is_letters X.K)) (letters : Int) (b : Unit) (F0 : Hp) (os : Os) (D : Ends) (hm : m_p_need_letters letters = some b) (R : RetZ F0 (os) (dat PyData.none) D) :
    SX X [sl (dat (PyData.int letters))] (os) F0 sts_ D := by
  subst hst_
  unfold m_p_need_letters at hm
  obtain ⟨t1, h1, hm⟩ := bnd hm
  refine sx_if (tx_not (tx_val (ex_call (a := letters) (b := t1) (gi := 0) (rest := os) B rfl c_p_is_letters (by decide) h1 (ax_cons (ex_v (i := 0) (j := 0) B rfl rfl rfl) ax_nil)) (by intro _; rfl))) (fun hk => ?_) (fun hk => ?_)
  · have hm := ifT hm hk
    exact nomatch hm
  · have hm := ifF hm hk
    refine sx_fall ?_ rfl
    obtain rfl := som hm
    exact sx_end fun F σ H e o => R.nx σ H (R.rt F H .non e o (cl_dat .non))
theorem cal_p_need_letters {P : Program} {w : World} {K : PySem.W.Frag} {mg : Str → Option Value} {base : Heap} {f : Addr} {fd : FuncData} (Fn : Fun K "need_letters" "need_letters" s_p_need_letters f fd) (hmg : mg "need_letters" = some (.ref f)) (hb : Binds K fd ["letters"] []) (c_p_is_letters : Cal P w K mg base 2 "is_letters" s_p_is_letters ["value"] (sp_p_is_letters K)) : Cal P w K mg base 3 "need_letters" s_p_need_letters ["letters"] (sp_p_need_letters K) := by
  obtain ⟨sts_, hst_⟩ : ∃ z_, defBody s_p_need_letters = z_ := ⟨_, rfl⟩
  exact cal_ZQ (V := V_p_need_letters) (Gs := G_p_need_letters) (nl := 0) hst_ Fn sc_p_need_letters (by decide +kernel) (by decide +kernel) hmg hb (fun _ => rfl) rfl fun _ _ _ _ _ _ _ a b F0 os D B T hm R => body_p_need_letters rfl hst_ B T c_p_is_letters a b F0 os D hm R
abbrev s_p_need_walk : Stmt := top 14
def N_p_need_walk : List Str := ["walk", "letters"]
def V_p_need_walk : List Str := ["walk", "letters"]
def G_p_need_walk : List Str := ["is_a_walk", "InvalidWalk", "anew"]
theorem sc_p_need_walk : FnScope N_p_need_walk ["walk", "letters"] (defScope s_p_need_walk) := ⟨rfl, rfl, rfl, by decide +kernel, rfl, by decide +kernel, by decide +kernel⟩
abbrev sp_p_need_walk (K : PySem.W.Frag) : Sp := spZ (α := ((List Int) × Int)) (β := Unit) (fun a => [(dat (PyData.tuple (List.map PyData.int a.1))), (dat (PyData.int a.2))]) (fun a => []) (fun a => m_p_need_walk a.1 a.2) (fun a b => (dat PyData.none)) (fun a b => [])
set_option maxHeartbeats 4000000 in
theorem body_p_need_walk {X : Cx} (hsc : X.env.scope = defScope s_p_need_walk) {sts_ : List Stmt} (hst_ : defBody s_p_need_walk = sts_) (B : Bd X N_p_need_walk V_p_need_walk G_p_need_walk 3) (T : Bt X V_p_need_walk) (c_p_is_a_walk : Cal X.prog X.w X.K X.mg X.base 3 "is_a_walk" s_p_is_a_walk ["value", "letters"] (sp_p_is_a_walk X.K)) (walk : (List Int)) (letters : Int) (b : Unit) (F0 : Hp) (os : Os) (D : Ends) (hm : m_p_need_walk walk letters = some b) (R : RetZ F0 (os) (dat PyData.none) D) :
    SX X [sl (dat (PyData.tuple (List.map PyData.int walk))), sl (dat (PyData.int letters))] (os) F0 sts_ D := by
  subst hst_
  unfold m_p_need_walk at hm
  obtain ⟨t1, h1, hm⟩ := bnd hm
  refine sx_if (tx_not (tx_val (ex_call (a := (walk, letters)) (b := t1) (gi := 0) (rest := os) B rfl c_p_is_a_walk (by decide) h1 (ax_cons (ex_v (i := 0) (j := 0) B rfl rfl rfl) (ax_cons (ex_v (i := 1) (j := 1) B rfl rfl rfl) ax_nil))) (by intro _; rfl))) (fun hk => ?_) (fun hk => ?_)
  · have hm := ifT hm hk
    exact nomatch hm
  · have hm := ifF hm hk
    refine sx_fall ?_ rfl
    obtain rfl := som hm
    exact sx_end fun F σ H e o => R.nx σ H (R.rt F H .non e o (cl_dat .non))
theorem cal_p_need_walk {P : Program} {w : World} {K : PySem.W.Frag} {mg : Str → Option Value} {base : Heap} {f : Addr} {fd : FuncData} (Fn : Fun K "need_walk" "need_walk" s_p_need_walk f fd) (hmg : mg "need_walk" = some (.ref f)) (hb : Binds K fd ["walk", "letters"] []) (c_p_is_a_walk : Cal P w K mg base 3 "is_a_walk" s_p_is_a_walk ["value", "letters"] (sp_p_is_a_walk K)) : Cal P w K mg base 4 "need_walk" s_p_need_walk ["walk", "letters"] (sp_p_need_walk K) := by
  obtain ⟨sts_, hst_⟩ : ∃ z_, defBody s_p_need_walk = z_ := ⟨_, rfl⟩
  exact cal_ZQ (V := V_p_need_walk) (Gs := G_p_need_walk) (nl := 0) hst_ Fn sc_p_need_walk (by decide +kernel) (by decide +kernel) hmg hb (fun _ => rfl) rfl fun _ _ _ _ _ _ _ a b F0 os D B T hm R => body_p_need_walk rfl hst_ B T c_p_is_a_walk a.1 a.2 b F0 os D hm R
abbrev s_p_need_walks : Stmt := top 15
def N_p_need_walks : List Str := ["walks", "letters", "walk"]
def V_p_need_walks : List Str := ["walks", "letters", "walk"]
def G_p_need_walks : List Str := ["need_walk"]
theorem sc_p_need_walks : FnScope N_p_need_walks ["walks", "letters"] (defScope s_p_need_walks) := ⟨rfl, rfl, rfl, by decide +kernel, rfl, by decide +kernel, by decide +kernel⟩
abbrev sp_p_need_walks (K : PySem.W.Frag) : Sp := spZ (α := ((List (List Int)) × Int)) (β := Unit) (fun a => [(dat (PyData.list (List.map (eT PyData.int) a.1))), (dat (PyData.int a.2))]) (fun a => []) (fun a => m_p_need_walks a.1 a.2) (fun a b => (dat PyData.none)) (fun a b => [])
set_option maxHeartbeats 4000000 in
theorem body_p_need_walks {X : Cx} (hsc : X.env.scope = defScope s_p_need_walks) {sts_ : List Stmt} (hst_ : defBody s_p_need_walks = sts_) (B : Bd X N_p_need_walks V_p_need_walks G_p_need_walks 4) (T : Bt X V_p_need_walks) (c_p_need_walk : Cal X.prog X.w X.K X.mg X.base 4 "need_walk" s_p_need_walk ["walk", "letters"] (sp_p_need_walk X.K)) (walks : (List (List Int))) (letters : Int) (b : Unit) (F0 : Hp) (os : Os) (D : Ends) (hm : m_p_need_walks walks letters = some b) (R : RetZ F0 (os) (dat PyData.none) D) :
    SX X [sl (dat (PyData.list (List.map (eT PyData.int) walks))), sl (dat (PyData.int letters)), un] (os) F0 sts_ D := by
  subst hst_
  unfold m_p_need_walks at hm
  obtain ⟨f3, h7, hm⟩ := bnd hm
  refine sx_for (c := anyOs) _ (fun (s1 : Unit) (_ : Unit) => [sl (dat (PyData.list (List.map (eT PyData.int) walks))), sl (dat (PyData.int letters)), un]) (fun (s1 : Unit) (_ : Unit) => os) B T (fun walk2 => gx_name (i := 2) (vi := 2) (φ := (dat (PyData.tuple (List.map PyData.int walk2)))) B T rfl rfl) () () f3 h7 (ix_list (enc := (eT PyData.int)) (c := anyOs) (ex_v (i := 0) (j := 0) B rfl rfl rfl) (fun _ _ => rdl_dat) trivial) ⟨.inl rfl, .inl rfl, .inl rfl, trivial⟩ (fun _ _ => trivial) (fun F5 e4 s1 _ walk2 z8 hx hm => ?_) (fun _ => ?_)
  · clear h7
    obtain ⟨t6, h6, hm⟩ := bnd hm
    refine sx_expr (ex_call (a := (walk2, letters)) (b := t6) (gi := 0) (rest := os) B rfl c_p_need_walk (by decide) h6 (ax_cons (ex_v (i := 2) (j := 2) B rfl rfl rfl) (ax_cons (ex_v (i := 1) (j := 1) B rfl rfl rfl) ax_nil))) ?_
    obtain rfl := som hm
    exact sx_nil fun σ H a => ⟨(), (a.weak ⟨.inl rfl, .inl rfl, .inr rfl, trivial⟩)⟩
  · skip
    obtain rfl := som hm
    exact sx_end fun F σ H e o => R.nx σ H (R.rt F H .non e o (cl_dat .non))
theorem cal_p_need_walks {P : Program} {w : World} {K : PySem.W.Frag} {mg : Str → Option Value} {base : Heap} {f : Addr} {fd : FuncData} (Fn : Fun K "need_walks" "need_walks" s_p_need_walks f fd) (hmg : mg "need_walks" = some (.ref f)) (hb : Binds K fd ["walks", "letters"] []) (c_p_need_walk : Cal P w K mg base 4 "need_walk" s_p_need_walk ["walk", "letters"] (sp_p_need_walk K)) : Cal P w K mg base 5 "need_walks" s_p_need_walks ["walks", "letters"] (sp_p_need_walks K) := by
  obtain ⟨sts_, hst_⟩ : ∃ z_, defBody s_p_need_walks = z_ := ⟨_, rfl⟩
  exact cal_ZQ (V := V_p_need_walks) (Gs := G_p_need_walks) (nl := 1) hst_ Fn sc_p_need_walks (by decide +kernel) (by decide +kernel) hmg hb (fun _ => rfl) rfl fun _ _ _ _ _ _ _ a b F0 os D B T hm R => body_p_need_walks rfl hst_ B T c_p_need_walk a.1 a.2 b F0 os D hm R
abbrev s_p_head_of : Stmt := top 17
def N_p_head_of : List Str := ["heads", "room", "found"]
def V_p_head_of : List Str := ["heads", "room", "found"]
def G_p_head_of : List Str := []
theorem sc_p_head_of : FnScope N_p_head_of ["heads", "room"] (defScope s_p_head_of) := ⟨rfl, rfl, rfl, by decide +kernel, rfl, by decide +kernel, by decide +kernel⟩
abbrev sp_p_head_of (K : PySem.W.Frag) : Sp := spZ (α := (Addr × (List Int) × Int)) (β := (Int × (List Int))) (fun a => [own a.1, (dat (PyData.int a.2.2))]) (fun a => (a.1, ol (List.map PyData.int a.2.1)) :: []) (fun a => m_p_head_of a.2.1 a.2.2) (fun a b => (dat (PyData.int b.1))) (fun a b => (a.1, ol (List.map PyData.int b.2)) :: [])
set_option maxHeartbeats 4000000 in
theorem body_p_head_of {X : Cx} (hsc : X.env.scope = defScope s_p_head_of) {sts_ : List Stmt} (hst_ : defBody s_p_head_of = sts_) (B : Bd X N_p_head_of V_p_head_of G_p_head_of 0) (T : Bt X V_p_head_of)  (q_heads : Addr) (w_heads : (List Int)) (room : Int) (b : (Int × (List Int))) (F0 : Hp) (os : Os) (D : Ends) (hm : m_p_head_of w_heads room = some b) (R : RetZ F0 ((q_heads, ol (List.map PyData.int b.2)) :: os) (dat (PyData.int b.1)) D) :
    SX X [sl (own q_heads), sl (dat (PyData.int room)), un] ((q_heads, ol (List.map PyData.int w_heads)) :: os) F0 sts_ D := by
  subst hst_
  unfold m_p_head_of at hm
  refine sx_asg (i := 2) (vi := 2) (φ := (dat (PyData.int room))) B T rfl rfl (ex_v (i := 1) (j := 1) B rfl rfl rfl) ?_
  obtain ⟨f2o, h8, hm⟩ := bnd hm
  refine sx_while _ _ (fun (s1 : Int) (_ : Unit) => [sl (own q_heads), sl (dat (PyData.int room)), sl (dat (PyData.int s1))]) (fun (s1 : Int) (_ : Unit) => (q_heads, ol (List.map PyData.int w_heads)) :: os) (fun (r : (Int × (List Int))) v H => ∃ F, Same F0 F ∧ Ow F ((q_heads, ol (List.map PyData.int r.2)) :: os) H ∧ Cl (dat (PyData.int r.1)) F v) T 10000 room () f2o h8 ⟨.inl rfl, .inl rfl, .inl rfl, trivial⟩ rfl (fun s1 _ b hm => by (obtain ⟨t3, h3, hm⟩ := bnd hm; obtain rfl := som hm; exact (tx_cmp op_ne r2_neI (nomark _) (ex_idxL (enc := PyData.int) h3 (rdl_own 0 rfl) (ex_v (i := 0) (j := 0) B rfl rfl rfl) (ex_v (i := 2) (j := 2) B rfl rfl rfl)) (ex_v (i := 2) (j := 2) B rfl rfl rfl)))) (fun F5 e4 s1 _ z9 _ hm => ?_) (fun f2 _ ho => ?_) (fun r7 v H ho hr => ?_)
  · clear h8
    obtain ⟨t6, h6, hm⟩ := bnd hm
    refine sx_asg (i := 2) (vi := 2) (φ := (dat (PyData.int t6))) B T rfl rfl (ex_idxL (enc := PyData.int) h6 (rdl_own 0 rfl) (ex_v (i := 0) (j := 0) B rfl rfl rfl) (ex_v (i := 2) (j := 2) B rfl rfl rfl)) ?_
    exact sx_nil fun σ H a => ⟨_, (), (som hm).symm, (a.weak ⟨.inl rfl, .inl rfl, .inl rfl, trivial⟩)⟩
  · cases ho
    have hm := elimR hm
    obtain rfl := som hm
    exact sx_ret (ex_v (i := 2) (j := 2) B rfl rfl rfl) (fun F H v e o c => R.rt F H v e o c)
  · cases ho
    have hm := elimL hm
    cases hm
theorem cal_p_head_of {P : Program} {w : World} {K : PySem.W.Frag} {mg : Str → Option Value} {base : Heap} {f : Addr} {fd : FuncData} (Fn : Fun K "head_of" "head_of" s_p_head_of f fd) (hmg : mg "head_of" = some (.ref f)) (hb : Binds K fd ["heads", "room"] [])  : Cal P w K mg base 1 "head_of" s_p_head_of ["heads", "room"] (sp_p_head_of K) := by
  obtain ⟨sts_, hst_⟩ : ∃ z_, defBody s_p_head_of = z_ := ⟨_, rfl⟩
  exact cal_ZQ (V := V_p_head_of) (Gs := G_p_head_of) (nl := 1) hst_ Fn sc_p_head_of (by decide +kernel) (by decide +kernel) hmg hb (fun _ => rfl) rfl fun _ _ _ _ _ _ _ a b F0 os D B T hm R => body_p_head_of rfl hst_ B T  a.1 a.2.1 a.2.2 b F0 os D hm R
abbrev s_p_petals_of : Stmt := top 18
def N_p_petals_of : List Str := ["walks", "count", "ways", "walk", "here", "at", "step", "goal"]
def V_p_petals_of : List Str := ["walks", "count", "ways", "walk", "here", "at", "step", "goal"]
def G_p_petals_of : List Str := ["enumerate", "len"]
theorem sc_p_petals_of : FnScope N_p_petals_of ["walks"] (defScope s_p_petals_of) := ⟨rfl, rfl, rfl, by decide +kernel, rfl, by decide +kernel, by decide +kernel⟩
abbrev sp_p_petals_of (K : PySem.W.Frag) : Sp := spN (α := (List (List Int))) (β := (Int × (List (Tri Int Int Int)))) (fun a => [(dat (PyData.list (List.map (eT PyData.int) a)))]) (fun a => []) (fun a => m_p_petals_of a) (fun a b => tpE (PyData.int b.1) (List.map (eP3 PyData.int PyData.int PyData.int) b.2)) (fun a b => [])
set_option maxHeartbeats 4000000 in
theorem body_p_petals_of {X : Cx} (hsc : X.env.scope = defScope s_p_petals_of) {sts_ : List Stmt} (hst_ : defBody s_p_petals_of = sts_) (B : Bd X N_p_petals_of V_p_petals_of G_p_petals_of 0) (T : Bt X V_p_petals_of) (g_enumerate : X.mg "enumerate" = none) (g_len : X.mg "len" = none) (walks : (List (List Int))) (b : (Int × (List (Tri Int Int Int)))) (F0 : Hp) (os : Os) (D : Ends) (hm : m_p_petals_of walks = some b) (R : RetN F0 (os) (tpE (PyData.int b.1) (List.map (eP3 PyData.int PyData.int PyData.int) b.2)) D) :
    SX X [sl (dat (PyData.list (List.map (eT PyData.int) walks))), un, un, un, un, un, un, un] (os) F0 sts_ D := by
  subst hst_
  unfold m_p_petals_of at hm
  refine sx_par2 (i := 1) (j := 2) _ hsc B rfl rfl (by decide) (by decide +kernel) (by decide +kernel) (by intro env he; cases env; cases he; first | rfl | kernel_rfl) (aq_x (φ := (dat (PyData.int 1))) ex_int (aq_n (n := ol (List.map (eP3 PyData.int PyData.int PyData.int) ([] : (List (Tri Int Int Int))))) (en_lst (ds := []) ax_nil) (fun q_ways1 => aq_nil))) (fun v0 v1 os_ hr_ => ?_) (by rintro φs os_ ⟨_, rfl, q_ways1, _, rfl, rfl, rfl⟩; exact ⟨_, _, rfl⟩)
  obtain ⟨_, e0, q_ways1, _, e1, e8, e9⟩ := hr_
  cases e0; cases e1; cases e8; cases e9
  obtain ⟨f4, h16, hm⟩ := bnd hm
  refine sx_for (c := anyOs) _ (fun (s2 : (Int × (List (Tri Int Int Int)))) (_ : Unit) => [sl (dat (PyData.list (List.map (eT PyData.int) walks))), sl (dat (PyData.int s2.1)), sl (own q_ways1), un, un, un, un, un]) (fun (s2 : (Int × (List (Tri Int Int Int)))) (_ : Unit) => (q_ways1, ol (List.map (eP3 PyData.int PyData.int PyData.int) s2.2)) :: os) B T (fun walk3 => gx_name (i := 3) (vi := 3) (φ := (dat (PyData.tuple (List.map PyData.int walk3)))) B T rfl rfl) (1, ([] : (List (Tri Int Int Int)))) () f4 h16 (ix_list (enc := (eT PyData.int)) (c := anyOs) (ex_v (i := 0) (j := 0) B rfl rfl rfl) (fun _ _ => rdl_dat) trivial) ⟨.inl rfl, .inl rfl, .inl rfl, .inl rfl, .inl rfl, .inl rfl, .inl rfl, .inl rfl, trivial⟩ (fun _ _ => trivial) (fun F6 e5 s2 _ walk3 z17 hx hm => ?_) (fun _ => ?_)
  · clear h16
    refine sx_asg (i := 4) (vi := 4) (φ := (dat (PyData.int 0))) B T rfl rfl ex_int ?_
    obtain ⟨f9, h14, hm⟩ := bnd hm
    refine sx_for (c := anyOs) _ (fun (s7 : (Int × Int × (List (Tri Int Int Int)))) (_ : Unit) => [sl (dat (PyData.list (List.map (eT PyData.int) walks))), sl (dat (PyData.int s7.1)), sl (own q_ways1), sl (dat (PyData.tuple (List.map PyData.int walk3))), sl (dat (PyData.int s7.2.1)), un, un, un]) (fun (s7 : (Int × Int × (List (Tri Int Int Int)))) (_ : Unit) => (q_ways1, ol (List.map (eP3 PyData.int PyData.int PyData.int) s7.2.2)) :: os) B T (fun x8 => gx_pair B (gx_name (i := 5) (vi := 5) (φ := (dat (PyData.int x8.1))) B T rfl rfl) (gx_name (i := 6) (vi := 6) (φ := (dat (PyData.int x8.2))) B T rfl rfl)) (s2.1, 0, s2.2) () f9 h14 (ix_enumT (enc := PyData.int) (gi := 0) B rfl g_enumerate (ex_v (i := 3) (j := 3) B rfl rfl rfl) rdt_dat) ⟨.inl rfl, .inl rfl, .inl rfl, .inl rfl, .inl rfl, .inl rfl, .inl rfl, .inl rfl, trivial⟩ (fun _ _ => trivial) (fun F11 e10 s7 _ x8 z15 hx hm => ?_) (fun _ => ?_)
    · clear h14
      refine sx_asg (i := 7) (vi := 7) (φ := (dat (PyData.int 0))) B T rfl rfl ex_int ?_
      obtain ⟨s12, h_s12, hm⟩ := bnd hm
      refine sx_join [sl (dat (PyData.list (List.map (eT PyData.int) walks))), sl (dat (PyData.int s12.1)), sl (own q_ways1), sl (dat (PyData.tuple (List.map PyData.int walk3))), sl (dat (PyData.int s7.2.1)), sl (dat (PyData.int x8.1)), sl (dat (PyData.int x8.2)), sl (dat (PyData.int s12.2))] ((q_ways1, ol (List.map (eP3 PyData.int PyData.int PyData.int) s7.2.2)) :: os) (?_) (fun Q => ?_)
      · clear h_s12
        obtain ⟨t13, h13, hm⟩ := bnd hm
        refine sx_expr (ex_app (enc := (eP3 PyData.int PyData.int PyData.int)) (j := 0) (xs0 := s7.2.2) (xs := s7.2.2) (y := (if (decide (0 < x8.2)) = true then (Tri.mk s7.2.1 x8.2 s12.2) else (Tri.mk s12.2 (-x8.2) s7.2.1))) h13 (ex_v (i := 2) (j := 2) B rfl rfl rfl) rfl (ex_if (tx_cmp op_gt r2_gt (nomark _) (ex_v (i := 6) (j := 6) B rfl rfl rfl) ex_int) (fun hk => EX.to (ex_tup (ds := [(PyData.int s7.2.1), (PyData.int x8.2), (PyData.int s12.2)]) (hl := len_ok (n := 3) rfl) (ax_cons (ex_v (i := 4) (j := 4) B rfl rfl rfl) (ax_cons (ex_v (i := 6) (j := 6) B rfl rfl rfl) (ax_cons (ex_v (i := 7) (j := 7) B rfl rfl rfl) ax_nil)))) (by rw [if_pos hk] <;> rfl)) (fun hk => EX.to (ex_tup (ds := [(PyData.int s12.2), (PyData.int (-x8.2)), (PyData.int s7.2.1)]) (hl := len_ok (n := 3) rfl) (ax_cons (ex_v (i := 7) (j := 7) B rfl rfl rfl) (ax_cons (ex_neg (ex_v (i := 6) (j := 6) B rfl rfl rfl)) (ax_cons (ex_v (i := 4) (j := 4) B rfl rfl rfl) ax_nil)))) (by first | (rw [if_neg (by rw [hk]; exact Bool.false_ne_true)] <;> rfl) | (rw [if_neg (ne_true_of_eq_false hk)] <;> rfl)))) rfl) ?_
        refine sx_asg (i := 4) (vi := 4) (φ := (dat (PyData.int s12.2))) B T rfl rfl (ex_v (i := 7) (j := 7) B rfl rfl rfl) ?_
        obtain rfl := som hm
        exact sx_nil fun σ H a => ⟨(), (a.weak ⟨.inl rfl, .inl rfl, .inl rfl, .inl rfl, .inl rfl, .inr rfl, .inr rfl, .inr rfl, trivial⟩)⟩
      · have hm := h_s12
        refine sx_if (tx_cmp op_lt r2_lt (nomark _) (ex_v (i := 5) (j := 5) B rfl rfl rfl) (ex_sub (EX.to (ex_fn (j := 1) B rfl g_len (by decide +kernel) call_len_seq (rc_lenT (ds := List.map PyData.int walk3) rdt_dat) (ax_cons (ex_v (i := 3) (j := 3) B rfl rfl rfl) ax_nil)) (by rw [List.length_map])) ex_int)) (fun hk => ?_) (fun hk => ?_)
        · have hm := ifT hm hk
          refine sx_par2 (i := 7) (j := 1) _ hsc B rfl rfl (by decide) (by decide +kernel) (by decide +kernel) (by intro env he; cases env; cases he; first | rfl | kernel_rfl) (aq_x (φ := (dat (PyData.int s7.1))) (ex_v (i := 1) (j := 1) B rfl rfl rfl) (aq_x (φ := (dat (PyData.int (s7.1 + 1)))) (ex_add (ex_v (i := 1) (j := 1) B rfl rfl rfl) ex_int) aq_nil)) (fun v0 v1 os_ hr_ => ?_) (by rintro φs os_ ⟨_, rfl, _, rfl, rfl, rfl⟩; exact ⟨_, _, rfl⟩)
          obtain ⟨_, e0, _, e1, e8, e9⟩ := hr_
          cases e0; cases e1; cases e8; cases e9
          obtain rfl := som hm
          exact sx_fall Q rfl
        · have hm := ifF hm hk
          obtain rfl := som hm
          exact sx_fall Q rfl
    · skip
      obtain rfl := som hm
      exact sx_nil fun σ H a => ⟨(), (a.weak ⟨.inl rfl, .inl rfl, .inl rfl, .inr rfl, .inr rfl, .inl rfl, .inl rfl, .inl rfl, trivial⟩)⟩
  · skip
    obtain rfl := som hm
    exact sx_retN (en_tpo (j := 0) (ex_v (i := 1) (j := 1) B rfl rfl rfl) (ex_v (i := 2) (j := 2) B rfl rfl rfl) rfl) (fun F H p e o => R.rt F H p e o)
theorem cal_p_petals_of {P : Program} {w : World} {K : PySem.W.Frag} {mg : Str → Option Value} {base : Heap} {f : Addr} {fd : FuncData} (Fn : Fun K "petals_of" "petals_of" s_p_petals_of f fd) (hmg : mg "petals_of" = some (.ref f)) (hb : Binds K fd ["walks"] []) (g_enumerate : mg "enumerate" = none) (g_len : mg "len" = none) : Cal P w K mg base 1 "petals_of" s_p_petals_of ["walks"] (sp_p_petals_of K) := by
  obtain ⟨sts_, hst_⟩ : ∃ z_, defBody s_p_petals_of = z_ := ⟨_, rfl⟩
  exact cal_NQ (V := V_p_petals_of) (Gs := G_p_petals_of) (nl := 7) hst_ Fn sc_p_petals_of (by decide +kernel) (by decide +kernel) hmg hb (fun _ => rfl) rfl fun _ _ _ _ _ _ _ a b F0 os D B T hm R => body_p_petals_of rfl hst_ B T g_enumerate g_len a b F0 os D hm R
abbrev s_p_petals : Stmt := top 20
def N_p_petals : List Str := ["letters", "walks", "walk"]
def V_p_petals : List Str := ["letters", "walks"]
def G_p_petals : List Str := ["need_letters", "need_walks", "petals_of"]
theorem sc_p_petals : FnScope N_p_petals ["letters", "walks"] (defScope s_p_petals) := ⟨rfl, rfl, rfl, by decide +kernel, rfl, by decide +kernel, by decide +kernel⟩
abbrev sp_p_petals (K : PySem.W.Frag) : Sp := spN (α := (Int × (List (List Int)))) (β := (Int × (List (Tri Int Int Int)))) (fun a => [(dat (PyData.int a.1)), (dat (PyData.list (List.map (eT PyData.int) a.2)))]) (fun a => []) (fun a => m_p_petals a.1 a.2) (fun a b => tpE (PyData.int b.1) (List.map (eP3 PyData.int PyData.int PyData.int) b.2)) (fun a b => [])
set_option maxHeartbeats 4000000 in
theorem body_p_petals {X : Cx} (hsc : X.env.scope = defScope s_p_petals) {sts_ : List Stmt} (hst_ : defBody s_p_petals = sts_) (B : Bd X N_p_petals V_p_petals G_p_petals 5) (T : Bt X V_p_petals) (c_p_need_letters : Cal X.prog X.w X.K X.mg X.base 3 "need_letters" s_p_need_letters ["letters"] (sp_p_need_letters X.K)) (c_p_need_walks : Cal X.prog X.w X.K X.mg X.base 5 "need_walks" s_p_need_walks ["walks", "letters"] (sp_p_need_walks X.K)) (c_p_petals_of : Cal X.prog X.w X.K X.mg X.base 1 "petals_of" s_p_petals_of ["walks"] (sp_p_petals_of X.K)) (c_p_straightened : Cal X.prog X.w X.K X.mg X.base 1 "straightened" s_p_straightened ["walk"] (sp_p_straightened X.K)) (letters : Int) (walks : (List (List Int))) (b : (Int × (List (Tri Int Int Int)))) (F0 : Hp) (os : Os) (D : Ends) (hm : m_p_petals letters walks = some b) (R : RetN F0 (os) (tpE (PyData.int b.1) (List.map (eP3 PyData.int PyData.int PyData.int) b.2)) D) :
    SX X [sl (dat (PyData.int letters)), sl (dat (PyData.list (List.map (eT PyData.int) walks))), un] (os) F0 sts_ D := by
  subst hst_
  unfold m_p_petals at hm
  obtain ⟨t1, h1, hm⟩ := bnd hm
  refine sx_expr (ex_call (a := letters) (b := t1) (gi := 0) (rest := os) B rfl c_p_need_letters (by decide) h1 (ax_cons (ex_v (i := 0) (j := 0) B rfl rfl rfl) ax_nil)) ?_
  obtain ⟨t2, h2, hm⟩ := bnd hm
  refine sx_expr (ex_call (a := (walks, letters)) (b := t2) (gi := 1) (rest := os) B rfl c_p_need_walks (by decide) h2 (ax_cons (ex_v (i := 1) (j := 1) B rfl rfl rfl) (ax_cons (ex_v (i := 0) (j := 0) B rfl rfl rfl) ax_nil))) ?_
  obtain ⟨t6, h6, hm⟩ := bnd hm
  obtain ⟨t7, h7, hm⟩ := bnd hm
  obtain rfl := som hm
  exact sx_retN (en_call (a := t6) (b := t7) (gi := 2) (rest := os) B rfl c_p_petals_of (by decide) h7 (ax_cons (EN.ex (en_lc (lc_mk1 (j := 2) (vp := fun walk3 => (dat (PyData.tuple (List.map PyData.int walk3)))) (c := anyOs) (enc := (eT PyData.int)) (fun (_ : Unit) (walk3 : (List Int)) => ((fun (walk3 : (List Int)) => ((m_p_straightened walk3).bind fun t5 => some t5)) walk3).map fun y => (some y, ())) (fun (_ : Unit) (tl1 : Os) => tl1) () (t6) () B rfl rfl (by rw [B.hN, hsc]; decide +kernel) (by rw [hsc]; decide +kernel) (by decide) (lcO_ok h6) (ix_list (enc := (eT PyData.int)) (c := anyOs) (ex_v (i := 1) (j := 1) B rfl rfl rfl) (fun _ _ => rdl_dat) trivial) (fun _ _ => trivial) (fun _ _ _ => List.Perm.refl _) (fun _ walk3 t tl1 hx hf => by (obtain ⟨y, hy, rfl⟩ := Option.map_eq_some_iff.mp hf; obtain ⟨t5, h5, hy⟩ := bnd hy; obtain rfl := som hy; exact ⟨true, _, fun X1 hX => by (have B1 := Bd.fam (W' := ["walk"]) (G' := ["straightened"]) B hX (by (try rw [hsc]); decide +kernel); have c_p_straightened' := fam_cal hX c_p_straightened; exact ⟨.nil, fun _ => ⟨_, rfl, (ex_call (a := walk3) (b := t5) (gi := 0) (rest := tl1) B1 rfl c_p_straightened' (by decide) h5 (ax_cons (ex_v (i := 2) (j := 0) B1 rfl rfl rfl) ax_nil))⟩, fun h => Bool.noConfusion h⟩)⟩))))) ax_nil)) (fun F H p e o => R.rt F H p e o)
theorem cal_p_petals {P : Program} {w : World} {K : PySem.W.Frag} {mg : Str → Option Value} {base : Heap} {f : Addr} {fd : FuncData} (Fn : Fun K "petals" "petals" s_p_petals f fd) (hmg : mg "petals" = some (.ref f)) (hb : Binds K fd ["letters", "walks"] []) (c_p_need_letters : Cal P w K mg base 3 "need_letters" s_p_need_letters ["letters"] (sp_p_need_letters K)) (c_p_need_walks : Cal P w K mg base 5 "need_walks" s_p_need_walks ["walks", "letters"] (sp_p_need_walks K)) (c_p_petals_of : Cal P w K mg base 1 "petals_of" s_p_petals_of ["walks"] (sp_p_petals_of K)) (c_p_straightened : Cal P w K mg base 1 "straightened" s_p_straightened ["walk"] (sp_p_straightened K)) : Cal P w K mg base 6 "petals" s_p_petals ["letters", "walks"] (sp_p_petals K) := by
  obtain ⟨sts_, hst_⟩ : ∃ z_, defBody s_p_petals = z_ := ⟨_, rfl⟩
  exact cal_NQ (V := V_p_petals) (Gs := G_p_petals) (nl := 1) hst_ Fn sc_p_petals (by decide +kernel) (by decide +kernel) hmg hb (fun _ => rfl) rfl fun _ _ _ _ _ _ _ a b F0 os D B T hm R => body_p_petals rfl hst_ B T c_p_need_letters c_p_need_walks c_p_petals_of c_p_straightened a.1 a.2 b F0 os D hm R
abbrev s_p_is_pair : Stmt := top 21
def N_p_is_pair : List Str := ["value", "many", "number"]
def V_p_is_pair : List Str := ["value", "many"]
def G_p_is_pair : List Str := ["isinstance", "tuple", "len", "all"]
theorem sc_p_is_pair : FnScope N_p_is_pair ["value", "many"] (defScope s_p_is_pair) := ⟨rfl, rfl, rfl, by decide +kernel, rfl, by decide +kernel, by decide +kernel⟩
abbrev sp_p_is_pair (K : PySem.W.Frag) : Sp := spZ (α := ((Int × Int) × Int)) (β := Bool) (fun a => [(dat (PyData.tuple [(PyData.int a.1.1), (PyData.int a.1.2)])), (dat (PyData.int a.2))]) (fun a => []) (fun a => m_p_is_pair a.1 a.2) (fun a b => (dat (PyData.bool b))) (fun a b => [])
set_option maxHeartbeats 4000000 in
theorem body_p_is_pair {X : Cx} (hsc : X.env.scope = defScope s_p_is_pair) {sts_ : List Stmt} (hst_ : defBody s_p_is_pair = sts_) (B : Bd X N_p_is_pair V_p_is_pair G_p_is_pair 1) (T : Bt X V_p_is_pair) (g_isinstance : X.mg "isinstance" = none) (g_tuple : X.mg "tuple" = none) (g_len : X.mg "len" = none) (g_all : X.mg "all" = none) (c_p_is_integer : Cal X.prog X.w X.K X.mg X.base 1 "is_integer" s_p_is_integer ["value"] (sp_p_is_integer X.K)) (value : (Int × Int)) (many : Int) (b : Bool) (F0 : Hp) (os : Os) (D : Ends) (hm : m_p_is_pair value many = some b) (R : RetZ F0 (os) (dat (PyData.bool b)) D) :
    SX X [sl (dat (PyData.tuple [(PyData.int value.1), (PyData.int value.2)])), sl (dat (PyData.int many)), un] (os) F0 sts_ D := by
  subst hst_
  unfold m_p_is_pair at hm
  obtain ⟨t6, h6, hm⟩ := bnd hm
  refine sx_if (WX.tx (wx_or (l := t6) (os2 := os) (tx_not (tx_val (ex_fn (j := 0) B rfl g_isinstance (by decide +kernel) call_isi (rc_isi (d := (PyData.tuple [(PyData.int value.1), (PyData.int value.2)])) (T := "tuple") (show kitB "tuple" "tuple" = some true by decide +kernel)) (ax_cons (ex_v (i := 0) (j := 0) B rfl rfl rfl) (ax_cons (ex_tyname (T := "tuple") (gi := 1) B rfl g_tuple (by decide +kernel)) ax_nil))) (by intro _; rfl))) (fun hk => by (have hm := ifF h6 hk; obtain ⟨t5, h5, hm⟩ := bnd hm; obtain rfl := som hm; exact (wx_or (l := t5) (os2 := os) (tx_cmp op_ne r2_neI (nomark _) (ex_fn (j := 2) B rfl g_len (by decide +kernel) call_len_seq rc_len2 (ax_cons (ex_v (i := 0) (j := 0) B rfl rfl rfl) ax_nil)) ex_int) (fun hk => by (have hm := ifF h5 hk; obtain ⟨t4, h4, hm⟩ := bnd hm; obtain rfl := som hm; exact (wx_or1 (tx_not (tx_val (ex_fn (j := 3) B rfl g_all (by decide +kernel) (cr_all B.calm) (rc_all rdl_dat) (ax_cons (EN.ex (en_lc (lc_mk1 (j := 2) (vp := fun number1 => (dat (PyData.int number1))) (c := anyOs) (enc := PyData.bool) (fun (_ : Unit) (number1 : Int) => ((fun (number1 : Int) => ((m_p_is_integer number1).bind fun t3 => some t3)) number1).map fun y => (some y, ())) (fun (_ : Unit) (tl1 : Os) => tl1) () (t4) () B rfl rfl (by rw [B.hN, hsc]; decide +kernel) (by rw [hsc]; decide +kernel) (by decide) (lcO_ok h4) (ix_tup (enc := PyData.int) (xs := [value.1, value.2]) (ex_v (i := 0) (j := 0) B rfl rfl rfl) rdt_dat) (fun _ _ => trivial) (fun _ _ _ => List.Perm.refl _) (fun _ number1 t tl1 hx hf => by (obtain ⟨y, hy, rfl⟩ := Option.map_eq_some_iff.mp hf; obtain ⟨t3, h3, hy⟩ := bnd hy; obtain rfl := som hy; exact ⟨true, _, fun X1 hX => by (have B1 := Bd.fam (W' := ["number"]) (G' := ["is_integer"]) B hX (by (try rw [hsc]); decide +kernel); have c_p_is_integer' := fam_cal hX c_p_is_integer; exact ⟨.nil, fun _ => ⟨_, rfl, (ex_call (a := number1) (b := t3) (gi := 0) (rest := tl1) B1 rfl c_p_is_integer' (by decide) h3 (ax_cons (ex_v (i := 2) (j := 0) B1 rfl rfl rfl) ax_nil))⟩, fun h => Bool.noConfusion h⟩)⟩))))) ax_nil)) (by intro _; rfl)))))) (fun hk => by (have hm := ifT h5 hk; obtain rfl := som hm; rfl)) (or_fix (fun hk => by (have hm := ifT h5 hk; obtain rfl := som hm; rfl)))))) (fun hk => by (have hm := ifT h6 hk; obtain rfl := som hm; rfl)) (or_fix (fun hk => by (have hm := ifT h6 hk; obtain rfl := som hm; rfl))))) (fun hk => ?_) (fun hk => ?_)
  · have hm := ifT hm hk
    obtain rfl := som hm
    exact sx_ret ex_bool (fun F H v e o c => R.rt F H v e o c)
  · have hm := ifF hm hk
    refine sx_fall ?_ rfl
    obtain rfl := som hm
    exact sx_ret (ex_chain3 op_le op_lt op_lt r2_le r2_lt r2_lt ex_int (ex_ixT rdt_dat (by rfl) (ex_v (i := 0) (j := 0) B rfl rfl rfl) ex_int) (ex_ixT rdt_dat (by rfl) (ex_v (i := 0) (j := 0) B rfl rfl rfl) ex_int) (ex_v (i := 1) (j := 1) B rfl rfl rfl)) (fun F H v e o c => R.rt F H v e o c)
theorem cal_p_is_pair {P : Program} {w : World} {K : PySem.W.Frag} {mg : Str → Option Value} {base : Heap} {f : Addr} {fd : FuncData} (Fn : Fun K "is_pair" "is_pair" s_p_is_pair f fd) (hmg : mg "is_pair" = some (.ref f)) (hb : Binds K fd ["value", "many"] []) (g_isinstance : mg "isinstance" = none) (g_tuple : mg "tuple" = none) (g_len : mg "len" = none) (g_all : mg "all" = none) (c_p_is_integer : Cal P w K mg base 1 "is_integer" s_p_is_integer ["value"] (sp_p_is_integer K)) : Cal P w K mg base 2 "is_pair" s_p_is_pair ["value", "many"] (sp_p_is_pair K) := by
  obtain ⟨sts_, hst_⟩ : ∃ z_, defBody s_p_is_pair = z_ := ⟨_, rfl⟩
  exact cal_ZQ (V := V_p_is_pair) (Gs := G_p_is_pair) (nl := 1) hst_ Fn sc_p_is_pair (by decide +kernel) (by decide +kernel) hmg hb (fun _ => rfl) rfl fun _ _ _ _ _ _ _ a b F0 os D B T hm R => body_p_is_pair rfl hst_ B T g_isinstance g_tuple g_len g_all c_p_is_integer a.1 a.2 b F0 os D hm R
abbrev s_p_is_pair_d : Stmt := top 21
def N_p_is_pair_d : List Str := ["value", "many", "number"]
def V_p_is_pair_d : List Str := ["value", "many"]
def G_p_is_pair_d : List Str := ["isinstance", "tuple", "len", "all"]
theorem sc_p_is_pair_d : FnScope N_p_is_pair_d ["value", "many"] (defScope s_p_is_pair_d) := ⟨rfl, rfl, rfl, by decide +kernel, rfl, by decide +kernel, by decide +kernel⟩
abbrev sp_p_is_pair_d (K : PySem.W.Frag) : Sp := spZ (α := (PyData × Int)) (β := Bool) (fun a => [(dat a.1), (dat (PyData.int a.2))]) (fun a => []) (fun a => m_p_is_pair_d a.1 a.2) (fun a b => (dat (PyData.bool b))) (fun a b => [])
set_option maxHeartbeats 4000000 in
theorem body_p_is_pair_d {X : Cx} (hsc : X.env.scope = defScope s_p_is_pair_d) {sts_ : List Stmt} (hst_ : defBody s_p_is_pair_d = sts_) (B : Bd X N_p_is_pair_d V_p_is_pair_d G_p_is_pair_d 1) (T : Bt X V_p_is_pair_d) (g_isinstance : X.mg "isinstance" = none) (g_tuple : X.mg "tuple" = none) (g_len : X.mg "len" = none) (g_all : X.mg "all" = none) (c_p_is_integer_d : Cal X.prog X.w X.K X.mg X.base 1 "is_integer" s_p_is_integer_d ["value"] (sp_p_is_integer_d X.K)) (value : PyData) (many : Int) (b : Bool) (F0 : Hp) (os : Os) (D : Ends) (hm : m_p_is_pair_d value many = some b) (R : RetZ F0 (os) (dat (PyData.bool b)) D) :
    SX X [sl (dat value), sl (dat (PyData.int many)), un] (os) F0 sts_ D := by
  subst hst_
  unfold m_p_is_pair_d at hm
  obtain ⟨t1, h1, hm⟩ := bnd hm
  obtain ⟨t9, h9, hm⟩ := bnd hm
  refine sx_if (WX.tx (wx_or (l := t9) (os2 := os) (tx_not (tx_val (ex_fn (j := 0) B rfl g_isinstance (by decide +kernel) call_isi (rc_isiD kB_tuple h1) (ax_cons (ex_v (i := 0) (j := 0) B rfl rfl rfl) (ax_cons (ex_tyname (T := "tuple") (gi := 1) B rfl g_tuple (by decide +kernel)) ax_nil))) (by intro _; rfl))) (fun hk => by (have hm := ifF h9 hk; obtain ⟨t2, h2, hm⟩ := bnd hm; obtain ⟨t8, h8, hm⟩ := bnd hm; obtain rfl := som hm; exact (wx_or (l := t8) (os2 := os) (tx_cmp op_ne r2_neI (nomark _) (EX.to (ex_fn (j := 2) B rfl g_len (by decide +kernel) call_len_seq (rc_lenT (ds := List.map id t2) rdt_dat) (ax_cons (EX.to (d' := (PyData.tuple (List.map id t2))) (ex_v (i := 0) (j := 0) B rfl rfl rfl) (asT_eq h2)) ax_nil)) (by rw [List.length_map])) ex_int) (fun hk => by (have hm := ifF h8 hk; obtain ⟨t3, h3, hm⟩ := bnd hm; obtain ⟨t7, h7, hm⟩ := bnd hm; obtain rfl := som hm; exact (wx_or1 (tx_not (tx_val (ex_fn (j := 3) B rfl g_all (by decide +kernel) (cr_all B.calm) (rc_all rdl_dat) (ax_cons (EN.ex (en_lc (lc_mk1 (j := 2) (vp := fun number4 => (dat number4)) (c := anyOs) (enc := PyData.bool) (fun (_ : Unit) (number4 : PyData) => ((fun (number4 : PyData) => ((m_p_is_integer_d number4).bind fun t6 => some t6)) number4).map fun y => (some y, ())) (fun (_ : Unit) (tl1 : Os) => tl1) () (t7) () B rfl rfl (by rw [B.hN, hsc]; decide +kernel) (by rw [hsc]; decide +kernel) (by decide) (lcO_ok h7) (ix_tup (enc := id) (EX.to (d' := (PyData.tuple (List.map id t3))) (ex_v (i := 0) (j := 0) B rfl rfl rfl) (asT_eq h3)) rdt_dat) (fun _ _ => trivial) (fun _ _ _ => List.Perm.refl _) (fun _ number4 t tl1 hx hf => by (obtain ⟨y, hy, rfl⟩ := Option.map_eq_some_iff.mp hf; obtain ⟨t6, h6, hy⟩ := bnd hy; obtain rfl := som hy; exact ⟨true, _, fun X1 hX => by (have B1 := Bd.fam (W' := ["number"]) (G' := ["is_integer"]) B hX (by (try rw [hsc]); decide +kernel); have c_p_is_integer_d' := fam_cal hX c_p_is_integer_d; exact ⟨.nil, fun _ => ⟨_, rfl, (ex_call (a := number4) (b := t6) (gi := 0) (rest := tl1) B1 rfl c_p_is_integer_d' (by decide) h6 (ax_cons (ex_v (i := 2) (j := 0) B1 rfl rfl rfl) ax_nil))⟩, fun h => Bool.noConfusion h⟩)⟩))))) ax_nil)) (by intro _; rfl)))))) (fun hk => by (have hm := ifT h8 hk; obtain rfl := som hm; rfl)) (or_fix (fun hk => by (have hm := ifT h8 hk; obtain rfl := som hm; rfl)))))) (fun hk => by (have hm := ifT h9 hk; obtain rfl := som hm; rfl)) (or_fix (fun hk => by (have hm := ifT h9 hk; obtain rfl := som hm; rfl))))) (fun hk => ?_) (fun hk => ?_)
  · have hm := ifT hm hk
    obtain rfl := som hm
    exact sx_ret ex_bool (fun F H v e o c => R.rt F H v e o c)
  · have hm := ifF hm hk
    refine sx_fall ?_ rfl
    obtain ⟨t10, h10, hm⟩ := bnd hm
    obtain ⟨t11, h11, hm⟩ := bnd hm
    obtain ⟨t12, h12, hm⟩ := bnd hm
    obtain ⟨t13, h13, hm⟩ := bnd hm
    obtain ⟨t14, h14, hm⟩ := bnd hm
    obtain ⟨t15, h15, hm⟩ := bnd hm
    obtain rfl := som hm
    exact sx_ret (ex_chain3 op_le op_lt op_lt r2_le r2_lt r2_lt ex_int (EX.to (d' := (PyData.int t14)) (ex_idxT (enc := id) h11 rdt_dat (EX.to (d' := (PyData.tuple (List.map id t10))) (ex_v (i := 0) (j := 0) B rfl rfl rfl) (asT_eq h10)) ex_int) (asI_eq h14)) (EX.to (d' := (PyData.int t15)) (ex_idxT (enc := id) h13 rdt_dat (EX.to (d' := (PyData.tuple (List.map id t12))) (ex_v (i := 0) (j := 0) B rfl rfl rfl) (asT_eq h12)) ex_int) (asI_eq h15)) (ex_v (i := 1) (j := 1) B rfl rfl rfl)) (fun F H v e o c => R.rt F H v e o c)
theorem cal_p_is_pair_d {P : Program} {w : World} {K : PySem.W.Frag} {mg : Str → Option Value} {base : Heap} {f : Addr} {fd : FuncData} (Fn : Fun K "is_pair" "is_pair" s_p_is_pair_d f fd) (hmg : mg "is_pair" = some (.ref f)) (hb : Binds K fd ["value", "many"] []) (g_isinstance : mg "isinstance" = none) (g_tuple : mg "tuple" = none) (g_len : mg "len" = none) (g_all : mg "all" = none) (c_p_is_integer_d : Cal P w K mg base 1 "is_integer" s_p_is_integer_d ["value"] (sp_p_is_integer_d K)) : Cal P w K mg base 2 "is_pair" s_p_is_pair_d ["value", "many"] (sp_p_is_pair_d K) := by
  obtain ⟨sts_, hst_⟩ : ∃ z_, defBody s_p_is_pair_d = z_ := ⟨_, rfl⟩
  exact cal_ZQ (V := V_p_is_pair_d) (Gs := G_p_is_pair_d) (nl := 1) hst_ Fn sc_p_is_pair_d (by decide +kernel) (by decide +kernel) hmg hb (fun _ => rfl) rfl fun _ _ _ _ _ _ _ a b F0 os D B T hm R => body_p_is_pair_d rfl hst_ B T g_isinstance g_tuple g_len g_all c_p_is_integer_d a.1 a.2 b F0 os D hm R
abbrev s_p_unlike_ends : Stmt := top 22
def N_p_unlike_ends : List Str := ["heads", "one", "other", "starts", "goals"]
def V_p_unlike_ends : List Str := ["heads", "one", "other", "starts", "goals"]
def G_p_unlike_ends : List Str := ["head_of"]
theorem sc_p_unlike_ends : FnScope N_p_unlike_ends ["heads", "one", "other"] (defScope s_p_unlike_ends) := ⟨rfl, rfl, rfl, by decide +kernel, rfl, by decide +kernel, by decide +kernel⟩
abbrev sp_p_unlike_ends (K : PySem.W.Frag) : Sp := spZ (α := (Addr × (List Int) × (Tri Int Int Int) × (Tri Int Int Int))) (β := ((Option (Int × Int)) × (List Int))) (fun a => [own a.1, (dat (PyData.tuple [(PyData.int a.2.2.1.a), (PyData.int a.2.2.1.b), (PyData.int a.2.2.1.c)])), (dat (PyData.tuple [(PyData.int a.2.2.2.a), (PyData.int a.2.2.2.b), (PyData.int a.2.2.2.c)]))]) (fun a => (a.1, ol (List.map PyData.int a.2.1)) :: []) (fun a => m_p_unlike_ends a.2.1 a.2.2.1 a.2.2.2) (fun a b => (dat ((eO (eP PyData.int PyData.int)) b.1))) (fun a b => (a.1, ol (List.map PyData.int b.2)) :: [])
set_option maxHeartbeats 4000000 in
theorem body_p_unlike_ends {X : Cx} (hsc : X.env.scope = defScope s_p_unlike_ends) {sts_ : List Stmt} (hst_ : defBody s_p_unlike_ends = sts_) (B : Bd X N_p_unlike_ends V_p_unlike_ends G_p_unlike_ends 1) (T : Bt X V_p_unlike_ends) (c_p_head_of : Cal X.prog X.w X.K X.mg X.base 1 "head_of" s_p_head_of ["heads", "room"] (sp_p_head_of X.K)) (q_heads : Addr) (w_heads : (List Int)) (one : (Tri Int Int Int)) (other : (Tri Int Int Int)) (b : ((Option (Int × Int)) × (List Int))) (F0 : Hp) (os : Os) (D : Ends) (hm : m_p_unlike_ends w_heads one other = some b) (R : RetZ F0 ((q_heads, ol (List.map PyData.int b.2)) :: os) (dat ((eO (eP PyData.int PyData.int)) b.1)) D) :
    SX X [sl (own q_heads), sl (dat (PyData.tuple [(PyData.int one.a), (PyData.int one.b), (PyData.int one.c)])), sl (dat (PyData.tuple [(PyData.int other.a), (PyData.int other.b), (PyData.int other.c)])), un, un] ((q_heads, ol (List.map PyData.int w_heads)) :: os) F0 sts_ D := by
  subst hst_
  unfold m_p_unlike_ends at hm
  refine sx_if (tx_cmp op_ne r2_neI (nomark _) (ex_ixT rdt_dat (by rfl) (ex_v (i := 1) (j := 1) B rfl rfl rfl) ex_int) (ex_ixT rdt_dat (by rfl) (ex_v (i := 2) (j := 2) B rfl rfl rfl) ex_int)) (fun hk => ?_) (fun hk => ?_)
  · have hm := ifT hm hk
    obtain rfl := som hm
    exact sx_ret ex_none (fun F H v e o c => R.rt F H v e o c)
  · have hm := ifF hm hk
    refine sx_fall ?_ rfl
    obtain ⟨t1, h1, hm⟩ := bnd hm
    obtain ⟨t2, h2, hm⟩ := bnd hm
    refine sx_asg (i := 3) (vi := 3) (φ := (dat (PyData.tuple [(PyData.int (t1.1, t2.1).1), (PyData.int (t1.1, t2.1).2)]))) B T rfl rfl (ex_tup (ds := [(PyData.int t1.1), (PyData.int t2.1)]) (hl := len_ok (n := 2) rfl) (ax_cons (ex_call (a := (q_heads, w_heads, one.a)) (b := t1) (gi := 0) (rest := os) B rfl c_p_head_of (by decide) h1 (ax_cons (ex_v (i := 0) (j := 0) B rfl rfl rfl) (ax_cons (ex_ixT rdt_dat (by rfl) (ex_v (i := 1) (j := 1) B rfl rfl rfl) ex_int) ax_nil))) (ax_cons (ex_call (a := (q_heads, t1.2, other.a)) (b := t2) (gi := 0) (rest := os) B rfl c_p_head_of (by decide) h2 (ax_cons (ex_v (i := 0) (j := 0) B rfl rfl rfl) (ax_cons (ex_ixT rdt_dat (by rfl) (ex_v (i := 2) (j := 2) B rfl rfl rfl) ex_int) ax_nil))) ax_nil))) ?_
    obtain ⟨t3, h3, hm⟩ := bnd hm
    obtain ⟨t4, h4, hm⟩ := bnd hm
    refine sx_asg (i := 4) (vi := 4) (φ := (dat (PyData.tuple [(PyData.int (t3.1, t4.1).1), (PyData.int (t3.1, t4.1).2)]))) B T rfl rfl (ex_tup (ds := [(PyData.int t3.1), (PyData.int t4.1)]) (hl := len_ok (n := 2) rfl) (ax_cons (ex_call (a := (q_heads, t2.2, one.c)) (b := t3) (gi := 0) (rest := os) B rfl c_p_head_of (by decide) h3 (ax_cons (ex_v (i := 0) (j := 0) B rfl rfl rfl) (ax_cons (ex_ixT rdt_dat (by rfl) (ex_v (i := 1) (j := 1) B rfl rfl rfl) ex_int) ax_nil))) (ax_cons (ex_call (a := (q_heads, t3.2, other.c)) (b := t4) (gi := 0) (rest := os) B rfl c_p_head_of (by decide) h4 (ax_cons (ex_v (i := 0) (j := 0) B rfl rfl rfl) (ax_cons (ex_ixT rdt_dat (by rfl) (ex_v (i := 2) (j := 2) B rfl rfl rfl) ex_int) ax_nil))) ax_nil))) ?_
    refine sx_if (WX.tx (wx_and (tx_cmp op_eq r2_eqI (nomark _) (ex_ixT rdt_dat (by rfl) (ex_v (i := 3) (j := 3) B rfl rfl rfl) ex_int) (ex_ixT rdt_dat (by rfl) (ex_v (i := 3) (j := 3) B rfl rfl rfl) ex_int)) (fun _ => (wx_and1 (tx_cmp op_ne r2_neI (nomark _) (ex_ixT rdt_dat (by rfl) (ex_v (i := 4) (j := 4) B rfl rfl rfl) ex_int) (ex_ixT rdt_dat (by rfl) (ex_v (i := 4) (j := 4) B rfl rfl rfl) ex_int)))) (fun _ => rfl) rfl)) (fun hk => ?_) (fun hk => ?_)
    · have hm := ifT hm hk
      obtain rfl := som hm
      exact sx_ret (ex_v (i := 4) (j := 4) B rfl rfl rfl) (fun F H v e o c => R.rt F H v e o c)
    · have hm := ifF hm hk
      refine sx_fall ?_ rfl
      refine sx_if (WX.tx (wx_and (tx_cmp op_eq r2_eqI (nomark _) (ex_ixT rdt_dat (by rfl) (ex_v (i := 4) (j := 4) B rfl rfl rfl) ex_int) (ex_ixT rdt_dat (by rfl) (ex_v (i := 4) (j := 4) B rfl rfl rfl) ex_int)) (fun _ => (wx_and1 (tx_cmp op_ne r2_neI (nomark _) (ex_ixT rdt_dat (by rfl) (ex_v (i := 3) (j := 3) B rfl rfl rfl) ex_int) (ex_ixT rdt_dat (by rfl) (ex_v (i := 3) (j := 3) B rfl rfl rfl) ex_int)))) (fun _ => rfl) rfl)) (fun hk => ?_) (fun hk => ?_)
      · have hm := ifT hm hk
        obtain rfl := som hm
        exact sx_ret (ex_v (i := 3) (j := 3) B rfl rfl rfl) (fun F H v e o c => R.rt F H v e o c)
      · have hm := ifF hm hk
        refine sx_fall ?_ rfl
        obtain rfl := som hm
        exact sx_ret ex_none (fun F H v e o c => R.rt F H v e o c)
theorem cal_p_unlike_ends {P : Program} {w : World} {K : PySem.W.Frag} {mg : Str → Option Value} {base : Heap} {f : Addr} {fd : FuncData} (Fn : Fun K "unlike_ends" "unlike_ends" s_p_unlike_ends f fd) (hmg : mg "unlike_ends" = some (.ref f)) (hb : Binds K fd ["heads", "one", "other"] []) (c_p_head_of : Cal P w K mg base 1 "head_of" s_p_head_of ["heads", "room"] (sp_p_head_of K)) : Cal P w K mg base 2 "unlike_ends" s_p_unlike_ends ["heads", "one", "other"] (sp_p_unlike_ends K) := by
  obtain ⟨sts_, hst_⟩ : ∃ z_, defBody s_p_unlike_ends = z_ := ⟨_, rfl⟩
  exact cal_ZQ (V := V_p_unlike_ends) (Gs := G_p_unlike_ends) (nl := 2) hst_ Fn sc_p_unlike_ends (by decide +kernel) (by decide +kernel) hmg hb (fun _ => rfl) rfl fun _ _ _ _ _ _ _ a b F0 os D B T hm R => body_p_unlike_ends rfl hst_ B T c_p_head_of a.1 a.2.1 a.2.2.1 a.2.2.2 b F0 os D hm R
abbrev s_p_is_settled : Stmt := top 23
def N_p_is_settled : List Str := ["heads", "ways", "ends", "room", "letter", "goal", "start", "end"]
def V_p_is_settled : List Str := ["heads", "ways", "ends", "room", "letter", "goal", "start", "end"]
def G_p_is_settled : List Str := ["head_of"]
theorem sc_p_is_settled : FnScope N_p_is_settled ["heads", "ways"] (defScope s_p_is_settled) := ⟨rfl, rfl, rfl, by decide +kernel, rfl, by decide +kernel, by decide +kernel⟩
abbrev sp_p_is_settled (K : PySem.W.Frag) : Sp := spZ (α := (Addr × (List Int) × (List (Tri Int Int Int)))) (β := (Bool × (List Int))) (fun a => [own a.1, (dat (PyData.list (List.map (eP3 PyData.int PyData.int PyData.int) a.2.2)))]) (fun a => (a.1, ol (List.map PyData.int a.2.1)) :: []) (fun a => m_p_is_settled a.2.1 a.2.2) (fun a b => (dat (PyData.bool b.1))) (fun a b => (a.1, ol (List.map PyData.int b.2)) :: [])
set_option maxHeartbeats 4000000 in
theorem body_p_is_settled {X : Cx} (hsc : X.env.scope = defScope s_p_is_settled) {sts_ : List Stmt} (hst_ : defBody s_p_is_settled = sts_) (B : Bd X N_p_is_settled V_p_is_settled G_p_is_settled 1) (T : Bt X V_p_is_settled) (c_p_head_of : Cal X.prog X.w X.K X.mg X.base 1 "head_of" s_p_head_of ["heads", "room"] (sp_p_head_of X.K)) (q_heads : Addr) (w_heads : (List Int)) (ways : (List (Tri Int Int Int))) (b : (Bool × (List Int))) (F0 : Hp) (os : Os) (D : Ends) (hm : m_p_is_settled w_heads ways = some b) (R : RetZ F0 ((q_heads, ol (List.map PyData.int b.2)) :: os) (dat (PyData.bool b.1)) D) :
    SX X [sl (own q_heads), sl (dat (PyData.list (List.map (eP3 PyData.int PyData.int PyData.int) ways))), un, un, un, un, un, un] ((q_heads, ol (List.map PyData.int w_heads)) :: os) F0 sts_ D := by
  subst hst_
  unfold m_p_is_settled at hm
  refine sx_asgN (i := 2) (vi := 2) (n := od kII (eM PyData.int ([] : (List ((Int × Int) × Int))))) B T rfl rfl (en_dnew (kd := kII)) (fun q_ends0 => ?_)
  obtain ⟨f3o, h11, hm⟩ := bnd hm
  refine sx_forR (c := anyOs) _ (fun (s1 : ((List ((Int × Int) × Int)) × (List Int))) (_ : Unit) => [sl (own q_heads), sl (dat (PyData.list (List.map (eP3 PyData.int PyData.int PyData.int) ways))), sl (own q_ends0), un, un, un, un, un]) (fun (s1 : ((List ((Int × Int) × Int)) × (List Int))) (_ : Unit) => (q_ends0, od kII (eM PyData.int s1.1)) :: (q_heads, ol (List.map PyData.int s1.2)) :: os) (fun (r : (Bool × (List Int))) v H => ∃ F, Same F0 F ∧ Ow F ((q_heads, ol (List.map PyData.int r.2)) :: os) H ∧ Cl (dat (PyData.bool r.1)) F v) B T (fun x2 => gx_triple B (gx_name (i := 3) (vi := 3) (φ := (dat (PyData.int x2.a))) B T rfl rfl) (gx_name (i := 4) (vi := 4) (φ := (dat (PyData.int x2.b))) B T rfl rfl) (gx_name (i := 5) (vi := 5) (φ := (dat (PyData.int x2.c))) B T rfl rfl)) (([] : (List ((Int × Int) × Int))), w_heads) () f3o h11 (ix_list (enc := (eP3 PyData.int PyData.int PyData.int)) (c := anyOs) (ex_v (i := 1) (j := 1) B rfl rfl rfl) (fun _ _ => rdl_dat) trivial) ⟨.inl rfl, .inl rfl, .inl rfl, .inl rfl, .inl rfl, .inl rfl, .inl rfl, .inl rfl, trivial⟩ (fun _ _ => trivial) (fun F5 e4 s1 _ x2 z13 hx hm2 => ?_) (fun f3 _ ho => ?_) (fun r12 v H ho hr => ?_)
  · clear hm h11
    have hm := hm2
    obtain ⟨t6, h6, hm⟩ := bnd hm
    obtain ⟨t7, h7, hm⟩ := bnd hm
    refine sx_par2 (i := 6) (j := 7) _ hsc B rfl rfl (by decide) (by decide +kernel) (by decide +kernel) (by intro env he; cases env; cases he; first | rfl | kernel_rfl) (aq_x (φ := (dat (PyData.int t6.1))) (EX.pre (ex_call (a := (q_heads, s1.2, x2.a)) (b := t6) (gi := 0) (rest := (q_ends0, od kII (eM PyData.int s1.1)) :: os) B rfl c_p_head_of (by decide) h6 (ax_cons (ex_v (i := 0) (j := 0) B rfl rfl rfl) (ax_cons (ex_v (i := 3) (j := 3) B rfl rfl rfl) ax_nil))) (perm_at (k := 1) rfl)) (aq_x (φ := (dat (PyData.int t7.1))) (ex_call (a := (q_heads, t6.2, x2.c)) (b := t7) (gi := 0) (rest := (q_ends0, od kII (eM PyData.int s1.1)) :: os) B rfl c_p_head_of (by decide) h7 (ax_cons (ex_v (i := 0) (j := 0) B rfl rfl rfl) (ax_cons (ex_v (i := 5) (j := 5) B rfl rfl rfl) ax_nil))) aq_nil)) (fun v0 v1 os_ hr_ => ?_) (by rintro φs os_ ⟨_, rfl, _, rfl, rfl, rfl⟩; exact ⟨_, _, rfl⟩)
    obtain ⟨_, e0, _, e1, e8, e9⟩ := hr_
    cases e0; cases e1; cases e8; cases e9
    obtain ⟨t8, h8, hm⟩ := bnd hm
    obtain ⟨t10, h10, hm⟩ := bnd hm
    refine sx_if (WX.tx (wx_or (l := t10.1) (os2 := (q_heads, ol (List.map PyData.int t7.2)) :: (q_ends0, od kII (eM PyData.int t10.2)) :: os) (tx_cmp op_ne r2_neI (nomark _) (ex_dsetdT (enc := PyData.int) (w := s1.1) B inj_kII h8 (ex_v (i := 2) (j := 2) B rfl rfl rfl) (rdd_own 1 rfl) (ex_tup (ds := [(PyData.int t6.1), (PyData.int x2.b)]) (hl := len_ok (n := 2) rfl) (ax_cons (ex_v (i := 6) (j := 6) B rfl rfl rfl) (ax_cons (ex_v (i := 4) (j := 4) B rfl rfl rfl) ax_nil))) (ex_v (i := 7) (j := 7) B rfl rfl rfl) (wr_flat (f := (odT kII PyData.int)) (d := s1.1) 1 rfl) (wr_same_flat (f := (odT kII PyData.int)) (d := s1.1) 1 rfl)) (ex_v (i := 7) (j := 7) B rfl rfl rfl)) (fun hk => by (have hm := ifF h10 hk; obtain ⟨t9, h9, hm⟩ := bnd hm; obtain rfl := som hm; exact (wx_or1 (tx_cmp op_ne r2_neI (nomark _) (ex_dsetdT (enc := PyData.int) (w := t8.2) B inj_kII h9 (ex_v (i := 2) (j := 2) B rfl rfl rfl) (rdd_own 1 rfl) (ex_tup (ds := [(PyData.int t7.1), (PyData.int (-x2.b))]) (hl := len_ok (n := 2) rfl) (ax_cons (ex_v (i := 7) (j := 7) B rfl rfl rfl) (ax_cons (ex_neg (ex_v (i := 4) (j := 4) B rfl rfl rfl)) ax_nil))) (ex_v (i := 6) (j := 6) B rfl rfl rfl) (wr_flat (f := (odT kII PyData.int)) (d := t8.2) 1 rfl) (wr_same_flat (f := (odT kII PyData.int)) (d := t8.2) 1 rfl)) (ex_v (i := 6) (j := 6) B rfl rfl rfl))))) (fun hk => by (have hm := ifT h10 hk; obtain rfl := som hm; rfl)) (or_fix (fun hk => by (have hm := ifT h10 hk; obtain rfl := som hm; rfl))))) (fun hk => ?_) (fun hk => ?_)
    · have hm := ifT hm hk
      exact sx_ret ex_bool (fun F H v e o c => ⟨_, (som hm).symm, F, (e4.trans e), ((o.perm (perm_at (k := 1) rfl)).drop), c⟩)
    · have hm := ifF hm hk
      refine sx_fall ?_ rfl
      exact sx_nil fun σ H a => ⟨_, (), (som hm).symm, ((a.perm (perm_at (k := 1) rfl)).weak ⟨.inl rfl, .inl rfl, .inl rfl, .inr rfl, .inr rfl, .inr rfl, .inr rfl, .inr rfl, trivial⟩)⟩
  · cases ho
    have hm := elimR hm
    obtain rfl := som hm
    exact sx_ret ex_bool (fun F H v e o c => R.rt F H v e (o.drop) c)
  · cases ho
    have hm := elimL hm
    obtain rfl := som hm
    obtain ⟨F, e, o, c⟩ := hr
    exact R.rt F H v e o c
theorem cal_p_is_settled {P : Program} {w : World} {K : PySem.W.Frag} {mg : Str → Option Value} {base : Heap} {f : Addr} {fd : FuncData} (Fn : Fun K "is_settled" "is_settled" s_p_is_settled f fd) (hmg : mg "is_settled" = some (.ref f)) (hb : Binds K fd ["heads", "ways"] []) (c_p_head_of : Cal P w K mg base 1 "head_of" s_p_head_of ["heads", "room"] (sp_p_head_of K)) : Cal P w K mg base 2 "is_settled" s_p_is_settled ["heads", "ways"] (sp_p_is_settled K) := by
  obtain ⟨sts_, hst_⟩ : ∃ z_, defBody s_p_is_settled = z_ := ⟨_, rfl⟩
  exact cal_ZQ (V := V_p_is_settled) (Gs := G_p_is_settled) (nl := 6) hst_ Fn sc_p_is_settled (by decide +kernel) (by decide +kernel) hmg hb (fun _ => rfl) rfl fun _ _ _ _ _ _ _ a b F0 os D B T hm R => body_p_is_settled rfl hst_ B T c_p_head_of a.1 a.2.1 a.2.2 b F0 os D hm R
abbrev s_p_joinings_hold : Stmt := top 24
def N_p_joinings_hold : List Str := ["letters", "walks", "value", "count", "ways", "heads", "pair", "rooms"]
def V_p_joinings_hold : List Str := ["letters", "walks", "value", "count", "ways", "heads", "pair", "rooms"]
def G_p_joinings_hold : List Str := ["petals", "isinstance", "list", "range", "is_pair", "len", "unlike_ends", "max", "min", "is_settled"]
theorem sc_p_joinings_hold : FnScope N_p_joinings_hold ["letters", "walks", "value"] (defScope s_p_joinings_hold) := ⟨rfl, rfl, rfl, by decide +kernel, rfl, by decide +kernel, by decide +kernel⟩
abbrev sp_p_joinings_hold (K : PySem.W.Frag) : Sp := spZ (α := (Int × (List (List Int)) × (List (Int × Int)))) (β := Bool) (fun a => [(dat (PyData.int a.1)), (dat (PyData.list (List.map (eT PyData.int) a.2.1))), (dat (PyData.list (List.map (eP PyData.int PyData.int) a.2.2)))]) (fun a => []) (fun a => m_p_joinings_hold a.1 a.2.1 a.2.2) (fun a b => (dat (PyData.bool b))) (fun a b => [])
set_option maxHeartbeats 4000000 in
theorem body_p_joinings_hold {X : Cx} (hsc : X.env.scope = defScope s_p_joinings_hold) {sts_ : List Stmt} (hst_ : defBody s_p_joinings_hold = sts_) (B : Bd X N_p_joinings_hold V_p_joinings_hold G_p_joinings_hold 6) (T : Bt X V_p_joinings_hold) (c_p_petals : Cal X.prog X.w X.K X.mg X.base 6 "petals" s_p_petals ["letters", "walks"] (sp_p_petals X.K)) (g_isinstance : X.mg "isinstance" = none) (g_list : X.mg "list" = none) (g_range : X.mg "range" = none) (c_p_is_pair : Cal X.prog X.w X.K X.mg X.base 2 "is_pair" s_p_is_pair ["value", "many"] (sp_p_is_pair X.K)) (g_len : X.mg "len" = none) (c_p_unlike_ends : Cal X.prog X.w X.K X.mg X.base 2 "unlike_ends" s_p_unlike_ends ["heads", "one", "other"] (sp_p_unlike_ends X.K)) (g_min : X.mg "min" = none) (g_max : X.mg "max" = none) (c_p_is_settled : Cal X.prog X.w X.K X.mg X.base 2 "is_settled" s_p_is_settled ["heads", "ways"] (sp_p_is_settled X.K)) (letters : Int) (walks : (List (List Int))) (value : (List (Int × Int))) (b : Bool) (F0 : Hp) (os : Os) (D : Ends) (hm : m_p_joinings_hold letters walks value = some b) (R : RetZ F0 (os) (dat (PyData.bool b)) D) :
    SX X [sl (dat (PyData.int letters)), sl (dat (PyData.list (List.map (eT PyData.int) walks))), sl (dat (PyData.list (List.map (eP PyData.int PyData.int) value))), un, un, un, un, un] (os) F0 sts_ D := by
  subst hst_
  unfold m_p_joinings_hold at hm
  obtain ⟨t1, h1, hm⟩ := bnd hm
  refine sx_unp (gx_pair B (gx_name (i := 3) (vi := 3) B T rfl rfl) (gx_name (i := 4) (vi := 4) B T rfl rfl)) (EN.exF (en_call (a := (letters, walks)) (b := t1) (gi := 0) (rest := os) B rfl c_p_petals (by decide) h1 (ax_cons (ex_v (i := 0) (j := 0) B rfl rfl rfl) (ax_cons (ex_v (i := 1) (j := 1) B rfl rfl rfl) ax_nil))) frb_tpE) ?_
  refine sx_if (tx_not (tx_val (ex_fn (j := 1) B rfl g_isinstance (by decide +kernel) call_isi (rc_isi (d := (PyData.list (List.map (eP PyData.int PyData.int) value))) (T := "list") (show kitB "list" "list" = some true by decide +kernel)) (ax_cons (ex_v (i := 2) (j := 2) B rfl rfl rfl) (ax_cons (ex_tyname (T := "list") (gi := 2) B rfl g_list (by decide +kernel)) ax_nil))) (by intro _; rfl))) (fun hk => Bool.noConfusion hk) (fun _ => ?_)
  refine sx_fall ?_ rfl
  obtain ⟨t2, h2, hm⟩ := bnd hm
  refine sx_asgN (i := 5) (vi := 5) (n := ol (List.map PyData.int t2)) B T rfl rfl (en_rgL1 (gi := 2) (gj := 3) B rfl rfl g_list g_range h2 (ex_v (i := 3) (j := 3) B rfl rfl rfl)) (fun q_heads2 => ?_)
  obtain ⟨f5o, h16, hm⟩ := bnd hm
  refine sx_forR (c := anyOs) _ (fun (s3 : (List Int)) (_ : Unit) => [sl (dat (PyData.int letters)), sl (dat (PyData.list (List.map (eT PyData.int) walks))), sl (dat (PyData.list (List.map (eP PyData.int PyData.int) value))), sl (dat (PyData.int t1.1)), sl (dat (PyData.list (List.map (eP3 PyData.int PyData.int PyData.int) t1.2))), sl (own q_heads2), un, un]) (fun (s3 : (List Int)) (_ : Unit) => (q_heads2, ol (List.map PyData.int s3)) :: os) (fun (r : Bool) v H => ∃ F, Same F0 F ∧ Ow F (os) H ∧ Cl (dat (PyData.bool r)) F v) B T (fun pair4 => gx_name (i := 6) (vi := 6) (φ := (dat (PyData.tuple [(PyData.int pair4.1), (PyData.int pair4.2)]))) B T rfl rfl) t2 () f5o h16 (ix_list (enc := (eP PyData.int PyData.int)) (c := anyOs) (ex_v (i := 2) (j := 2) B rfl rfl rfl) (fun _ _ => rdl_dat) trivial) ⟨.inl rfl, .inl rfl, .inl rfl, .inl rfl, .inl rfl, .inl rfl, .inl rfl, .inl rfl, trivial⟩ (fun _ _ => trivial) (fun F7 e6 s3 _ pair4 z19 hx hm2 => ?_) (fun f5 _ ho => ?_) (fun r18 v H ho hr => ?_)
  · clear hm h16
    have hm := hm2
    obtain ⟨t8, h8, hm⟩ := bnd hm
    refine sx_if (tx_not (tx_val (ex_call (a := (pair4, (t1.2.length : Int))) (b := t8) (gi := 4) (rest := (q_heads2, ol (List.map PyData.int s3)) :: os) B rfl c_p_is_pair (by decide) h8 (ax_cons (ex_v (i := 6) (j := 6) B rfl rfl rfl) (ax_cons (EX.to (ex_fn (j := 5) B rfl g_len (by decide +kernel) call_len_seq (rc_lenL (ds := List.map (eP3 PyData.int PyData.int PyData.int) t1.2) rdl_dat) (ax_cons (ex_v (i := 4) (j := 4) B rfl rfl rfl) ax_nil)) (by rw [List.length_map])) ax_nil))) (by intro _; rfl))) (fun hk => ?_) (fun hk => ?_)
    · have hm := ifT hm hk
      exact sx_ret ex_bool (fun F H v e o c => ⟨_, (som hm).symm, F, (e6.trans e), (o.drop), c⟩)
    · have hm := ifF hm hk
      refine sx_fall ?_ rfl
      obtain ⟨t9, h9, hm⟩ := bnd hm
      obtain ⟨t10, h10, hm⟩ := bnd hm
      obtain ⟨t11, h11, hm⟩ := bnd hm
      refine sx_asg (i := 7) (vi := 7) (φ := (dat ((eO (eP PyData.int PyData.int)) t11.1))) B T rfl rfl (ex_call (a := (q_heads2, s3, t9, t10)) (b := t11) (gi := 6) (rest := os) B rfl c_p_unlike_ends (by decide) h11 (ax_cons (ex_v (i := 5) (j := 5) B rfl rfl rfl) (ax_cons (ex_idxL (enc := (eP3 PyData.int PyData.int PyData.int)) h9 rdl_dat (ex_v (i := 4) (j := 4) B rfl rfl rfl) (ex_ixT rdt_dat (by rfl) (ex_v (i := 6) (j := 6) B rfl rfl rfl) ex_int)) (ax_cons (ex_idxL (enc := (eP3 PyData.int PyData.int PyData.int)) h10 rdl_dat (ex_v (i := 4) (j := 4) B rfl rfl rfl) (ex_ixT rdt_dat (by rfl) (ex_v (i := 6) (j := 6) B rfl rfl rfl) ex_int)) ax_nil)))) ?_
      cases hq15 : t11.1 with
      | none =>
        rw [hq15] at hm
        refine sx_if (tx_cmp op_isN (r2_isN (d := PyData.none) (t := true) rfl) (nomark _) (ex_v (i := 7) (j := 7) B rfl rfl rfl) ex_none) (fun _ => ?_) (fun hk => Bool.noConfusion hk)
        exact sx_ret ex_bool (fun F H v e o c => ⟨_, (som hm).symm, F, (e6.trans e), (o.drop), c⟩)
      | some rooms12 =>
        rw [hq15] at hm
        refine sx_if (tx_cmp op_isN (r2_isN (d := (PyData.tuple [(PyData.int rooms12.1), (PyData.int rooms12.2)])) (t := false) rfl) (nomark _) (ex_v (i := 7) (j := 7) B rfl rfl rfl) ex_none) (fun hk => Bool.noConfusion hk) (fun _ => ?_)
        refine sx_fall ?_ rfl
        obtain ⟨t13, h13, hm⟩ := bnd hm
        obtain ⟨t14, h14, hm⟩ := bnd hm
        obtain ⟨t15, h15, hm⟩ := bnd hm
        refine sx_setO (enc := PyData.int) (j := 0) h15 (ex_fn (j := 8) B rfl g_min (by decide +kernel) (cr_minT B.calm) (rc_minT h13 rdt_dat) (ax_cons (EX.to (ex_v (i := 7) (j := 7) B rfl rfl rfl) (by rfl)) ax_nil)) (ex_v (i := 5) (j := 5) B rfl rfl rfl) (ex_fn (j := 7) B rfl g_max (by decide +kernel) (cr_maxT B.calm) (rc_maxT h14 rdt_dat) (ax_cons (EX.to (ex_v (i := 7) (j := 7) B rfl rfl rfl) (by rfl)) ax_nil)) rfl ?_
        exact sx_nil fun σ H a => ⟨_, (), (som hm).symm, (a.weak ⟨.inl rfl, .inl rfl, .inl rfl, .inl rfl, .inl rfl, .inl rfl, .inr rfl, .inr rfl, trivial⟩)⟩
  · cases ho
    have hm := elimR hm
    obtain ⟨t17, h17, hm⟩ := bnd hm
    obtain rfl := som hm
    exact sx_ret (ex_call (a := (q_heads2, f5, t1.2)) (b := t17) (gi := 9) (rest := os) B rfl c_p_is_settled (by decide) h17 (ax_cons (ex_v (i := 5) (j := 5) B rfl rfl rfl) (ax_cons (ex_v (i := 4) (j := 4) B rfl rfl rfl) ax_nil))) (fun F H v e o c => R.rt F H v e (o.drop) c)
  · cases ho
    have hm := elimL hm
    obtain rfl := som hm
    obtain ⟨F, e, o, c⟩ := hr
    exact R.rt F H v e o c
theorem cal_p_joinings_hold {P : Program} {w : World} {K : PySem.W.Frag} {mg : Str → Option Value} {base : Heap} {f : Addr} {fd : FuncData} (Fn : Fun K "joinings_hold" "joinings_hold" s_p_joinings_hold f fd) (hmg : mg "joinings_hold" = some (.ref f)) (hb : Binds K fd ["letters", "walks", "value"] []) (c_p_petals : Cal P w K mg base 6 "petals" s_p_petals ["letters", "walks"] (sp_p_petals K)) (g_isinstance : mg "isinstance" = none) (g_list : mg "list" = none) (g_range : mg "range" = none) (c_p_is_pair : Cal P w K mg base 2 "is_pair" s_p_is_pair ["value", "many"] (sp_p_is_pair K)) (g_len : mg "len" = none) (c_p_unlike_ends : Cal P w K mg base 2 "unlike_ends" s_p_unlike_ends ["heads", "one", "other"] (sp_p_unlike_ends K)) (g_min : mg "min" = none) (g_max : mg "max" = none) (c_p_is_settled : Cal P w K mg base 2 "is_settled" s_p_is_settled ["heads", "ways"] (sp_p_is_settled K)) : Cal P w K mg base 7 "joinings_hold" s_p_joinings_hold ["letters", "walks", "value"] (sp_p_joinings_hold K) := by
  obtain ⟨sts_, hst_⟩ : ∃ z_, defBody s_p_joinings_hold = z_ := ⟨_, rfl⟩
  exact cal_ZQ (V := V_p_joinings_hold) (Gs := G_p_joinings_hold) (nl := 5) hst_ Fn sc_p_joinings_hold (by decide +kernel) (by decide +kernel) hmg hb (fun _ => rfl) rfl fun _ _ _ _ _ _ _ a b F0 os D B T hm R => body_p_joinings_hold rfl hst_ B T c_p_petals g_isinstance g_list g_range c_p_is_pair g_len c_p_unlike_ends g_min g_max c_p_is_settled a.1 a.2.1 a.2.2 b F0 os D hm R
abbrev s_p_joinings_hold_d : Stmt := top 24
def N_p_joinings_hold_d : List Str := ["letters", "walks", "value", "count", "ways", "heads", "pair", "rooms"]
def V_p_joinings_hold_d : List Str := ["letters", "walks", "value", "count", "ways", "heads", "pair", "rooms"]
def G_p_joinings_hold_d : List Str := ["petals", "isinstance", "list", "range", "is_pair", "len", "unlike_ends", "max", "min", "is_settled"]
theorem sc_p_joinings_hold_d : FnScope N_p_joinings_hold_d ["letters", "walks", "value"] (defScope s_p_joinings_hold_d) := ⟨rfl, rfl, rfl, by decide +kernel, rfl, by decide +kernel, by decide +kernel⟩
abbrev sp_p_joinings_hold_d (K : PySem.W.Frag) : Sp := spZ (α := (Int × (List (List Int)) × PyData)) (β := Bool) (fun a => [(dat (PyData.int a.1)), (dat (PyData.list (List.map (eT PyData.int) a.2.1))), (dat a.2.2)]) (fun a => []) (fun a => m_p_joinings_hold_d a.1 a.2.1 a.2.2) (fun a b => (dat (PyData.bool b))) (fun a b => [])
set_option maxHeartbeats 4000000 in
theorem body_p_joinings_hold_d {X : Cx} (hsc : X.env.scope = defScope s_p_joinings_hold_d) {sts_ : List Stmt} (hst_ : defBody s_p_joinings_hold_d = sts_) (B : Bd X N_p_joinings_hold_d V_p_joinings_hold_d G_p_joinings_hold_d 6) (T : Bt X V_p_joinings_hold_d) (c_p_petals : Cal X.prog X.w X.K X.mg X.base 6 "petals" s_p_petals ["letters", "walks"] (sp_p_petals X.K)) (g_isinstance : X.mg "isinstance" = none) (g_list : X.mg "list" = none) (g_range : X.mg "range" = none) (c_p_is_pair_d : Cal X.prog X.w X.K X.mg X.base 2 "is_pair" s_p_is_pair_d ["value", "many"] (sp_p_is_pair_d X.K)) (g_len : X.mg "len" = none) (c_p_unlike_ends : Cal X.prog X.w X.K X.mg X.base 2 "unlike_ends" s_p_unlike_ends ["heads", "one", "other"] (sp_p_unlike_ends X.K)) (g_min : X.mg "min" = none) (g_max : X.mg "max" = none) (c_p_is_settled : Cal X.prog X.w X.K X.mg X.base 2 "is_settled" s_p_is_settled ["heads", "ways"] (sp_p_is_settled X.K)) (letters : Int) (walks : (List (List Int))) (value : PyData) (b : Bool) (F0 : Hp) (os : Os) (D : Ends) (hm : m_p_joinings_hold_d letters walks value = some b) (R : RetZ F0 (os) (dat (PyData.bool b)) D) :
    SX X [sl (dat (PyData.int letters)), sl (dat (PyData.list (List.map (eT PyData.int) walks))), sl (dat value), un, un, un, un, un] (os) F0 sts_ D := by
  subst hst_
  unfold m_p_joinings_hold_d at hm
  obtain ⟨t1, h1, hm⟩ := bnd hm
  refine sx_unp (gx_pair B (gx_name (i := 3) (vi := 3) B T rfl rfl) (gx_name (i := 4) (vi := 4) B T rfl rfl)) (EN.exF (en_call (a := (letters, walks)) (b := t1) (gi := 0) (rest := os) B rfl c_p_petals (by decide) h1 (ax_cons (ex_v (i := 0) (j := 0) B rfl rfl rfl) (ax_cons (ex_v (i := 1) (j := 1) B rfl rfl rfl) ax_nil))) frb_tpE) ?_
  obtain ⟨t2, h2, hm⟩ := bnd hm
  refine sx_if (tx_not (tx_val (ex_fn (j := 1) B rfl g_isinstance (by decide +kernel) call_isi (rc_isiD kB_list h2) (ax_cons (ex_v (i := 2) (j := 2) B rfl rfl rfl) (ax_cons (ex_tyname (T := "list") (gi := 2) B rfl g_list (by decide +kernel)) ax_nil))) (by intro _; rfl))) (fun hk => ?_) (fun hk => ?_)
  · have hm := ifT hm hk
    obtain rfl := som hm
    exact sx_ret ex_bool (fun F H v e o c => R.rt F H v e o c)
  · have hm := ifF hm hk
    refine sx_fall ?_ rfl
    obtain ⟨t3, h3, hm⟩ := bnd hm
    refine sx_asgN (i := 5) (vi := 5) (n := ol (List.map PyData.int t3)) B T rfl rfl (en_rgL1 (gi := 2) (gj := 3) B rfl rfl g_list g_range h3 (ex_v (i := 3) (j := 3) B rfl rfl rfl)) (fun q_heads3 => ?_)
    obtain ⟨t4, h4, hm⟩ := bnd hm
    obtain ⟨f7o, h20, hm⟩ := bnd hm
    refine sx_forR (c := anyOs) _ (fun (s5 : (List Int)) (_ : Unit) => [sl (dat (PyData.int letters)), sl (dat (PyData.list (List.map (eT PyData.int) walks))), sl (dat value), sl (dat (PyData.int t1.1)), sl (dat (PyData.list (List.map (eP3 PyData.int PyData.int PyData.int) t1.2))), sl (own q_heads3), un, un]) (fun (s5 : (List Int)) (_ : Unit) => (q_heads3, ol (List.map PyData.int s5)) :: os) (fun (r : Bool) v H => ∃ F, Same F0 F ∧ Ow F (os) H ∧ Cl (dat (PyData.bool r)) F v) B T (fun pair6 => gx_name (i := 6) (vi := 6) (φ := (dat pair6)) B T rfl rfl) t3 () f7o h20 (ix_list (enc := id) (c := anyOs) (EX.to (d' := (PyData.list (List.map id t4))) (ex_v (i := 2) (j := 2) B rfl rfl rfl) (asL_eq h4)) (fun _ _ => rdl_dat) trivial) ⟨.inl rfl, .inl rfl, .inl rfl, .inl rfl, .inl rfl, .inl rfl, .inl rfl, .inl rfl, trivial⟩ (fun _ _ => trivial) (fun F9 e8 s5 _ pair6 z23 hx hm2 => ?_) (fun f7 _ ho => ?_) (fun r22 v H ho hr => ?_)
    · clear hm h20
      have hm := hm2
      obtain ⟨t10, h10, hm⟩ := bnd hm
      refine sx_if (tx_not (tx_val (ex_call (a := (pair6, (t1.2.length : Int))) (b := t10) (gi := 4) (rest := (q_heads3, ol (List.map PyData.int s5)) :: os) B rfl c_p_is_pair_d (by decide) h10 (ax_cons (ex_v (i := 6) (j := 6) B rfl rfl rfl) (ax_cons (EX.to (ex_fn (j := 5) B rfl g_len (by decide +kernel) call_len_seq (rc_lenL (ds := List.map (eP3 PyData.int PyData.int PyData.int) t1.2) rdl_dat) (ax_cons (ex_v (i := 4) (j := 4) B rfl rfl rfl) ax_nil)) (by rw [List.length_map])) ax_nil))) (by intro _; rfl))) (fun hk => ?_) (fun hk => ?_)
      · have hm := ifT hm hk
        exact sx_ret ex_bool (fun F H v e o c => ⟨_, (som hm).symm, F, (e8.trans e), (o.drop), c⟩)
      · have hm := ifF hm hk
        refine sx_fall ?_ rfl
        obtain ⟨t11, h11, hm⟩ := bnd hm
        obtain ⟨t12, h12, hm⟩ := bnd hm
        obtain ⟨t13, h13, hm⟩ := bnd hm
        obtain ⟨t14, h14, hm⟩ := bnd hm
        obtain ⟨t15, h15, hm⟩ := bnd hm
        refine sx_asg (i := 7) (vi := 7) (φ := (dat ((eO (eP PyData.int PyData.int)) t15.1))) B T rfl rfl (ex_call (a := (q_heads3, s5, t12, t14)) (b := t15) (gi := 6) (rest := os) B rfl c_p_unlike_ends (by decide) h15 (ax_cons (ex_v (i := 5) (j := 5) B rfl rfl rfl) (ax_cons (ex_idxL (enc := (eP3 PyData.int PyData.int PyData.int)) h12 rdl_dat (ex_v (i := 4) (j := 4) B rfl rfl rfl) (ex_ixT rdt_dat (by rfl) (EX.to (d' := (PyData.tuple [(PyData.int t11.1), (PyData.int t11.2)])) (ex_v (i := 6) (j := 6) B rfl rfl rfl) (asP_eq h11)) ex_int)) (ax_cons (ex_idxL (enc := (eP3 PyData.int PyData.int PyData.int)) h14 rdl_dat (ex_v (i := 4) (j := 4) B rfl rfl rfl) (ex_ixT rdt_dat (by rfl) (EX.to (d' := (PyData.tuple [(PyData.int t13.1), (PyData.int t13.2)])) (ex_v (i := 6) (j := 6) B rfl rfl rfl) (asP_eq h13)) ex_int)) ax_nil)))) ?_
        cases hq19 : t15.1 with
        | none =>
          rw [hq19] at hm
          refine sx_if (tx_cmp op_isN (r2_isN (d := PyData.none) (t := true) rfl) (nomark _) (ex_v (i := 7) (j := 7) B rfl rfl rfl) ex_none) (fun _ => ?_) (fun hk => Bool.noConfusion hk)
          exact sx_ret ex_bool (fun F H v e o c => ⟨_, (som hm).symm, F, (e8.trans e), (o.drop), c⟩)
        | some rooms16 =>
          rw [hq19] at hm
          refine sx_if (tx_cmp op_isN (r2_isN (d := (PyData.tuple [(PyData.int rooms16.1), (PyData.int rooms16.2)])) (t := false) rfl) (nomark _) (ex_v (i := 7) (j := 7) B rfl rfl rfl) ex_none) (fun hk => Bool.noConfusion hk) (fun _ => ?_)
          refine sx_fall ?_ rfl
          obtain ⟨t17, h17, hm⟩ := bnd hm
          obtain ⟨t18, h18, hm⟩ := bnd hm
          obtain ⟨t19, h19, hm⟩ := bnd hm
          refine sx_setO (enc := PyData.int) (j := 0) h19 (ex_fn (j := 8) B rfl g_min (by decide +kernel) (cr_minT B.calm) (rc_minT h17 rdt_dat) (ax_cons (EX.to (ex_v (i := 7) (j := 7) B rfl rfl rfl) (by rfl)) ax_nil)) (ex_v (i := 5) (j := 5) B rfl rfl rfl) (ex_fn (j := 7) B rfl g_max (by decide +kernel) (cr_maxT B.calm) (rc_maxT h18 rdt_dat) (ax_cons (EX.to (ex_v (i := 7) (j := 7) B rfl rfl rfl) (by rfl)) ax_nil)) rfl ?_
          exact sx_nil fun σ H a => ⟨_, (), (som hm).symm, (a.weak ⟨.inl rfl, .inl rfl, .inl rfl, .inl rfl, .inl rfl, .inl rfl, .inr rfl, .inr rfl, trivial⟩)⟩
    · cases ho
      have hm := elimR hm
      obtain ⟨t21, h21, hm⟩ := bnd hm
      obtain rfl := som hm
      exact sx_ret (ex_call (a := (q_heads3, f7, t1.2)) (b := t21) (gi := 9) (rest := os) B rfl c_p_is_settled (by decide) h21 (ax_cons (ex_v (i := 5) (j := 5) B rfl rfl rfl) (ax_cons (ex_v (i := 4) (j := 4) B rfl rfl rfl) ax_nil))) (fun F H v e o c => R.rt F H v e (o.drop) c)
    · cases ho
      have hm := elimL hm
      obtain rfl := som hm
      obtain ⟨F, e, o, c⟩ := hr
      exact R.rt F H v e o c
theorem cal_p_joinings_hold_d {P : Program} {w : World} {K : PySem.W.Frag} {mg : Str → Option Value} {base : Heap} {f : Addr} {fd : FuncData} (Fn : Fun K "joinings_hold" "joinings_hold" s_p_joinings_hold_d f fd) (hmg : mg "joinings_hold" = some (.ref f)) (hb : Binds K fd ["letters", "walks", "value"] []) (c_p_petals : Cal P w K mg base 6 "petals" s_p_petals ["letters", "walks"] (sp_p_petals K)) (g_isinstance : mg "isinstance" = none) (g_list : mg "list" = none) (g_range : mg "range" = none) (c_p_is_pair_d : Cal P w K mg base 2 "is_pair" s_p_is_pair_d ["value", "many"] (sp_p_is_pair_d K)) (g_len : mg "len" = none) (c_p_unlike_ends : Cal P w K mg base 2 "unlike_ends" s_p_unlike_ends ["heads", "one", "other"] (sp_p_unlike_ends K)) (g_min : mg "min" = none) (g_max : mg "max" = none) (c_p_is_settled : Cal P w K mg base 2 "is_settled" s_p_is_settled ["heads", "ways"] (sp_p_is_settled K)) : Cal P w K mg base 7 "joinings_hold" s_p_joinings_hold_d ["letters", "walks", "value"] (sp_p_joinings_hold_d K) := by
  obtain ⟨sts_, hst_⟩ : ∃ z_, defBody s_p_joinings_hold_d = z_ := ⟨_, rfl⟩
  exact cal_ZQ (V := V_p_joinings_hold_d) (Gs := G_p_joinings_hold_d) (nl := 5) hst_ Fn sc_p_joinings_hold_d (by decide +kernel) (by decide +kernel) hmg hb (fun _ => rfl) rfl fun _ _ _ _ _ _ _ a b F0 os D B T hm R => body_p_joinings_hold_d rfl hst_ B T c_p_petals g_isinstance g_list g_range c_p_is_pair_d g_len c_p_unlike_ends g_min g_max c_p_is_settled a.1 a.2.1 a.2.2 b F0 os D hm R
abbrev s_l_well : Stmt := top 26
def N_l_well : List Str := ["_law_script", "_law_k", "_law_cell", "_law_total", "_law_at", "_law_other"]
def V_l_well : List Str := ["_law_script", "_law_k", "_law_cell", "_law_total", "_law_at", "_law_other"]
def G_l_well : List Str := ["len", "enumerate", "int", "max"]
theorem sc_l_well : FnScope N_l_well ["_law_script", "_law_k"] (defScope s_l_well) := ⟨rfl, rfl, rfl, by decide +kernel, rfl, by decide +kernel, by decide +kernel⟩
abbrev sp_l_well (K : PySem.W.Frag) : Sp := spN (α := ((List Int) × Int)) (β := (List Int)) (fun a => [(scr K a.1), (dat (PyData.int a.2))]) (fun a => []) (fun a => m_l_well a.1 a.2) (fun a b => ol (List.map PyData.int b)) (fun a b => [])
set_option maxHeartbeats 4000000 in
theorem body_l_well {X : Cx} (hsc : X.env.scope = defScope s_l_well) {sts_ : List Stmt} (hst_ : defBody s_l_well = sts_) (B : Bd X N_l_well V_l_well G_l_well 0) (T : Bt X V_l_well) (g_len : X.mg "len" = none) (g_enumerate : X.mg "enumerate" = none) (g_int : X.mg "int" = none) (g_max : X.mg "max" = none) (script : (List Int)) (k_ : Int) (b : (List Int)) (F0 : Hp) (os : Os) (D : Ends) (hm : m_l_well script k_ = some b) (R : RetN F0 (os) (ol (List.map PyData.int b)) D) :
    SX X [sl (scr X.K script), sl (dat (PyData.int k_)), un, un, un, un] (os) F0 sts_ D := by
  subst hst_
  unfold m_l_well at hm
  obtain ⟨t2, h2, hm⟩ := bnd hm
  refine sx_asg (i := 2) (vi := 2) (φ := (dat (PyData.int t2))) B T rfl rfl (ex_if (tx_cmp op_lt r2_lt (nomark _) (ex_v (i := 1) (j := 1) B rfl rfl rfl) (EX.to (ex_fn (j := 0) B rfl g_len (by decide +kernel) call_len_seq (rc_lenL (ds := List.map PyData.int script) rdl_scr) (ax_cons (ex_v (i := 0) (j := 0) B rfl rfl rfl) ax_nil)) (by rw [List.length_map]))) (fun hk => by (have hm := ifT h2 hk; obtain ⟨t1, h1, hm⟩ := bnd hm; obtain rfl := som hm; exact (EX.to (ex_idxL (enc := PyData.int) h1 rdl_scr (ex_v (i := 0) (j := 0) B rfl rfl rfl) (ex_v (i := 1) (j := 1) B rfl rfl rfl)) (by rfl)))) (fun hk => by (have hm := ifF h2 hk; obtain rfl := som hm; exact (EX.to (ex_add (ex_mulL (by decide) ex_int (ex_v (i := 1) (j := 1) B rfl rfl rfl)) ex_int) (by rfl))))) ?_
  refine sx_asg (i := 3) (vi := 3) (φ := (dat (PyData.int 0))) B T rfl rfl ex_int ?_
  obtain ⟨f5, h11, hm⟩ := bnd hm
  refine sx_for (c := anyOs) _ (fun (s3 : Int) (_ : Unit) => [sl (scr X.K script), sl (dat (PyData.int k_)), sl (dat (PyData.int t2)), sl (dat (PyData.int s3)), un, un]) (fun (s3 : Int) (_ : Unit) => os) B T (fun x4 => gx_pair B (gx_name (i := 4) (vi := 4) (φ := (dat (PyData.int x4.1))) B T rfl rfl) (gx_name (i := 5) (vi := 5) (φ := (dat (PyData.int x4.2))) B T rfl rfl)) 0 () f5 h11 (ix_enum (enc := PyData.int) (gi := 1) B rfl g_enumerate (ex_v (i := 0) (j := 0) B rfl rfl rfl) (fun _ _ => rdl_scr) trivial) ⟨.inl rfl, .inl rfl, .inl rfl, .inl rfl, .inl rfl, .inl rfl, trivial⟩ (fun _ _ => trivial) (fun F7 e6 s3 _ x4 z12 hx hm => ?_) (fun _ => ?_)
  · clear h11
    obtain ⟨t8, h8, hm⟩ := bnd hm
    obtain ⟨total9, h10, hm⟩ := bnd hm
    have h10 := som h10
    refine sx_asg (i := 3) (vi := 3) (φ := (dat (PyData.int total9))) B T rfl rfl (EX.to (ex_mod (modO_lit (j := 10000000000000000000000000000000000000121) (by decide)) (ex_ty (j := 2) B rfl g_int (by decide +kernel) call_int1 rc_intI (ax_cons (ex_add (ex_mulR (by decide) (ex_v (i := 3) (j := 3) B rfl rfl rfl) ex_int) (ex_mulW h8 (ex_v (i := 5) (j := 5) B rfl rfl rfl) (ex_add (ex_v (i := 4) (j := 4) B rfl rfl rfl) ex_int))) ax_nil)) (EX.to (d' := PyData.int 10000000000000000000000000000000000000121) (ex_add (ex_pow (m := 10000000000000000000000000000000000000000) (by decide +kernel) ex_int ex_int) ex_int) (by rfl))) (congrArg (fun z_ => (PyData.int z_)) h10)) ?_
    obtain rfl := som hm
    exact sx_nil fun σ H a => ⟨(), (a.weak ⟨.inl rfl, .inl rfl, .inl rfl, .inl rfl, .inr rfl, .inr rfl, trivial⟩)⟩
  · skip
    obtain rfl := som hm
    exact sx_retN (en_lst (ds := [(PyData.int (maxI 0 (t2 - 1000000000000000000))), (PyData.int ((((t2 * 8191) + f5) + (524287 * k_)) % 100000000000000000000000000000000000000011)), (PyData.int 0)]) (hl := len_ok (n := 3) rfl) (ax_cons (ex_fn (j := 3) B rfl g_max (by decide +kernel) (call_max2 B.calm) rc_max (ax_cons ex_int (ax_cons (ex_sub (ex_v (i := 2) (j := 2) B rfl rfl rfl) (ex_pow (m := 1000000000000000000) (by decide +kernel) ex_int ex_int)) ax_nil))) (ax_cons (ex_mod (modO_lit (j := 100000000000000000000000000000000000000011) (by decide)) (ex_ty (j := 2) B rfl g_int (by decide +kernel) call_int1 rc_intI (ax_cons (ex_add (ex_add (ex_mulR (by decide) (ex_v (i := 2) (j := 2) B rfl rfl rfl) ex_int) (ex_v (i := 3) (j := 3) B rfl rfl rfl)) (ex_mulL (by decide) ex_int (ex_v (i := 1) (j := 1) B rfl rfl rfl))) ax_nil)) (EX.to (d' := PyData.int 100000000000000000000000000000000000000011) (ex_add (ex_pow (m := 100000000000000000000000000000000000000000) (by decide +kernel) ex_int ex_int) ex_int) (by rfl))) (ax_cons ex_int ax_nil)))) (fun F H p e o => R.rt F H p e o)
theorem cal_l_well {P : Program} {w : World} {K : PySem.W.Frag} {mg : Str → Option Value} {base : Heap} {f : Addr} {fd : FuncData} (Fn : Fun K "_law_well" "_law_well" s_l_well f fd) (hmg : mg "_law_well" = some (.ref f)) (hb : Binds K fd ["_law_script", "_law_k"] []) (g_len : mg "len" = none) (g_enumerate : mg "enumerate" = none) (g_int : mg "int" = none) (g_max : mg "max" = none) : Cal P w K mg base 1 "_law_well" s_l_well ["_law_script", "_law_k"] (sp_l_well K) := by
  obtain ⟨sts_, hst_⟩ : ∃ z_, defBody s_l_well = z_ := ⟨_, rfl⟩
  exact cal_NQ (V := V_l_well) (Gs := G_l_well) (nl := 4) hst_ Fn sc_l_well (by decide +kernel) (by decide +kernel) hmg hb (fun _ => rfl) rfl fun _ _ _ _ _ _ _ a b F0 os D B T hm R => body_l_well rfl hst_ B T g_len g_enumerate g_int g_max a.1 a.2 b F0 os D hm R
abbrev s_l_take : Stmt := top 27
def N_l_take : List Str := ["_law_well_here", "_law_many", "_law_found", "_law_mixed"]
def V_l_take : List Str := ["_law_well_here", "_law_many", "_law_found", "_law_mixed"]
def G_l_take : List Str := ["int"]
theorem sc_l_take : FnScope N_l_take ["_law_well_here", "_law_many"] (defScope s_l_take) := ⟨rfl, rfl, rfl, by decide +kernel, rfl, by decide +kernel, by decide +kernel⟩
abbrev sp_l_take (K : PySem.W.Frag) : Sp := spZ (α := (Addr × (List Int) × Int)) (β := (Int × (List Int))) (fun a => [own a.1, (dat (PyData.int a.2.2))]) (fun a => (a.1, ol (List.map PyData.int a.2.1)) :: []) (fun a => m_l_take a.2.1 a.2.2) (fun a b => (dat (PyData.int b.1))) (fun a b => (a.1, ol (List.map PyData.int b.2)) :: [])
set_option maxHeartbeats 4000000 in
theorem body_l_take {X : Cx} (hsc : X.env.scope = defScope s_l_take) {sts_ : List Stmt} (hst_ : defBody s_l_take = sts_) (B : Bd X N_l_take V_l_take G_l_take 0) (T : Bt X V_l_take) (g_int : X.mg "int" = none) (q_well_here : Addr) (w_well_here : (List Int)) (many : Int) (b : (Int × (List Int))) (F0 : Hp) (os : Os) (D : Ends) (hm : m_l_take w_well_here many = some b) (R : RetZ F0 ((q_well_here, ol (List.map PyData.int b.2)) :: os) (dat (PyData.int b.1)) D) :
    SX X [sl (own q_well_here), sl (dat (PyData.int many)), un, un] ((q_well_here, ol (List.map PyData.int w_well_here)) :: os) F0 sts_ D := by
  subst hst_
  unfold m_l_take at hm
  obtain ⟨t1, h1, hm⟩ := bnd hm
  refine sx_if (tx_cmp op_gt r2_gt (nomark _) (ex_idxL (enc := PyData.int) h1 (rdl_own 0 rfl) (ex_v (i := 0) (j := 0) B rfl rfl rfl) ex_int) ex_int) (fun hk => ?_) (fun hk => ?_)
  · have hm := ifT hm hk
    obtain ⟨t2, h2, hm⟩ := bnd hm
    obtain ⟨t3, h3, hm⟩ := bnd hm
    refine sx_asg (i := 2) (vi := 2) (φ := (dat (PyData.int t3))) B T rfl rfl (ex_mod h3 (ex_ty (j := 0) B rfl g_int (by decide +kernel) call_int1 rc_intI (ax_cons (ex_idxL (enc := PyData.int) h2 (rdl_own 0 rfl) (ex_v (i := 0) (j := 0) B rfl rfl rfl) ex_int) ax_nil)) (ex_v (i := 1) (j := 1) B rfl rfl rfl)) ?_
    obtain ⟨t4, h4, hm⟩ := bnd hm
    obtain ⟨t5, h5, hm⟩ := bnd hm
    obtain ⟨t6, h6, hm⟩ := bnd hm
    refine sx_setO (enc := PyData.int) (j := 0) h6 (ex_fdiv h5 (ex_idxL (enc := PyData.int) h4 (rdl_own 0 rfl) (ex_v (i := 0) (j := 0) B rfl rfl rfl) ex_int) (ex_v (i := 1) (j := 1) B rfl rfl rfl)) (ex_v (i := 0) (j := 0) B rfl rfl rfl) ex_int rfl ?_
    obtain rfl := som hm
    exact sx_ret (ex_v (i := 2) (j := 2) B rfl rfl rfl) (fun F H v e o c => R.rt F H v e o c)
  · have hm := ifF hm hk
    refine sx_fall ?_ rfl
    obtain ⟨t7, h7, hm⟩ := bnd hm
    obtain ⟨t8, h8, hm⟩ := bnd hm
    refine sx_setO (enc := PyData.int) (j := 0) h8 (ex_add (ex_idxL (enc := PyData.int) h7 (rdl_own 0 rfl) (ex_v (i := 0) (j := 0) B rfl rfl rfl) ex_int) ex_int) (ex_v (i := 0) (j := 0) B rfl rfl rfl) ex_int rfl ?_
    obtain ⟨t9, h9, hm⟩ := bnd hm
    obtain ⟨t10, h10, hm⟩ := bnd hm
    obtain ⟨t11, h11, hm⟩ := bnd hm
    refine sx_asg (i := 3) (vi := 3) (φ := (dat (PyData.int (t11 % 10000000000000000000000000000000000000000057)))) B T rfl rfl (ex_mod (modO_lit (j := 10000000000000000000000000000000000000000057) (by decide)) (ex_ty (j := 0) B rfl g_int (by decide +kernel) call_int1 rc_intI (ax_cons (ex_pow h11 (ex_add (ex_idxL (enc := PyData.int) h9 (rdl_own 0 rfl) (ex_v (i := 0) (j := 0) B rfl rfl rfl) ex_int) (ex_mulL (by decide) ex_int (ex_idxL (enc := PyData.int) h10 (rdl_own 0 rfl) (ex_v (i := 0) (j := 0) B rfl rfl rfl) ex_int))) ex_int) ax_nil)) (EX.to (d' := PyData.int 10000000000000000000000000000000000000000057) (ex_add (ex_pow (m := 10000000000000000000000000000000000000000000) (by decide +kernel) ex_int ex_int) ex_int) (by rfl))) ?_
    obtain ⟨t12, h12, hm⟩ := bnd hm
    obtain ⟨t13, h13, hm⟩ := bnd hm
    obtain ⟨mixed14, h15, hm⟩ := bnd hm
    have h15 := som h15
    refine sx_asg (i := 3) (vi := 3) (φ := (dat (PyData.int mixed14))) B T rfl rfl (EX.to (ex_mod (modO_lit (j := 1000000000000000000000000000000000000000063) (by decide)) (ex_ty (j := 0) B rfl g_int (by decide +kernel) call_int1 rc_intI (ax_cons (ex_add (ex_pow h13 (ex_add (ex_v (i := 3) (j := 3) B rfl rfl rfl) (ex_mulL (by decide) ex_int (ex_idxL (enc := PyData.int) h12 (rdl_own 0 rfl) (ex_v (i := 0) (j := 0) B rfl rfl rfl) ex_int))) ex_int) (ex_v (i := 3) (j := 3) B rfl rfl rfl)) ax_nil)) (EX.to (d' := PyData.int 1000000000000000000000000000000000000000063) (ex_add (ex_pow (m := 1000000000000000000000000000000000000000000) (by decide +kernel) ex_int ex_int) ex_int) (by rfl))) (congrArg (fun z_ => (PyData.int z_)) h15)) ?_
    obtain ⟨t16, h16, hm⟩ := bnd hm
    obtain rfl := som hm
    exact sx_ret (ex_mod h16 (ex_fdiv (fdivO_lit (j := 999983) (by decide) (by decide +kernel)) (ex_v (i := 3) (j := 3) B rfl rfl rfl) ex_int) (ex_v (i := 1) (j := 1) B rfl rfl rfl)) (fun F H v e o c => R.rt F H v e o c)
theorem cal_l_take {P : Program} {w : World} {K : PySem.W.Frag} {mg : Str → Option Value} {base : Heap} {f : Addr} {fd : FuncData} (Fn : Fun K "_law_take" "_law_take" s_l_take f fd) (hmg : mg "_law_take" = some (.ref f)) (hb : Binds K fd ["_law_well_here", "_law_many"] []) (g_int : mg "int" = none) : Cal P w K mg base 1 "_law_take" s_l_take ["_law_well_here", "_law_many"] (sp_l_take K) := by
  obtain ⟨sts_, hst_⟩ : ∃ z_, defBody s_l_take = z_ := ⟨_, rfl⟩
  exact cal_ZQ (V := V_l_take) (Gs := G_l_take) (nl := 2) hst_ Fn sc_l_take (by decide +kernel) (by decide +kernel) hmg hb (fun _ => rfl) rfl fun _ _ _ _ _ _ _ a b F0 os D B T hm R => body_l_take rfl hst_ B T g_int a.1 a.2.1 a.2.2 b F0 os D hm R
abbrev s_l_straight : Stmt := top 28
def N_l_straight : List Str := ["_law_walk_here", "_law_found", "_law_step"]
def V_l_straight : List Str := ["_law_walk_here", "_law_found", "_law_step"]
def G_l_straight : List Str := ["tuple"]
theorem sc_l_straight : FnScope N_l_straight ["_law_walk_here"] (defScope s_l_straight) := ⟨rfl, rfl, rfl, by decide +kernel, rfl, by decide +kernel, by decide +kernel⟩
abbrev sp_l_straight (K : PySem.W.Frag) : Sp := spZ (α := (List Int)) (β := (List Int)) (fun a => [(dat (PyData.tuple (List.map PyData.int a)))]) (fun a => []) (fun a => m_l_straight a) (fun a b => (dat (PyData.tuple (List.map PyData.int b)))) (fun a b => [])
set_option maxHeartbeats 4000000 in
theorem body_l_straight {X : Cx} (hsc : X.env.scope = defScope s_l_straight) {sts_ : List Stmt} (hst_ : defBody s_l_straight = sts_) (B : Bd X N_l_straight V_l_straight G_l_straight 0) (T : Bt X V_l_straight) (g_tuple : X.mg "tuple" = none) (walk_here : (List Int)) (b : (List Int)) (F0 : Hp) (os : Os) (D : Ends) (hm : m_l_straight walk_here = some b) (R : RetZ F0 (os) (dat (PyData.tuple (List.map PyData.int b))) D) :
    SX X [sl (dat (PyData.tuple (List.map PyData.int walk_here))), un, un] (os) F0 sts_ D := by
  subst hst_
  unfold m_l_straight at hm
  refine sx_asgN (i := 1) (vi := 1) (n := ol (List.map PyData.int ([] : (List Int)))) B T rfl rfl (en_lst (ds := []) ax_nil) (fun q_found0 => ?_)
  obtain ⟨f3, h11, hm⟩ := bnd hm
  refine sx_for (c := anyOs) _ (fun (s1 : (List Int)) (_ : Unit) => [sl (dat (PyData.tuple (List.map PyData.int walk_here))), sl (own q_found0), un]) (fun (s1 : (List Int)) (_ : Unit) => (q_found0, ol (List.map PyData.int s1)) :: os) B T (fun step2 => gx_name (i := 2) (vi := 2) (φ := (dat (PyData.int step2))) B T rfl rfl) ([] : (List Int)) () f3 h11 (ix_tup (enc := PyData.int) (ex_v (i := 0) (j := 0) B rfl rfl rfl) rdt_dat) ⟨.inl rfl, .inl rfl, .inl rfl, trivial⟩ (fun _ _ => trivial) (fun F5 e4 s1 _ step2 z12 hx hm => ?_) (fun _ => ?_)
  · clear h11
    obtain ⟨t7, h7, hm⟩ := bnd hm
    obtain ⟨s10, h_s10, hm⟩ := bnd hm
    refine sx_join [sl (dat (PyData.tuple (List.map PyData.int walk_here))), sl (own q_found0), sl (dat (PyData.int step2))] ((q_found0, ol (List.map PyData.int s10)) :: os) (?_) (fun Q => ?_)
    · clear h_s10
      obtain rfl := som hm
      exact sx_nil fun σ H a => ⟨(), (a.weak ⟨.inl rfl, .inl rfl, .inr rfl, trivial⟩)⟩
    · have hm := h_s10
      refine sx_if (WX.tx (wx_and (l := t7) (os2 := (q_found0, ol (List.map PyData.int s1)) :: os) (tx_neR (e := (eL PyData.int)) (x := s1) (y := ([] : (List Int))) B (eqv_list eqv_int) (sh_list sh_int) (by decide) (rdx_own (ds := List.map PyData.int s1) 0 rfl) rdx_dat (ex_v (i := 1) (j := 1) B rfl rfl rfl) (EN.ex (en_lst (ds := []) ax_nil))) (fun hk => by (have hm := ifT h7 hk; obtain ⟨t6, h6, hm⟩ := bnd hm; obtain rfl := som hm; exact (wx_and1 (tx_cmp op_eq r2_eqI (nomark _) (ex_idxL (enc := PyData.int) h6 (rdl_own 0 rfl) (ex_v (i := 1) (j := 1) B rfl rfl rfl) (ex_neg ex_int)) (ex_sub ex_int (ex_v (i := 2) (j := 2) B rfl rfl rfl)))))) (fun hk => by (have hm := ifF h7 hk; obtain rfl := som hm; rfl)) (and_fix (fun hk => by (have hm := ifF h7 hk; obtain rfl := som hm; rfl))))) (fun hk => ?_) (fun hk => ?_)
      · have hm := ifT hm hk
        obtain ⟨t8, h8, hm⟩ := bnd hm
        refine sx_expr (ex_popO (enc := PyData.int) (j := 0) h8 (ex_v (i := 1) (j := 1) B rfl rfl rfl) rfl) ?_
        obtain rfl := som hm
        exact sx_fall Q rfl
      · have hm := ifF hm hk
        obtain ⟨t9, h9, hm⟩ := bnd hm
        refine sx_expr (ex_app (enc := PyData.int) (j := 0) (xs0 := s1) (xs := s1) (y := step2) h9 (ex_v (i := 1) (j := 1) B rfl rfl rfl) rfl (ex_v (i := 2) (j := 2) B rfl rfl rfl) rfl) ?_
        obtain rfl := som hm
        exact sx_fall Q rfl
  · skip
    refine sx_frz (j := 0) (i := 1) rfl rfl ?_
    obtain rfl := som hm
    exact sx_ret (ex_ty (j := 0) B rfl g_tuple (by decide +kernel) call_tuple_of (rc_tupL (ds := List.map PyData.int f3) rdl_dat) (ax_cons (ex_v (i := 1) (j := 1) B rfl rfl rfl) ax_nil)) (fun F H v e o c => R.rt F H v e o c)
theorem cal_l_straight {P : Program} {w : World} {K : PySem.W.Frag} {mg : Str → Option Value} {base : Heap} {f : Addr} {fd : FuncData} (Fn : Fun K "_law_straight" "_law_straight" s_l_straight f fd) (hmg : mg "_law_straight" = some (.ref f)) (hb : Binds K fd ["_law_walk_here"] []) (g_tuple : mg "tuple" = none) : Cal P w K mg base 1 "_law_straight" s_l_straight ["_law_walk_here"] (sp_l_straight K) := by
  obtain ⟨sts_, hst_⟩ : ∃ z_, defBody s_l_straight = z_ := ⟨_, rfl⟩
  exact cal_ZQ (V := V_l_straight) (Gs := G_l_straight) (nl := 2) hst_ Fn sc_l_straight (by decide +kernel) (by decide +kernel) hmg hb (fun _ => rfl) rfl fun _ _ _ _ _ _ _ a b F0 os D B T hm R => body_l_straight rfl hst_ B T g_tuple a b F0 os D hm R
abbrev s_l_steps : Stmt := top 29
def N_l_steps : List Str := ["_law_letters", "_law_found", "_law_letter"]
def V_l_steps : List Str := ["_law_letters", "_law_found", "_law_letter"]
def G_l_steps : List Str := ["range"]
theorem sc_l_steps : FnScope N_l_steps ["_law_letters"] (defScope s_l_steps) := ⟨rfl, rfl, rfl, by decide +kernel, rfl, by decide +kernel, by decide +kernel⟩
abbrev sp_l_steps (K : PySem.W.Frag) : Sp := spZ (α := Int) (β := (List Int)) (fun a => [(dat (PyData.int a))]) (fun a => []) (fun a => m_l_steps a) (fun a b => (dat (PyData.list (List.map PyData.int b)))) (fun a b => [])
set_option maxHeartbeats 4000000 in
theorem body_l_steps {X : Cx} (hsc : X.env.scope = defScope s_l_steps) {sts_ : List Stmt} (hst_ : defBody s_l_steps = sts_) (B : Bd X N_l_steps V_l_steps G_l_steps 0) (T : Bt X V_l_steps) (g_range : X.mg "range" = none) (letters : Int) (b : (List Int)) (F0 : Hp) (os : Os) (D : Ends) (hm : m_l_steps letters = some b) (R : RetZ F0 (os) (dat (PyData.list (List.map PyData.int b))) D) :
    SX X [sl (dat (PyData.int letters)), un, un] (os) F0 sts_ D := by
  subst hst_
  unfold m_l_steps at hm
  refine sx_asg (i := 1) (vi := 1) (φ := (dat (PyData.list (List.map PyData.int ([] : (List Int)))))) B T rfl rfl (EN.ex (en_lst (ds := []) ax_nil)) ?_
  obtain ⟨t1, h1, hm⟩ := bnd hm
  obtain ⟨f4, h8, hm⟩ := bnd hm
  refine sx_for (c := anyOs) _ (fun (s2 : (List Int)) (_ : Unit) => [sl (dat (PyData.int letters)), sl (dat (PyData.list (List.map PyData.int s2))), un]) (fun (s2 : (List Int)) (_ : Unit) => os) B T (fun letter3 => gx_name (i := 2) (vi := 2) (φ := (dat (PyData.int letter3))) B T rfl rfl) ([] : (List Int)) () f4 h8 (ix_rng2 (gi := 0) B rfl g_range h1 ex_int (ex_add (ex_v (i := 0) (j := 0) B rfl rfl rfl) ex_int)) ⟨.inl rfl, .inl rfl, .inl rfl, trivial⟩ (fun _ _ => trivial) (fun F6 e5 s2 _ letter3 z9 hx hm => ?_) (fun _ => ?_)
  · clear h8
    obtain ⟨t7, h7, hm⟩ := bnd hm
    refine sx_asg (i := 1) (vi := 1) (φ := (dat (PyData.list (List.map PyData.int t7)))) B T rfl rfl (EN.ex (en_cat (enc := PyData.int) h7 (ex_v (i := 1) (j := 1) B rfl rfl rfl) (EN.ex (en_lst (ds := [(PyData.int letter3), (PyData.int (0 - letter3))]) (hl := len_ok (n := 2) rfl) (ax_cons (ex_v (i := 2) (j := 2) B rfl rfl rfl) (ax_cons (ex_sub ex_int (ex_v (i := 2) (j := 2) B rfl rfl rfl)) ax_nil)))))) ?_
    obtain rfl := som hm
    exact sx_nil fun σ H a => ⟨(), (a.weak ⟨.inl rfl, .inl rfl, .inr rfl, trivial⟩)⟩
  · skip
    obtain rfl := som hm
    exact sx_ret (ex_v (i := 1) (j := 1) B rfl rfl rfl) (fun F H v e o c => R.rt F H v e o c)
theorem cal_l_steps {P : Program} {w : World} {K : PySem.W.Frag} {mg : Str → Option Value} {base : Heap} {f : Addr} {fd : FuncData} (Fn : Fun K "_law_steps" "_law_steps" s_l_steps f fd) (hmg : mg "_law_steps" = some (.ref f)) (hb : Binds K fd ["_law_letters"] []) (g_range : mg "range" = none) : Cal P w K mg base 1 "_law_steps" s_l_steps ["_law_letters"] (sp_l_steps K) := by
  obtain ⟨sts_, hst_⟩ : ∃ z_, defBody s_l_steps = z_ := ⟨_, rfl⟩
  exact cal_ZQ (V := V_l_steps) (Gs := G_l_steps) (nl := 2) hst_ Fn sc_l_steps (by decide +kernel) (by decide +kernel) hmg hb (fun _ => rfl) rfl fun _ _ _ _ _ _ _ a b F0 os D B T hm R => body_l_steps rfl hst_ B T g_range a b F0 os D hm R
abbrev s_l_walk : Stmt := top 30
def N_l_walk : List Str := ["_law_well_here", "_law_letters", "_law_most", "_law_steps_here", "_law_found", "_law_loose", "_law_turn", "_law_step"]
def V_l_walk : List Str := ["_law_well_here", "_law_letters", "_law_most", "_law_steps_here", "_law_found", "_law_loose", "_law_turn", "_law_step"]
def G_l_walk : List Str := ["_law_steps", "_law_take", "range", "len", "tuple"]
theorem sc_l_walk : FnScope N_l_walk ["_law_well_here", "_law_letters", "_law_most"] (defScope s_l_walk) := ⟨rfl, rfl, rfl, by decide +kernel, rfl, by decide +kernel, by decide +kernel⟩
abbrev sp_l_walk (K : PySem.W.Frag) : Sp := spZ (α := (Addr × (List Int) × Int × Int)) (β := ((List Int) × (List Int))) (fun a => [own a.1, (dat (PyData.int a.2.2.1)), (dat (PyData.int a.2.2.2))]) (fun a => (a.1, ol (List.map PyData.int a.2.1)) :: []) (fun a => m_l_walk a.2.1 a.2.2.1 a.2.2.2) (fun a b => (dat (PyData.tuple (List.map PyData.int b.1)))) (fun a b => (a.1, ol (List.map PyData.int b.2)) :: [])
set_option maxHeartbeats 4000000 in
theorem body_l_walk {X : Cx} (hsc : X.env.scope = defScope s_l_walk) {sts_ : List Stmt} (hst_ : defBody s_l_walk = sts_) (B : Bd X N_l_walk V_l_walk G_l_walk 1) (T : Bt X V_l_walk) (c_l_steps : Cal X.prog X.w X.K X.mg X.base 1 "_law_steps" s_l_steps ["_law_letters"] (sp_l_steps X.K)) (c_l_take : Cal X.prog X.w X.K X.mg X.base 1 "_law_take" s_l_take ["_law_well_here", "_law_many"] (sp_l_take X.K)) (g_range : X.mg "range" = none) (g_len : X.mg "len" = none) (g_tuple : X.mg "tuple" = none) (q_well_here : Addr) (w_well_here : (List Int)) (letters : Int) (most : Int) (b : ((List Int) × (List Int))) (F0 : Hp) (os : Os) (D : Ends) (hm : m_l_walk w_well_here letters most = some b) (R : RetZ F0 ((q_well_here, ol (List.map PyData.int b.2)) :: os) (dat (PyData.tuple (List.map PyData.int b.1))) D) :
    SX X [sl (own q_well_here), sl (dat (PyData.int letters)), sl (dat (PyData.int most)), un, un, un, un, un] ((q_well_here, ol (List.map PyData.int w_well_here)) :: os) F0 sts_ D := by
  subst hst_
  unfold m_l_walk at hm
  obtain ⟨t1, h1, hm⟩ := bnd hm
  refine sx_par2 (i := 3) (j := 4) _ hsc B rfl rfl (by decide) (by decide +kernel) (by decide +kernel) (by intro env he; cases env; cases he; first | rfl | kernel_rfl) (aq_x (φ := (dat (PyData.list (List.map PyData.int t1)))) (ex_call (a := letters) (b := t1) (gi := 0) (rest := (q_well_here, ol (List.map PyData.int w_well_here)) :: os) B rfl c_l_steps (by decide) h1 (ax_cons (ex_v (i := 1) (j := 1) B rfl rfl rfl) ax_nil)) (aq_n (n := ol (List.map PyData.int ([] : (List Int)))) (en_lst (ds := []) ax_nil) (fun q_found2 => aq_nil))) (fun v0 v1 os_ hr_ => ?_) (by rintro φs os_ ⟨_, rfl, q_found2, _, rfl, rfl, rfl⟩; exact ⟨_, _, rfl⟩)
  obtain ⟨_, e0, q_found2, _, e1, e8, e9⟩ := hr_
  cases e0; cases e1; cases e8; cases e9
  obtain ⟨t3, h3, hm⟩ := bnd hm
  refine sx_asg (i := 5) (vi := 5) (φ := (dat (PyData.bool (decide (t3.1 = 0))))) B T rfl rfl (ex_cmp op_eq r2_eqI (nomark _) (EX.pre (ex_call (a := (q_well_here, w_well_here, 4)) (b := t3) (gi := 1) (rest := (q_found2, ol (List.map PyData.int ([] : (List Int)))) :: os) B rfl c_l_take (by decide) h3 (ax_cons (ex_v (i := 0) (j := 0) B rfl rfl rfl) (ax_cons ex_int ax_nil))) (perm_at (k := 1) rfl)) ex_int) ?_
  obtain ⟨t4, h4, hm⟩ := bnd hm
  obtain ⟨t5, h5, hm⟩ := bnd hm
  obtain ⟨f8, h18, hm⟩ := bnd hm
  refine sx_for (c := anyOs) _ (fun (s6 : ((List Int) × (List Int))) (_ : Unit) => [sl (own q_well_here), sl (dat (PyData.int letters)), sl (dat (PyData.int most)), sl (dat (PyData.list (List.map PyData.int t1))), sl (own q_found2), sl (dat (PyData.bool (decide (t3.1 = 0)))), un, un]) (fun (s6 : ((List Int) × (List Int))) (_ : Unit) => (q_well_here, ol (List.map PyData.int s6.1)) :: (q_found2, ol (List.map PyData.int s6.2)) :: os) B T (fun turn7 => gx_name (i := 6) (vi := 6) (φ := (dat (PyData.int turn7))) B T rfl rfl) (t4.2, ([] : (List Int))) () f8 h18 (ix_rng1 (gi := 2) B rfl g_range h5 (ex_call (a := (q_well_here, t3.2, (most + 1))) (b := t4) (gi := 1) (rest := (q_found2, ol (List.map PyData.int ([] : (List Int)))) :: os) B rfl c_l_take (by decide) h4 (ax_cons (ex_v (i := 0) (j := 0) B rfl rfl rfl) (ax_cons (ex_add (ex_v (i := 2) (j := 2) B rfl rfl rfl) ex_int) ax_nil)))) ⟨.inl rfl, .inl rfl, .inl rfl, .inl rfl, .inl rfl, .inl rfl, .inl rfl, .inl rfl, trivial⟩ (fun _ _ => trivial) (fun F10 e9 s6 _ turn7 z19 hx hm => ?_) (fun _ => ?_)
  · clear h18
    obtain ⟨t11, h11, hm⟩ := bnd hm
    obtain ⟨t12, h12, hm⟩ := bnd hm
    refine sx_asg (i := 7) (vi := 7) (φ := (dat (PyData.int t12))) B T rfl rfl (ex_idxL (enc := PyData.int) h12 rdl_dat (ex_v (i := 3) (j := 3) B rfl rfl rfl) (ex_call (a := (q_well_here, s6.1, (t1.length : Int))) (b := t11) (gi := 1) (rest := (q_found2, ol (List.map PyData.int s6.2)) :: os) B rfl c_l_take (by decide) h11 (ax_cons (ex_v (i := 0) (j := 0) B rfl rfl rfl) (ax_cons (EX.to (ex_fn (j := 3) B rfl g_len (by decide +kernel) call_len_seq (rc_lenL (ds := List.map PyData.int t1) rdl_dat) (ax_cons (ex_v (i := 3) (j := 3) B rfl rfl rfl) ax_nil)) (by rw [List.length_map])) ax_nil)))) ?_
    obtain ⟨t15, h15, hm⟩ := bnd hm
    obtain ⟨s16, h_s16, hm⟩ := bnd hm
    refine sx_join [sl (own q_well_here), sl (dat (PyData.int letters)), sl (dat (PyData.int most)), sl (dat (PyData.list (List.map PyData.int t1))), sl (own q_found2), sl (dat (PyData.bool (decide (t3.1 = 0)))), sl (dat (PyData.int turn7)), sl (dat (PyData.int s16))] ((q_well_here, ol (List.map PyData.int t11.2)) :: (q_found2, ol (List.map PyData.int s6.2)) :: os) (?_) (fun Q => ?_)
    · clear h_s16
      obtain ⟨t17, h17, hm⟩ := bnd hm
      refine sx_expr (ex_app (enc := PyData.int) (j := 1) (xs0 := s6.2) (xs := s6.2) (y := s16) h17 (ex_v (i := 4) (j := 4) B rfl rfl rfl) rfl (ex_v (i := 7) (j := 7) B rfl rfl rfl) rfl) ?_
      obtain rfl := som hm
      exact sx_nil fun σ H a => ⟨(), (a.weak ⟨.inl rfl, .inl rfl, .inl rfl, .inl rfl, .inl rfl, .inl rfl, .inr rfl, .inr rfl, trivial⟩)⟩
    · have hm := h_s16
      refine sx_if (WX.tx (wx_and (l := t15) (os2 := (q_well_here, ol (List.map PyData.int t11.2)) :: (q_found2, ol (List.map PyData.int s6.2)) :: os) (tx_not (tx_val (ex_v (i := 5) (j := 5) B rfl rfl rfl) (by intro _; rfl))) (fun hk => by (have hm := ifT h15 hk; obtain ⟨t14, h14, hm⟩ := bnd hm; obtain rfl := som hm; exact (wx_and (l := t14) (os2 := (q_well_here, ol (List.map PyData.int t11.2)) :: (q_found2, ol (List.map PyData.int s6.2)) :: os) (tx_neR (e := (eL PyData.int)) (x := s6.2) (y := ([] : (List Int))) B (eqv_list eqv_int) (sh_list sh_int) (by decide) (rdx_own (ds := List.map PyData.int s6.2) 1 rfl) rdx_dat (ex_v (i := 4) (j := 4) B rfl rfl rfl) (EN.ex (en_lst (ds := []) ax_nil))) (fun hk => by (have hm := ifT h14 hk; obtain ⟨t13, h13, hm⟩ := bnd hm; obtain rfl := som hm; exact (wx_and1 (tx_cmp op_eq r2_eqI (nomark _) (ex_idxL (enc := PyData.int) h13 (rdl_own 1 rfl) (ex_v (i := 4) (j := 4) B rfl rfl rfl) (ex_neg ex_int)) (ex_sub ex_int (ex_v (i := 7) (j := 7) B rfl rfl rfl)))))) (fun hk => by (have hm := ifF h14 hk; obtain rfl := som hm; rfl)) (and_fix (fun hk => by (have hm := ifF h14 hk; obtain rfl := som hm; rfl)))))) (fun hk => by (have hm := ifF h15 hk; obtain rfl := som hm; rfl)) (and_fix (fun hk => by (have hm := ifF h15 hk; obtain rfl := som hm; rfl))))) (fun hk => ?_) (fun hk => ?_)
      · have hm := ifT hm hk
        refine sx_asg (i := 7) (vi := 7) (φ := (dat (PyData.int (0 - t12)))) B T rfl rfl (ex_sub ex_int (ex_v (i := 7) (j := 7) B rfl rfl rfl)) ?_
        obtain rfl := som hm
        exact sx_fall Q rfl
      · have hm := ifF hm hk
        obtain rfl := som hm
        exact sx_fall Q rfl
  · skip
    refine sx_frz (j := 1) (i := 4) rfl rfl ?_
    obtain rfl := som hm
    exact sx_ret (ex_ty (j := 4) B rfl g_tuple (by decide +kernel) call_tuple_of (rc_tupL (ds := List.map PyData.int f8.2) rdl_dat) (ax_cons (ex_v (i := 4) (j := 4) B rfl rfl rfl) ax_nil)) (fun F H v e o c => R.rt F H v e o c)
theorem cal_l_walk {P : Program} {w : World} {K : PySem.W.Frag} {mg : Str → Option Value} {base : Heap} {f : Addr} {fd : FuncData} (Fn : Fun K "_law_walk" "_law_walk" s_l_walk f fd) (hmg : mg "_law_walk" = some (.ref f)) (hb : Binds K fd ["_law_well_here", "_law_letters", "_law_most"] []) (c_l_steps : Cal P w K mg base 1 "_law_steps" s_l_steps ["_law_letters"] (sp_l_steps K)) (c_l_take : Cal P w K mg base 1 "_law_take" s_l_take ["_law_well_here", "_law_many"] (sp_l_take K)) (g_range : mg "range" = none) (g_len : mg "len" = none) (g_tuple : mg "tuple" = none) : Cal P w K mg base 2 "_law_walk" s_l_walk ["_law_well_here", "_law_letters", "_law_most"] (sp_l_walk K) := by
  obtain ⟨sts_, hst_⟩ : ∃ z_, defBody s_l_walk = z_ := ⟨_, rfl⟩
  exact cal_ZQ (V := V_l_walk) (Gs := G_l_walk) (nl := 5) hst_ Fn sc_l_walk (by decide +kernel) (by decide +kernel) hmg hb (fun _ => rfl) rfl fun _ _ _ _ _ _ _ a b F0 os D B T hm R => body_l_walk rfl hst_ B T c_l_steps c_l_take g_range g_len g_tuple a.1 a.2.1 a.2.2.1 a.2.2.2 b F0 os D hm R
abbrev s_l_petals : Stmt := top 31
def N_l_petals : List Str := ["_law_walks", "_law_rooms", "_law_ways", "_law_walk_here", "_law_left", "_law_places", "_law_at", "_law_step"]
def V_l_petals : List Str := ["_law_walks", "_law_rooms", "_law_ways", "_law_walk_here", "_law_left", "_law_places", "_law_at", "_law_step"]
def G_l_petals : List Str := ["_law_straight", "list", "range", "len", "enumerate", "max"]
theorem sc_l_petals : FnScope N_l_petals ["_law_walks"] (defScope s_l_petals) := ⟨rfl, rfl, rfl, by decide +kernel, rfl, by decide +kernel, by decide +kernel⟩
abbrev sp_l_petals (K : PySem.W.Frag) : Sp := spZ (α := (List (List Int))) (β := (Int × (List (Tri Int Int Int)))) (fun a => [(dat (PyData.list (List.map (eT PyData.int) a)))]) (fun a => []) (fun a => m_l_petals a) (fun a b => (dat (PyData.tuple [(PyData.int b.1), (PyData.list (List.map (eP3 PyData.int PyData.int PyData.int) b.2))]))) (fun a b => [])
set_option maxHeartbeats 4000000 in
theorem body_l_petals {X : Cx} (hsc : X.env.scope = defScope s_l_petals) {sts_ : List Stmt} (hst_ : defBody s_l_petals = sts_) (B : Bd X N_l_petals V_l_petals G_l_petals 1) (T : Bt X V_l_petals) (c_l_straight : Cal X.prog X.w X.K X.mg X.base 1 "_law_straight" s_l_straight ["_law_walk_here"] (sp_l_straight X.K)) (g_list : X.mg "list" = none) (g_range : X.mg "range" = none) (g_len : X.mg "len" = none) (g_enumerate : X.mg "enumerate" = none) (g_max : X.mg "max" = none) (walks : (List (List Int))) (b : (Int × (List (Tri Int Int Int)))) (F0 : Hp) (os : Os) (D : Ends) (hm : m_l_petals walks = some b) (R : RetZ F0 (os) (dat (PyData.tuple [(PyData.int b.1), (PyData.list (List.map (eP3 PyData.int PyData.int PyData.int) b.2))])) D) :
    SX X [sl (dat (PyData.list (List.map (eT PyData.int) walks))), un, un, un, un, un, un, un] (os) F0 sts_ D := by
  subst hst_
  unfold m_l_petals at hm
  refine sx_par2 (i := 1) (j := 2) _ hsc B rfl rfl (by decide) (by decide +kernel) (by decide +kernel) (by intro env he; cases env; cases he; first | rfl | kernel_rfl) (aq_x (φ := (dat (PyData.int 1))) ex_int (aq_n (n := ol (List.map (eP3 PyData.int PyData.int PyData.int) ([] : (List (Tri Int Int Int))))) (en_lst (ds := []) ax_nil) (fun q_ways1 => aq_nil))) (fun v0 v1 os_ hr_ => ?_) (by rintro φs os_ ⟨_, rfl, q_ways1, _, rfl, rfl, rfl⟩; exact ⟨_, _, rfl⟩)
  obtain ⟨_, e0, q_ways1, _, e1, e8, e9⟩ := hr_
  cases e0; cases e1; cases e8; cases e9
  obtain ⟨f4, h25, hm⟩ := bnd hm
  refine sx_for (c := anyOs) _ (fun (s2 : (Int × (List (Tri Int Int Int)))) (_ : Unit) => [sl (dat (PyData.list (List.map (eT PyData.int) walks))), sl (dat (PyData.int s2.1)), sl (own q_ways1), un, un, un, un, un]) (fun (s2 : (Int × (List (Tri Int Int Int)))) (_ : Unit) => (q_ways1, ol (List.map (eP3 PyData.int PyData.int PyData.int) s2.2)) :: os) B T (fun walk_here3 => gx_name (i := 3) (vi := 3) (φ := (dat (PyData.tuple (List.map PyData.int walk_here3)))) B T rfl rfl) (1, ([] : (List (Tri Int Int Int)))) () f4 h25 (ix_list (enc := (eT PyData.int)) (c := anyOs) (ex_v (i := 0) (j := 0) B rfl rfl rfl) (fun _ _ => rdl_dat) trivial) ⟨.inl rfl, .inl rfl, .inl rfl, .inl rfl, .inl rfl, .inl rfl, .inl rfl, .inl rfl, trivial⟩ (fun _ _ => trivial) (fun F6 e5 s2 _ walk_here3 z26 hx hm => ?_) (fun _ => ?_)
  · clear h25
    obtain ⟨t7, h7, hm⟩ := bnd hm
    refine sx_asg (i := 4) (vi := 4) (φ := (dat (PyData.tuple (List.map PyData.int t7)))) B T rfl rfl (ex_call (a := walk_here3) (b := t7) (gi := 0) (rest := (q_ways1, ol (List.map (eP3 PyData.int PyData.int PyData.int) s2.2)) :: os) B rfl c_l_straight (by decide) h7 (ax_cons (ex_v (i := 3) (j := 3) B rfl rfl rfl) ax_nil)) ?_
    obtain ⟨t8, h8, hm⟩ := bnd hm
    obtain ⟨t9, h9, hm⟩ := bnd hm
    obtain ⟨t10, h10, hm⟩ := bnd hm
    refine sx_asg (i := 5) (vi := 5) (φ := (dat (PyData.list (List.map PyData.int t10)))) B T rfl rfl (EN.ex (en_cat (enc := PyData.int) h10 (EN.ex (en_cat (enc := PyData.int) h9 (EN.ex (en_lst (ds := [(PyData.int 0)]) (hl := len_ok (n := 1) rfl) (ax_cons ex_int ax_nil))) (EN.ex (en_rgL2 (gi := 1) (gj := 2) B rfl rfl g_list g_range h8 (ex_v (i := 1) (j := 1) B rfl rfl rfl) (ex_sub (ex_add (ex_v (i := 1) (j := 1) B rfl rfl rfl) (EX.to (ex_fn (j := 3) B rfl g_len (by decide +kernel) call_len_seq (rc_lenT (ds := List.map PyData.int t7) rdt_dat) (ax_cons (ex_v (i := 4) (j := 4) B rfl rfl rfl) ax_nil)) (by rw [List.length_map]))) ex_int))))) (EN.ex (en_lst (ds := [(PyData.int 0)]) (hl := len_ok (n := 1) rfl) (ax_cons ex_int ax_nil))))) ?_
    obtain ⟨f13, h23, hm⟩ := bnd hm
    refine sx_for (c := anyOs) _ (fun (s11 : (List (Tri Int Int Int))) (_ : Unit) => [sl (dat (PyData.list (List.map (eT PyData.int) walks))), sl (dat (PyData.int s2.1)), sl (own q_ways1), sl (dat (PyData.tuple (List.map PyData.int walk_here3))), sl (dat (PyData.tuple (List.map PyData.int t7))), sl (dat (PyData.list (List.map PyData.int t10))), un, un]) (fun (s11 : (List (Tri Int Int Int))) (_ : Unit) => (q_ways1, ol (List.map (eP3 PyData.int PyData.int PyData.int) s11)) :: os) B T (fun x12 => gx_pair B (gx_name (i := 6) (vi := 6) (φ := (dat (PyData.int x12.1))) B T rfl rfl) (gx_name (i := 7) (vi := 7) (φ := (dat (PyData.int x12.2))) B T rfl rfl)) s2.2 () f13 h23 (ix_enumT (enc := PyData.int) (gi := 4) B rfl g_enumerate (ex_v (i := 4) (j := 4) B rfl rfl rfl) rdt_dat) ⟨.inl rfl, .inl rfl, .inl rfl, .inl rfl, .inl rfl, .inl rfl, .inl rfl, .inl rfl, trivial⟩ (fun _ _ => trivial) (fun F15 e14 s11 _ x12 z24 hx hm => ?_) (fun _ => ?_)
    · clear h23
      obtain ⟨s22, h_s22, hm⟩ := bnd hm
      refine sx_join [sl (dat (PyData.list (List.map (eT PyData.int) walks))), sl (dat (PyData.int s2.1)), sl (own q_ways1), sl (dat (PyData.tuple (List.map PyData.int walk_here3))), sl (dat (PyData.tuple (List.map PyData.int t7))), sl (dat (PyData.list (List.map PyData.int t10))), sl (dat (PyData.int x12.1)), sl (dat (PyData.int x12.2))] ((q_ways1, ol (List.map (eP3 PyData.int PyData.int PyData.int) s22)) :: os) (?_) (fun Q => ?_)
      · clear h_s22
        obtain rfl := som hm
        exact sx_nil fun σ H a => ⟨(), (a.weak ⟨.inl rfl, .inl rfl, .inl rfl, .inl rfl, .inl rfl, .inl rfl, .inr rfl, .inr rfl, trivial⟩)⟩
      · have hm := h_s22
        refine sx_if (tx_cmp op_gt r2_gt (nomark _) (ex_v (i := 7) (j := 7) B rfl rfl rfl) ex_int) (fun hk => ?_) (fun hk => ?_)
        · have hm := ifT hm hk
          obtain ⟨t16, h16, hm⟩ := bnd hm
          obtain ⟨t17, h17, hm⟩ := bnd hm
          obtain ⟨t18, h18, hm⟩ := bnd hm
          refine sx_expr (ex_app (enc := (eP3 PyData.int PyData.int PyData.int)) (j := 0) (xs0 := s11) (xs := s11) (y := (Tri.mk t16 x12.2 t17)) h18 (ex_v (i := 2) (j := 2) B rfl rfl rfl) rfl (ex_tup (ds := [(PyData.int t16), (PyData.int x12.2), (PyData.int t17)]) (hl := len_ok (n := 3) rfl) (ax_cons (ex_idxL (enc := PyData.int) h16 rdl_dat (ex_v (i := 5) (j := 5) B rfl rfl rfl) (ex_v (i := 6) (j := 6) B rfl rfl rfl)) (ax_cons (ex_v (i := 7) (j := 7) B rfl rfl rfl) (ax_cons (ex_idxL (enc := PyData.int) h17 rdl_dat (ex_v (i := 5) (j := 5) B rfl rfl rfl) (ex_add (ex_v (i := 6) (j := 6) B rfl rfl rfl) ex_int)) ax_nil)))) rfl) ?_
          obtain rfl := som hm
          exact sx_fall Q rfl
        · have hm := ifF hm hk
          obtain ⟨t19, h19, hm⟩ := bnd hm
          obtain ⟨t20, h20, hm⟩ := bnd hm
          obtain ⟨t21, h21, hm⟩ := bnd hm
          refine sx_expr (ex_app (enc := (eP3 PyData.int PyData.int PyData.int)) (j := 0) (xs0 := s11) (xs := s11) (y := (Tri.mk t19 (0 - x12.2) t20)) h21 (ex_v (i := 2) (j := 2) B rfl rfl rfl) rfl (ex_tup (ds := [(PyData.int t19), (PyData.int (0 - x12.2)), (PyData.int t20)]) (hl := len_ok (n := 3) rfl) (ax_cons (ex_idxL (enc := PyData.int) h19 rdl_dat (ex_v (i := 5) (j := 5) B rfl rfl rfl) (ex_add (ex_v (i := 6) (j := 6) B rfl rfl rfl) ex_int)) (ax_cons (ex_sub ex_int (ex_v (i := 7) (j := 7) B rfl rfl rfl)) (ax_cons (ex_idxL (enc := PyData.int) h20 rdl_dat (ex_v (i := 5) (j := 5) B rfl rfl rfl) (ex_v (i := 6) (j := 6) B rfl rfl rfl)) ax_nil)))) rfl) ?_
          obtain rfl := som hm
          exact sx_fall Q rfl
    · skip
      refine sx_asg (i := 1) (vi := 1) (φ := (dat (PyData.int (s2.1 + (maxI 0 ((t7.length : Int) - 1)))))) B T rfl rfl (ex_add (ex_v (i := 1) (j := 1) B rfl rfl rfl) (ex_fn (j := 5) B rfl g_max (by decide +kernel) (call_max2 B.calm) rc_max (ax_cons ex_int (ax_cons (ex_sub (EX.to (ex_fn (j := 3) B rfl g_len (by decide +kernel) call_len_seq (rc_lenT (ds := List.map PyData.int t7) rdt_dat) (ax_cons (ex_v (i := 4) (j := 4) B rfl rfl rfl) ax_nil)) (by rw [List.length_map])) ex_int) ax_nil)))) ?_
      obtain rfl := som hm
      exact sx_nil fun σ H a => ⟨(), (a.weak ⟨.inl rfl, .inl rfl, .inl rfl, .inr rfl, .inr rfl, .inr rfl, .inl rfl, .inl rfl, trivial⟩)⟩
  · skip
    refine sx_frz (j := 0) (i := 2) rfl rfl ?_
    obtain rfl := som hm
    exact sx_ret (ex_tup (ds := [(PyData.int f4.1), (PyData.list (List.map (eP3 PyData.int PyData.int PyData.int) f4.2))]) (hl := len_ok (n := 2) rfl) (ax_cons (ex_v (i := 1) (j := 1) B rfl rfl rfl) (ax_cons (ex_v (i := 2) (j := 2) B rfl rfl rfl) ax_nil))) (fun F H v e o c => R.rt F H v e o c)
theorem cal_l_petals {P : Program} {w : World} {K : PySem.W.Frag} {mg : Str → Option Value} {base : Heap} {f : Addr} {fd : FuncData} (Fn : Fun K "_law_petals" "_law_petals" s_l_petals f fd) (hmg : mg "_law_petals" = some (.ref f)) (hb : Binds K fd ["_law_walks"] []) (c_l_straight : Cal P w K mg base 1 "_law_straight" s_l_straight ["_law_walk_here"] (sp_l_straight K)) (g_list : mg "list" = none) (g_range : mg "range" = none) (g_len : mg "len" = none) (g_enumerate : mg "enumerate" = none) (g_max : mg "max" = none) : Cal P w K mg base 2 "_law_petals" s_l_petals ["_law_walks"] (sp_l_petals K) := by
  obtain ⟨sts_, hst_⟩ : ∃ z_, defBody s_l_petals = z_ := ⟨_, rfl⟩
  exact cal_ZQ (V := V_l_petals) (Gs := G_l_petals) (nl := 7) hst_ Fn sc_l_petals (by decide +kernel) (by decide +kernel) hmg hb (fun _ => rfl) rfl fun _ _ _ _ _ _ _ a b F0 os D B T hm R => body_l_petals rfl hst_ B T c_l_straight g_list g_range g_len g_enumerate g_max a b F0 os D hm R
abbrev s_l_joined : Stmt := top 32
def N_l_joined : List Str := ["_law_heads", "_law_one", "_law_other", "_law_starts", "_law_goals"]
def V_l_joined : List Str := ["_law_heads", "_law_one", "_law_other", "_law_starts", "_law_goals"]
def G_l_joined : List Str := []
theorem sc_l_joined : FnScope N_l_joined ["_law_heads", "_law_one", "_law_other"] (defScope s_l_joined) := ⟨rfl, rfl, rfl, by decide +kernel, rfl, by decide +kernel, by decide +kernel⟩
abbrev sp_l_joined (K : PySem.W.Frag) : Sp := spZ (α := ((List Int) × (Tri Int Int Int) × (Tri Int Int Int))) (β := (List Int)) (fun a => [(dat (PyData.list (List.map PyData.int a.1))), (dat (PyData.tuple [(PyData.int a.2.1.a), (PyData.int a.2.1.b), (PyData.int a.2.1.c)])), (dat (PyData.tuple [(PyData.int a.2.2.a), (PyData.int a.2.2.b), (PyData.int a.2.2.c)]))]) (fun a => []) (fun a => m_l_joined a.1 a.2.1 a.2.2) (fun a b => (dat (PyData.list (List.map PyData.int b)))) (fun a b => [])
set_option maxHeartbeats 4000000 in
theorem body_l_joined {X : Cx} (hsc : X.env.scope = defScope s_l_joined) {sts_ : List Stmt} (hst_ : defBody s_l_joined = sts_) (B : Bd X N_l_joined V_l_joined G_l_joined 0) (T : Bt X V_l_joined)  (heads : (List Int)) (one : (Tri Int Int Int)) (other : (Tri Int Int Int)) (b : (List Int)) (F0 : Hp) (os : Os) (D : Ends) (hm : m_l_joined heads one other = some b) (R : RetZ F0 (os) (dat (PyData.list (List.map PyData.int b))) D) :
    SX X [sl (dat (PyData.list (List.map PyData.int heads))), sl (dat (PyData.tuple [(PyData.int one.a), (PyData.int one.b), (PyData.int one.c)])), sl (dat (PyData.tuple [(PyData.int other.a), (PyData.int other.b), (PyData.int other.c)])), un, un] (os) F0 sts_ D := by
  subst hst_
  unfold m_l_joined at hm
  obtain ⟨t1, h1, hm⟩ := bnd hm
  obtain ⟨t2, h2, hm⟩ := bnd hm
  obtain ⟨t3, h3, hm⟩ := bnd hm
  obtain ⟨t4, h4, hm⟩ := bnd hm
  refine sx_par2 (i := 3) (j := 4) _ hsc B rfl rfl (by decide) (by decide +kernel) (by decide +kernel) (by intro env he; cases env; cases he; first | rfl | kernel_rfl) (aq_x (φ := (dat (PyData.list (List.map PyData.int ([t1, t2]))))) (EN.ex (en_lst (ds := [(PyData.int t1), (PyData.int t2)]) (hl := len_ok (n := 2) rfl) (ax_cons (ex_idxL (enc := PyData.int) h1 rdl_dat (ex_v (i := 0) (j := 0) B rfl rfl rfl) (ex_ixT rdt_dat (by rfl) (ex_v (i := 1) (j := 1) B rfl rfl rfl) ex_int)) (ax_cons (ex_idxL (enc := PyData.int) h2 rdl_dat (ex_v (i := 0) (j := 0) B rfl rfl rfl) (ex_ixT rdt_dat (by rfl) (ex_v (i := 2) (j := 2) B rfl rfl rfl) ex_int)) ax_nil)))) (aq_x (φ := (dat (PyData.list (List.map PyData.int ([t3, t4]))))) (EN.ex (en_lst (ds := [(PyData.int t3), (PyData.int t4)]) (hl := len_ok (n := 2) rfl) (ax_cons (ex_idxL (enc := PyData.int) h3 rdl_dat (ex_v (i := 0) (j := 0) B rfl rfl rfl) (ex_ixT rdt_dat (by rfl) (ex_v (i := 1) (j := 1) B rfl rfl rfl) ex_int)) (ax_cons (ex_idxL (enc := PyData.int) h4 rdl_dat (ex_v (i := 0) (j := 0) B rfl rfl rfl) (ex_ixT rdt_dat (by rfl) (ex_v (i := 2) (j := 2) B rfl rfl rfl) ex_int)) ax_nil)))) aq_nil)) (fun v0 v1 os_ hr_ => ?_) (by rintro φs os_ ⟨_, rfl, _, rfl, rfl, rfl⟩; exact ⟨_, _, rfl⟩)
  obtain ⟨_, e0, _, e1, e8, e9⟩ := hr_
  cases e0; cases e1; cases e8; cases e9
  obtain ⟨t9, h9, hm⟩ := bnd hm
  refine sx_if (WX.tx (wx_or (l := t9) (os2 := os) (tx_cmp op_ne r2_neI (nomark _) (ex_ixT rdt_dat (by rfl) (ex_v (i := 1) (j := 1) B rfl rfl rfl) ex_int) (ex_ixT rdt_dat (by rfl) (ex_v (i := 2) (j := 2) B rfl rfl rfl) ex_int)) (fun hk => by (have hm := ifF h9 hk; obtain ⟨t5, h5, hm⟩ := bnd hm; obtain ⟨t6, h6, hm⟩ := bnd hm; obtain ⟨t7, h7, hm⟩ := bnd hm; obtain ⟨t8, h8, hm⟩ := bnd hm; obtain rfl := som hm; exact (wx_or1 (tx_eqR (e := PyData.bool) (x := (decide (t5 = t6))) (y := (decide (t7 = t8))) B eqv_bool sh_bool (by decide) rdx_dat rdx_dat (ex_cmp op_eq r2_eqI (nomark _) (ex_idxL (enc := PyData.int) h5 rdl_dat (ex_v (i := 3) (j := 3) B rfl rfl rfl) ex_int) (ex_idxL (enc := PyData.int) h6 rdl_dat (ex_v (i := 3) (j := 3) B rfl rfl rfl) ex_int)) (ex_cmp op_eq r2_eqI (nomark _) (ex_idxL (enc := PyData.int) h7 rdl_dat (ex_v (i := 4) (j := 4) B rfl rfl rfl) ex_int) (ex_idxL (enc := PyData.int) h8 rdl_dat (ex_v (i := 4) (j := 4) B rfl rfl rfl) ex_int)))))) (fun hk => by (have hm := ifT h9 hk; obtain rfl := som hm; rfl)) (or_fix (fun hk => by (have hm := ifT h9 hk; obtain rfl := som hm; rfl))))) (fun hk => ?_) (fun hk => ?_)
  · have hm := ifT hm hk
    obtain rfl := som hm
    exact sx_ret (EN.ex (en_lst (ds := []) ax_nil)) (fun F H v e o c => R.rt F H v e o c)
  · have hm := ifF hm hk
    refine sx_fall ?_ rfl
    obtain ⟨t10, h10, hm⟩ := bnd hm
    obtain ⟨t11, h11, hm⟩ := bnd hm
    obtain rfl := som hm
    exact sx_ret (ex_if (tx_cmp op_eq r2_eqI (nomark _) (ex_idxL (enc := PyData.int) h10 rdl_dat (ex_v (i := 3) (j := 3) B rfl rfl rfl) ex_int) (ex_idxL (enc := PyData.int) h11 rdl_dat (ex_v (i := 3) (j := 3) B rfl rfl rfl) ex_int)) (fun hk => EX.to (ex_v (i := 4) (j := 4) B rfl rfl rfl) (by rw [if_pos hk] <;> rfl)) (fun hk => EX.to (ex_v (i := 3) (j := 3) B rfl rfl rfl) (by first | (rw [if_neg (by rw [hk]; exact Bool.false_ne_true)] <;> rfl) | (rw [if_neg (ne_true_of_eq_false hk)] <;> rfl)))) (fun F H v e o c => R.rt F H v e o c)
theorem cal_l_joined {P : Program} {w : World} {K : PySem.W.Frag} {mg : Str → Option Value} {base : Heap} {f : Addr} {fd : FuncData} (Fn : Fun K "_law_joined" "_law_joined" s_l_joined f fd) (hmg : mg "_law_joined" = some (.ref f)) (hb : Binds K fd ["_law_heads", "_law_one", "_law_other"] [])  : Cal P w K mg base 1 "_law_joined" s_l_joined ["_law_heads", "_law_one", "_law_other"] (sp_l_joined K) := by
  obtain ⟨sts_, hst_⟩ : ∃ z_, defBody s_l_joined = z_ := ⟨_, rfl⟩
  exact cal_ZQ (V := V_l_joined) (Gs := G_l_joined) (nl := 2) hst_ Fn sc_l_joined (by decide +kernel) (by decide +kernel) hmg hb (fun _ => rfl) rfl fun _ _ _ _ _ _ _ a b F0 os D B T hm R => body_l_joined rfl hst_ B T  a.1 a.2.1 a.2.2 b F0 os D hm R
abbrev s_l_with : Stmt := top 33
def N_l_with : List Str := ["_law_heads", "_law_rooms", "_law_head"]
def V_l_with : List Str := ["_law_heads", "_law_rooms"]
def G_l_with : List Str := []
theorem sc_l_with : FnScope N_l_with ["_law_heads", "_law_rooms"] (defScope s_l_with) := ⟨rfl, rfl, rfl, by decide +kernel, rfl, by decide +kernel, by decide +kernel⟩
abbrev sp_l_with (K : PySem.W.Frag) : Sp := spZ (α := ((List Int) × (List Int))) (β := (List Int)) (fun a => [(dat (PyData.list (List.map PyData.int a.1))), (dat (PyData.list (List.map PyData.int a.2)))]) (fun a => []) (fun a => m_l_with a.1 a.2) (fun a b => (dat (PyData.list (List.map PyData.int b)))) (fun a b => [])
set_option maxHeartbeats 4000000 in
theorem body_l_with {X : Cx} (hsc : X.env.scope = defScope s_l_with) {sts_ : List Stmt} (hst_ : defBody s_l_with = sts_) (B : Bd X N_l_with V_l_with G_l_with 0) (T : Bt X V_l_with) (g_max : X.mg "max" = none) (g_min : X.mg "min" = none) (heads : (List Int)) (rooms : (List Int)) (b : (List Int)) (F0 : Hp) (os : Os) (D : Ends) (hm : m_l_with heads rooms = some b) (R : RetZ F0 (os) (dat (PyData.list (List.map PyData.int b))) D) :
    SX X [sl (dat (PyData.list (List.map PyData.int heads))), sl (dat (PyData.list (List.map PyData.int rooms))), un] (os) F0 sts_ D := by
  subst hst_
  unfold m_l_with at hm
  obtain ⟨t6, h6, hm⟩ := bnd hm
  obtain rfl := som hm
  exact sx_ret (EN.ex (en_lc (lc_mk1 (j := 2) (vp := fun head1 => (dat (PyData.int head1))) (c := anyOs) (enc := PyData.int) (fun (_ : Unit) (head1 : Int) => ((fun (head1 : Int) => ((maxO rooms).bind fun t3 => (if (decide (head1 = t3)) = true then ((minO rooms).bind fun t4 => some t4) else some head1).bind fun t5 => some t5)) head1).map fun y => (some y, ())) (fun (_ : Unit) (tl1 : Os) => tl1) () (t6) () B rfl rfl (by rw [B.hN, hsc]; decide +kernel) (by rw [hsc]; decide +kernel) (by decide) (lcO_ok h6) (ix_list (enc := PyData.int) (c := anyOs) (ex_v (i := 0) (j := 0) B rfl rfl rfl) (fun _ _ => rdl_dat) trivial) (fun _ _ => trivial) (fun _ _ _ => List.Perm.refl _) (fun _ head1 t tl1 hx hf => by (obtain ⟨y, hy, rfl⟩ := Option.map_eq_some_iff.mp hf; obtain ⟨t3, h3, hy⟩ := bnd hy; obtain ⟨t5, h5, hy⟩ := bnd hy; obtain rfl := som hy; exact ⟨true, _, fun X1 hX => by (have B1 := Bd.fam (W' := ["_law_rooms", "_law_head"]) (G' := ["max", "min"]) B hX (by (try rw [hsc]); decide +kernel); have g_max' := fam_mg hX g_max; have g_min' := fam_mg hX g_min; exact ⟨.nil, fun _ => ⟨_, rfl, (ex_if (tx_cmp op_eq r2_eqI (nomark _) (ex_v (i := 2) (j := 1) B1 rfl rfl rfl) (ex_fn (j := 0) B1 rfl g_max' (by decide +kernel) (cr_max B1.calm) (rc_maxL h3 rdl_dat) (ax_cons (ex_v (i := 1) (j := 0) B1 rfl rfl rfl) ax_nil))) (fun hk => by (have hm := ifT h5 hk; obtain ⟨t4, h4, hm⟩ := bnd hm; obtain rfl := som hm; exact (EX.to (ex_fn (j := 1) B1 rfl g_min' (by decide +kernel) (cr_min B1.calm) (rc_minL h4 rdl_dat) (ax_cons (ex_v (i := 1) (j := 0) B1 rfl rfl rfl) ax_nil)) (by rfl)))) (fun hk => by (have hm := ifF h5 hk; obtain rfl := som hm; exact (EX.to (ex_v (i := 2) (j := 1) B1 rfl rfl rfl) (by rfl)))))⟩, fun h => Bool.noConfusion h⟩)⟩))))) (fun F H v e o c => R.rt F H v e o c)
theorem cal_l_with {P : Program} {w : World} {K : PySem.W.Frag} {mg : Str → Option Value} {base : Heap} {f : Addr} {fd : FuncData} (Fn : Fun K "_law_with" "_law_with" s_l_with f fd) (hmg : mg "_law_with" = some (.ref f)) (hb : Binds K fd ["_law_heads", "_law_rooms"] []) (g_max : mg "max" = none) (g_min : mg "min" = none) : Cal P w K mg base 1 "_law_with" s_l_with ["_law_heads", "_law_rooms"] (sp_l_with K) := by
  obtain ⟨sts_, hst_⟩ : ∃ z_, defBody s_l_with = z_ := ⟨_, rfl⟩
  exact cal_ZQ (V := V_l_with) (Gs := G_l_with) (nl := 1) hst_ Fn sc_l_with (by decide +kernel) (by decide +kernel) hmg hb (fun _ => rfl) rfl fun _ _ _ _ _ _ _ a b F0 os D B T hm R => body_l_with rfl hst_ B T g_max g_min a.1 a.2 b F0 os D hm R
abbrev s_l_settled : Stmt := top 34
def N_l_settled : List Str := ["_law_heads", "_law_ways", "_law_ends", "_law_room", "_law_letter", "_law_goal"]
def V_l_settled : List Str := ["_law_heads", "_law_ways", "_law_ends", "_law_room", "_law_letter", "_law_goal"]
def G_l_settled : List Str := []
theorem sc_l_settled : FnScope N_l_settled ["_law_heads", "_law_ways"] (defScope s_l_settled) := ⟨rfl, rfl, rfl, by decide +kernel, rfl, by decide +kernel, by decide +kernel⟩
abbrev sp_l_settled (K : PySem.W.Frag) : Sp := spZ (α := ((List Int) × (List (Tri Int Int Int)))) (β := Bool) (fun a => [(dat (PyData.list (List.map PyData.int a.1))), (dat (PyData.list (List.map (eP3 PyData.int PyData.int PyData.int) a.2)))]) (fun a => []) (fun a => m_l_settled a.1 a.2) (fun a b => (dat (PyData.bool b))) (fun a b => [])
set_option maxHeartbeats 4000000 in
theorem body_l_settled {X : Cx} (hsc : X.env.scope = defScope s_l_settled) {sts_ : List Stmt} (hst_ : defBody s_l_settled = sts_) (B : Bd X N_l_settled V_l_settled G_l_settled 0) (T : Bt X V_l_settled)  (heads : (List Int)) (ways : (List (Tri Int Int Int))) (b : Bool) (F0 : Hp) (os : Os) (D : Ends) (hm : m_l_settled heads ways = some b) (R : RetZ F0 (os) (dat (PyData.bool b)) D) :
    SX X [sl (dat (PyData.list (List.map PyData.int heads))), sl (dat (PyData.list (List.map (eP3 PyData.int PyData.int PyData.int) ways))), un, un, un, un] (os) F0 sts_ D := by
  subst hst_
  unfold m_l_settled at hm
  refine sx_asgN (i := 2) (vi := 2) (n := od kII (eM PyData.int ([] : (List ((Int × Int) × Int))))) B T rfl rfl (en_dnew (kd := kII)) (fun q_ends0 => ?_)
  obtain ⟨f3o, h14, hm⟩ := bnd hm
  refine sx_forR (c := anyOs) _ (fun (s1 : (List ((Int × Int) × Int))) (_ : Unit) => [sl (dat (PyData.list (List.map PyData.int heads))), sl (dat (PyData.list (List.map (eP3 PyData.int PyData.int PyData.int) ways))), sl (own q_ends0), un, un, un]) (fun (s1 : (List ((Int × Int) × Int))) (_ : Unit) => (q_ends0, od kII (eM PyData.int s1)) :: os) (fun (r : Bool) v H => ∃ F, Same F0 F ∧ Ow F (os) H ∧ Cl (dat (PyData.bool r)) F v) B T (fun x2 => gx_triple B (gx_name (i := 3) (vi := 3) (φ := (dat (PyData.int x2.a))) B T rfl rfl) (gx_name (i := 4) (vi := 4) (φ := (dat (PyData.int x2.b))) B T rfl rfl) (gx_name (i := 5) (vi := 5) (φ := (dat (PyData.int x2.c))) B T rfl rfl)) ([] : (List ((Int × Int) × Int))) () f3o h14 (ix_list (enc := (eP3 PyData.int PyData.int PyData.int)) (c := anyOs) (ex_v (i := 1) (j := 1) B rfl rfl rfl) (fun _ _ => rdl_dat) trivial) ⟨.inl rfl, .inl rfl, .inl rfl, .inl rfl, .inl rfl, .inl rfl, trivial⟩ (fun _ _ => trivial) (fun F5 e4 s1 _ x2 z16 hx hm2 => ?_) (fun f3 _ ho => ?_) (fun r15 v H ho hr => ?_)
  · clear hm h14
    have hm := hm2
    obtain ⟨t6, h6, hm⟩ := bnd hm
    obtain ⟨t7, h7, hm⟩ := bnd hm
    obtain ⟨t8, h8, hm⟩ := bnd hm
    obtain ⟨t9, h9, hm⟩ := bnd hm
    refine sx_if (tx_cmp op_ne r2_neI (nomark _) (ex_dsetdT (enc := PyData.int) (w := s1) B inj_kII h8 (ex_v (i := 2) (j := 2) B rfl rfl rfl) (rdd_own 0 rfl) (ex_tup (ds := [(PyData.int t6), (PyData.int x2.b)]) (hl := len_ok (n := 2) rfl) (ax_cons (ex_idxL (enc := PyData.int) h6 rdl_dat (ex_v (i := 0) (j := 0) B rfl rfl rfl) (ex_v (i := 3) (j := 3) B rfl rfl rfl)) (ax_cons (ex_v (i := 4) (j := 4) B rfl rfl rfl) ax_nil))) (ex_idxL (enc := PyData.int) h7 rdl_dat (ex_v (i := 0) (j := 0) B rfl rfl rfl) (ex_v (i := 5) (j := 5) B rfl rfl rfl)) (wr_flat (f := (odT kII PyData.int)) (d := s1) 0 rfl) (wr_same_flat (f := (odT kII PyData.int)) (d := s1) 0 rfl)) (ex_idxL (enc := PyData.int) h9 rdl_dat (ex_v (i := 0) (j := 0) B rfl rfl rfl) (ex_v (i := 5) (j := 5) B rfl rfl rfl))) (fun hk => ?_) (fun hk => ?_)
    · have hm := ifT hm hk
      exact sx_ret ex_bool (fun F H v e o c => ⟨_, (som hm).symm, F, (e4.trans e), (o.drop), c⟩)
    · have hm := ifF hm hk
      refine sx_fall ?_ rfl
      obtain ⟨t10, h10, hm⟩ := bnd hm
      obtain ⟨t11, h11, hm⟩ := bnd hm
      obtain ⟨t12, h12, hm⟩ := bnd hm
      obtain ⟨t13, h13, hm⟩ := bnd hm
      refine sx_if (tx_cmp op_ne r2_neI (nomark _) (ex_dsetdT (enc := PyData.int) (w := t8.2) B inj_kII h12 (ex_v (i := 2) (j := 2) B rfl rfl rfl) (rdd_own 0 rfl) (ex_tup (ds := [(PyData.int t10), (PyData.int (0 - x2.b))]) (hl := len_ok (n := 2) rfl) (ax_cons (ex_idxL (enc := PyData.int) h10 rdl_dat (ex_v (i := 0) (j := 0) B rfl rfl rfl) (ex_v (i := 5) (j := 5) B rfl rfl rfl)) (ax_cons (ex_sub ex_int (ex_v (i := 4) (j := 4) B rfl rfl rfl)) ax_nil))) (ex_idxL (enc := PyData.int) h11 rdl_dat (ex_v (i := 0) (j := 0) B rfl rfl rfl) (ex_v (i := 3) (j := 3) B rfl rfl rfl)) (wr_flat (f := (odT kII PyData.int)) (d := t8.2) 0 rfl) (wr_same_flat (f := (odT kII PyData.int)) (d := t8.2) 0 rfl)) (ex_idxL (enc := PyData.int) h13 rdl_dat (ex_v (i := 0) (j := 0) B rfl rfl rfl) (ex_v (i := 3) (j := 3) B rfl rfl rfl))) (fun hk => ?_) (fun hk => ?_)
      · have hm := ifT hm hk
        exact sx_ret ex_bool (fun F H v e o c => ⟨_, (som hm).symm, F, (e4.trans e), (o.drop), c⟩)
      · have hm := ifF hm hk
        refine sx_fall ?_ rfl
        exact sx_nil fun σ H a => ⟨_, (), (som hm).symm, (a.weak ⟨.inl rfl, .inl rfl, .inl rfl, .inr rfl, .inr rfl, .inr rfl, trivial⟩)⟩
  · cases ho
    have hm := elimR hm
    obtain rfl := som hm
    exact sx_ret ex_bool (fun F H v e o c => R.rt F H v e (o.drop) c)
  · cases ho
    have hm := elimL hm
    obtain rfl := som hm
    obtain ⟨F, e, o, c⟩ := hr
    exact R.rt F H v e o c
theorem cal_l_settled {P : Program} {w : World} {K : PySem.W.Frag} {mg : Str → Option Value} {base : Heap} {f : Addr} {fd : FuncData} (Fn : Fun K "_law_settled" "_law_settled" s_l_settled f fd) (hmg : mg "_law_settled" = some (.ref f)) (hb : Binds K fd ["_law_heads", "_law_ways"] [])  : Cal P w K mg base 1 "_law_settled" s_l_settled ["_law_heads", "_law_ways"] (sp_l_settled K) := by
  obtain ⟨sts_, hst_⟩ : ∃ z_, defBody s_l_settled = z_ := ⟨_, rfl⟩
  exact cal_ZQ (V := V_l_settled) (Gs := G_l_settled) (nl := 4) hst_ Fn sc_l_settled (by decide +kernel) (by decide +kernel) hmg hb (fun _ => rfl) rfl fun _ _ _ _ _ _ _ a b F0 os D B T hm R => body_l_settled rfl hst_ B T  a.1 a.2 b F0 os D hm R
abbrev s_l_holds : Stmt := top 35
def N_l_holds : List Str := ["_law_rooms", "_law_ways", "_law_pairs", "_law_heads", "_law_first", "_law_second", "_law_both"]
def V_l_holds : List Str := ["_law_rooms", "_law_ways", "_law_pairs", "_law_heads", "_law_first", "_law_second", "_law_both"]
def G_l_holds : List Str := ["list", "range", "len", "_law_joined", "_law_with", "_law_settled"]
theorem sc_l_holds : FnScope N_l_holds ["_law_rooms", "_law_ways", "_law_pairs"] (defScope s_l_holds) := ⟨rfl, rfl, rfl, by decide +kernel, rfl, by decide +kernel, by decide +kernel⟩
abbrev sp_l_holds (K : PySem.W.Frag) : Sp := spZ (α := (Int × (List (Tri Int Int Int)) × (List (Int × Int)))) (β := (List Int)) (fun a => [(dat (PyData.int a.1)), (dat (PyData.list (List.map (eP3 PyData.int PyData.int PyData.int) a.2.1))), (dat (PyData.list (List.map (eP PyData.int PyData.int) a.2.2)))]) (fun a => []) (fun a => m_l_holds a.1 a.2.1 a.2.2) (fun a b => (dat (PyData.list (List.map PyData.int b)))) (fun a b => [])
set_option maxHeartbeats 4000000 in
theorem body_l_holds {X : Cx} (hsc : X.env.scope = defScope s_l_holds) {sts_ : List Stmt} (hst_ : defBody s_l_holds = sts_) (B : Bd X N_l_holds V_l_holds G_l_holds 1) (T : Bt X V_l_holds) (g_list : X.mg "list" = none) (g_range : X.mg "range" = none) (g_len : X.mg "len" = none) (c_l_joined : Cal X.prog X.w X.K X.mg X.base 1 "_law_joined" s_l_joined ["_law_heads", "_law_one", "_law_other"] (sp_l_joined X.K)) (c_l_with : Cal X.prog X.w X.K X.mg X.base 1 "_law_with" s_l_with ["_law_heads", "_law_rooms"] (sp_l_with X.K)) (c_l_settled : Cal X.prog X.w X.K X.mg X.base 1 "_law_settled" s_l_settled ["_law_heads", "_law_ways"] (sp_l_settled X.K)) (rooms : Int) (ways : (List (Tri Int Int Int))) (pairs : (List (Int × Int))) (b : (List Int)) (F0 : Hp) (os : Os) (D : Ends) (hm : m_l_holds rooms ways pairs = some b) (R : RetZ F0 (os) (dat (PyData.list (List.map PyData.int b))) D) :
    SX X [sl (dat (PyData.int rooms)), sl (dat (PyData.list (List.map (eP3 PyData.int PyData.int PyData.int) ways))), sl (dat (PyData.list (List.map (eP PyData.int PyData.int) pairs))), un, un, un, un] (os) F0 sts_ D := by
  subst hst_
  unfold m_l_holds at hm
  obtain ⟨t1, h1, hm⟩ := bnd hm
  refine sx_asg (i := 3) (vi := 3) (φ := (dat (PyData.list (List.map PyData.int t1)))) B T rfl rfl (EN.ex (en_rgL1 (gi := 0) (gj := 1) B rfl rfl g_list g_range h1 (ex_v (i := 0) (j := 0) B rfl rfl rfl))) ?_
  obtain ⟨f4o, h11, hm⟩ := bnd hm
  refine sx_forR (c := anyOs) _ (fun (s2 : (List Int)) (_ : Unit) => [sl (dat (PyData.int rooms)), sl (dat (PyData.list (List.map (eP3 PyData.int PyData.int PyData.int) ways))), sl (dat (PyData.list (List.map (eP PyData.int PyData.int) pairs))), sl (dat (PyData.list (List.map PyData.int s2))), un, un, un]) (fun (s2 : (List Int)) (_ : Unit) => os) (fun (r : (List Int)) v H => ∃ F, Same F0 F ∧ Ow F (os) H ∧ Cl (dat (PyData.list (List.map PyData.int r))) F v) B T (fun x3 => gx_pair B (gx_name (i := 4) (vi := 4) (φ := (dat (PyData.int x3.1))) B T rfl rfl) (gx_name (i := 5) (vi := 5) (φ := (dat (PyData.int x3.2))) B T rfl rfl)) t1 () f4o h11 (ix_list (enc := (eP PyData.int PyData.int)) (c := anyOs) (ex_v (i := 2) (j := 2) B rfl rfl rfl) (fun _ _ => rdl_dat) trivial) ⟨.inl rfl, .inl rfl, .inl rfl, .inl rfl, .inl rfl, .inl rfl, .inl rfl, trivial⟩ (fun _ _ => trivial) (fun F6 e5 s2 _ x3 z14 hx hm2 => ?_) (fun f4 _ ho => ?_) (fun r13 v H ho hr => ?_)
  · clear hm h11
    have hm := hm2
    refine sx_if (tx_not (tx_chain3 op_le op_lt op_lt r2_le r2_lt r2_lt ex_int (ex_v (i := 4) (j := 4) B rfl rfl rfl) (ex_v (i := 5) (j := 5) B rfl rfl rfl) (EX.to (ex_fn (j := 2) B rfl g_len (by decide +kernel) call_len_seq (rc_lenL (ds := List.map (eP3 PyData.int PyData.int PyData.int) ways) rdl_dat) (ax_cons (ex_v (i := 1) (j := 1) B rfl rfl rfl) ax_nil)) (by rw [List.length_map])))) (fun hk => ?_) (fun hk => ?_)
    · have hm := ifT hm hk
      exact sx_ret (EN.ex (en_lst (ds := []) ax_nil)) (fun F H v e o c => ⟨_, (som hm).symm, F, (e5.trans e), o, c⟩)
    · have hm := ifF hm hk
      refine sx_fall ?_ rfl
      obtain ⟨t7, h7, hm⟩ := bnd hm
      obtain ⟨t8, h8, hm⟩ := bnd hm
      obtain ⟨t9, h9, hm⟩ := bnd hm
      refine sx_asg (i := 6) (vi := 6) (φ := (dat (PyData.list (List.map PyData.int t9)))) B T rfl rfl (ex_call (a := (s2, t7, t8)) (b := t9) (gi := 3) (rest := os) B rfl c_l_joined (by decide) h9 (ax_cons (ex_v (i := 3) (j := 3) B rfl rfl rfl) (ax_cons (ex_idxL (enc := (eP3 PyData.int PyData.int PyData.int)) h7 rdl_dat (ex_v (i := 1) (j := 1) B rfl rfl rfl) (ex_v (i := 4) (j := 4) B rfl rfl rfl)) (ax_cons (ex_idxL (enc := (eP3 PyData.int PyData.int PyData.int)) h8 rdl_dat (ex_v (i := 1) (j := 1) B rfl rfl rfl) (ex_v (i := 5) (j := 5) B rfl rfl rfl)) ax_nil)))) ?_
      refine sx_if (tx_eqR (e := (eL PyData.int)) (x := t9) (y := ([] : (List Int))) B (eqv_list eqv_int) (sh_list sh_int) (by decide) rdx_dat rdx_dat (ex_v (i := 6) (j := 6) B rfl rfl rfl) (EN.ex (en_lst (ds := []) ax_nil))) (fun hk => ?_) (fun hk => ?_)
      · have hm := ifT hm hk
        exact sx_ret (EN.ex (en_lst (ds := []) ax_nil)) (fun F H v e o c => ⟨_, (som hm).symm, F, (e5.trans e), o, c⟩)
      · have hm := ifF hm hk
        refine sx_fall ?_ rfl
        obtain ⟨t10, h10, hm⟩ := bnd hm
        refine sx_asg (i := 3) (vi := 3) (φ := (dat (PyData.list (List.map PyData.int t10)))) B T rfl rfl (ex_call (a := (s2, t9)) (b := t10) (gi := 4) (rest := os) B rfl c_l_with (by decide) h10 (ax_cons (ex_v (i := 3) (j := 3) B rfl rfl rfl) (ax_cons (ex_v (i := 6) (j := 6) B rfl rfl rfl) ax_nil))) ?_
        exact sx_nil fun σ H a => ⟨_, (), (som hm).symm, (a.weak ⟨.inl rfl, .inl rfl, .inl rfl, .inl rfl, .inr rfl, .inr rfl, .inr rfl, trivial⟩)⟩
  · cases ho
    have hm := elimR hm
    obtain ⟨t12, h12, hm⟩ := bnd hm
    obtain rfl := som hm
    exact sx_ret (ex_if (tx_val (ex_call (a := (f4, ways)) (b := t12) (gi := 5) (rest := os) B rfl c_l_settled (by decide) h12 (ax_cons (ex_v (i := 3) (j := 3) B rfl rfl rfl) (ax_cons (ex_v (i := 1) (j := 1) B rfl rfl rfl) ax_nil))) (by intro _; rfl)) (fun hk => EX.to (ex_v (i := 3) (j := 3) B rfl rfl rfl) (by rw [if_pos hk] <;> rfl)) (fun hk => EX.to (EN.ex (en_lst (ds := []) ax_nil)) (by first | (rw [if_neg (by rw [hk]; exact Bool.false_ne_true)] <;> rfl) | (rw [if_neg (ne_true_of_eq_false hk)] <;> rfl)))) (fun F H v e o c => R.rt F H v e o c)
  · cases ho
    have hm := elimL hm
    obtain rfl := som hm
    obtain ⟨F, e, o, c⟩ := hr
    exact R.rt F H v e o c
theorem cal_l_holds {P : Program} {w : World} {K : PySem.W.Frag} {mg : Str → Option Value} {base : Heap} {f : Addr} {fd : FuncData} (Fn : Fun K "_law_holds" "_law_holds" s_l_holds f fd) (hmg : mg "_law_holds" = some (.ref f)) (hb : Binds K fd ["_law_rooms", "_law_ways", "_law_pairs"] []) (g_list : mg "list" = none) (g_range : mg "range" = none) (g_len : mg "len" = none) (c_l_joined : Cal P w K mg base 1 "_law_joined" s_l_joined ["_law_heads", "_law_one", "_law_other"] (sp_l_joined K)) (c_l_with : Cal P w K mg base 1 "_law_with" s_l_with ["_law_heads", "_law_rooms"] (sp_l_with K)) (c_l_settled : Cal P w K mg base 1 "_law_settled" s_l_settled ["_law_heads", "_law_ways"] (sp_l_settled K)) : Cal P w K mg base 2 "_law_holds" s_l_holds ["_law_rooms", "_law_ways", "_law_pairs"] (sp_l_holds K) := by
  obtain ⟨sts_, hst_⟩ : ∃ z_, defBody s_l_holds = z_ := ⟨_, rfl⟩
  exact cal_ZQ (V := V_l_holds) (Gs := G_l_holds) (nl := 4) hst_ Fn sc_l_holds (by decide +kernel) (by decide +kernel) hmg hb (fun _ => rfl) rfl fun _ _ _ _ _ _ _ a b F0 os D B T hm R => body_l_holds rfl hst_ B T g_list g_range g_len c_l_joined c_l_with c_l_settled a.1 a.2.1 a.2.2 b F0 os D hm R
abbrev s_l_drawn : Stmt := top 36
def N_l_drawn : List Str := ["_law_well_here", "_law_rooms", "_law_ways", "_law_heads", "_law_found", "_law_pairs", "_law_second", "_law_turn", "_law_some", "_law_pair", "_law_k"]
def V_l_drawn : List Str := ["_law_well_here", "_law_rooms", "_law_ways", "_law_heads", "_law_found", "_law_pairs", "_law_second", "_law_turn", "_law_some", "_law_pair"]
def G_l_drawn : List Str := ["list", "range", "len", "_law_take", "_law_with", "_law_joined"]
theorem sc_l_drawn : FnScope N_l_drawn ["_law_well_here", "_law_rooms", "_law_ways"] (defScope s_l_drawn) := ⟨rfl, rfl, rfl, by decide +kernel, rfl, by decide +kernel, by decide +kernel⟩
abbrev sp_l_drawn (K : PySem.W.Frag) : Sp := spZ (α := (Addr × (List Int) × Int × (List (Tri Int Int Int)))) (β := ((List (Int × Int)) × (List Int))) (fun a => [own a.1, (dat (PyData.int a.2.2.1)), (dat (PyData.list (List.map (eP3 PyData.int PyData.int PyData.int) a.2.2.2)))]) (fun a => (a.1, ol (List.map PyData.int a.2.1)) :: []) (fun a => m_l_drawn a.2.1 a.2.2.1 a.2.2.2) (fun a b => (dat (PyData.list (List.map (eP PyData.int PyData.int) b.1)))) (fun a b => (a.1, ol (List.map PyData.int b.2)) :: [])
set_option maxHeartbeats 4000000 in
theorem body_l_drawn {X : Cx} (hsc : X.env.scope = defScope s_l_drawn) {sts_ : List Stmt} (hst_ : defBody s_l_drawn = sts_) (B : Bd X N_l_drawn V_l_drawn G_l_drawn 1) (T : Bt X V_l_drawn) (g_list : X.mg "list" = none) (g_range : X.mg "range" = none) (g_len : X.mg "len" = none) (c_l_joined : Cal X.prog X.w X.K X.mg X.base 1 "_law_joined" s_l_joined ["_law_heads", "_law_one", "_law_other"] (sp_l_joined X.K)) (c_l_take : Cal X.prog X.w X.K X.mg X.base 1 "_law_take" s_l_take ["_law_well_here", "_law_many"] (sp_l_take X.K)) (c_l_with : Cal X.prog X.w X.K X.mg X.base 1 "_law_with" s_l_with ["_law_heads", "_law_rooms"] (sp_l_with X.K)) (q_well_here : Addr) (w_well_here : (List Int)) (rooms : Int) (ways : (List (Tri Int Int Int))) (b : ((List (Int × Int)) × (List Int))) (F0 : Hp) (os : Os) (D : Ends) (hm : m_l_drawn w_well_here rooms ways = some b) (R : RetZ F0 ((q_well_here, ol (List.map PyData.int b.2)) :: os) (dat (PyData.list (List.map (eP PyData.int PyData.int) b.1))) D) :
    SX X [sl (own q_well_here), sl (dat (PyData.int rooms)), sl (dat (PyData.list (List.map (eP3 PyData.int PyData.int PyData.int) ways))), un, un, un, un, un, un, un, un] ((q_well_here, ol (List.map PyData.int w_well_here)) :: os) F0 sts_ D := by
  subst hst_
  unfold m_l_drawn at hm
  obtain ⟨t1, h1, hm⟩ := bnd hm
  refine sx_mk3 (i := 3) (j := 4) (l := 5) (vi := 3) (gi := 4) (m := 5) _ hsc B T rfl rfl rfl rfl rfl rfl (by intro env he; cases env; cases he; first | rfl | kernel_rfl) (aq_x (φ := (dat (PyData.list (List.map PyData.int t1)))) (EN.ex (en_rgL1 (gi := 0) (gj := 1) B rfl rfl g_list g_range h1 (ex_v (i := 1) (j := 1) B rfl rfl rfl))) (aq_n (n := ol (List.map (eP PyData.int PyData.int) ([] : (List (Int × Int))))) (en_lst (ds := []) ax_nil) (fun q_found2 => (aq_x (φ := (dat (PyData.list (List.map (eP PyData.int PyData.int) ([] : (List (Int × Int))))))) (EN.ex (en_lst (ds := []) ax_nil)) aq_nil)))) (fun v0 v1 v2 os_ hr_ => ?_) (by rintro φs os_ ⟨_, rfl, q_found2, _, rfl, _, rfl, rfl, rfl⟩; exact ⟨_, _, _, rfl⟩)
  obtain ⟨_, e0, q_found2, _, e1, _, e2, e8, e9⟩ := hr_
  cases e0; cases e1; cases e2; cases e8; cases e9
  obtain ⟨t3, h3, hm⟩ := bnd hm
  obtain ⟨f6, h16, hm⟩ := bnd hm
  refine sx_for (c := anyOs) _ (fun (s4 : (List (Int × Int))) (_ : Unit) => [sl (own q_well_here), sl (dat (PyData.int rooms)), sl (dat (PyData.list (List.map (eP3 PyData.int PyData.int PyData.int) ways))), sl (dat (PyData.list (List.map PyData.int t1))), sl (own q_found2), sl (dat (PyData.list (List.map (eP PyData.int PyData.int) s4))), un, un, un, un, un]) (fun (s4 : (List (Int × Int))) (_ : Unit) => (q_found2, ol (List.map (eP PyData.int PyData.int) ([] : (List (Int × Int))))) :: (q_well_here, ol (List.map PyData.int w_well_here)) :: os) B T (fun second5 => gx_name (i := 6) (vi := 6) (φ := (dat (PyData.int second5))) B T rfl rfl) ([] : (List (Int × Int))) () f6 h16 (ix_rng1 (gi := 1) B rfl g_range h3 (EX.to (ex_fn (j := 2) B rfl g_len (by decide +kernel) call_len_seq (rc_lenL (ds := List.map (eP3 PyData.int PyData.int PyData.int) ways) rdl_dat) (ax_cons (ex_v (i := 2) (j := 2) B rfl rfl rfl) ax_nil)) (by rw [List.length_map]))) ⟨.inl rfl, .inl rfl, .inl rfl, .inl rfl, .inl rfl, .inl rfl, .inl rfl, .inl rfl, .inl rfl, .inl rfl, .inl rfl, trivial⟩ (fun _ _ => trivial) (fun F8 e7 s4 _ second5 z39 hx hm => ?_) (fun _ => ?_)
  · clear h16
    obtain ⟨t9, h9, hm⟩ := bnd hm
    obtain ⟨t14, h14, hm⟩ := bnd hm
    obtain ⟨t15, h15, hm⟩ := bnd hm
    refine sx_asg (i := 5) (vi := 5) (φ := (dat (PyData.list (List.map (eP PyData.int PyData.int) t15)))) B T rfl rfl (EN.ex (en_cat (enc := (eP PyData.int PyData.int)) h15 (ex_v (i := 5) (j := 5) B rfl rfl rfl) (EN.ex (en_lc (lc_mk1 (j := 10) (vp := fun k_10 => (dat (PyData.int k_10))) (c := anyOs) (enc := (eP PyData.int PyData.int)) (fun (_ : Unit) (k_10 : Int) => ((fun (k_10 : Int) => ((idx ways k_10).bind fun t12 => (idx ways second5).bind fun t13 => if (decide (t12.b = t13.b)) = true then some (some (k_10, second5)) else some none)) k_10).map fun y => (y, ())) (fun (_ : Unit) (tl1 : Os) => (q_found2, ol (List.map (eP PyData.int PyData.int) ([] : (List (Int × Int))))) :: (q_well_here, ol (List.map PyData.int w_well_here)) :: tl1) () (t14) () B rfl rfl (by rw [B.hN, hsc]; decide +kernel) (by rw [hsc]; decide +kernel) (by decide) (lcG_ok h14) (ix_rng1 (gi := 1) B rfl g_range h9 (ex_v (i := 6) (j := 6) B rfl rfl rfl)) (fun _ _ => trivial) (fun _ _ _ => ((List.Perm.cons _ (List.Perm.swap _ _ _)).trans (List.Perm.swap _ _ _))) (fun _ k_10 t tl1 hx hf => by (obtain ⟨y, hy, rfl⟩ := Option.map_eq_some_iff.mp hf; obtain ⟨t12, h12, hy⟩ := bnd hy; obtain ⟨t13, h13, hy⟩ := bnd hy; cases hc : (decide (t12.b = t13.b)) with | true => (have hy := ifT hy hc; obtain rfl := som hy; exact ⟨true, _, fun X1 hX => by (have B1 := Bd.fam (W' := ["_law_ways", "_law_second", "_law_k"]) (G' := []) B hX (by (try rw [hsc]); decide +kernel); exact ⟨.one (TX.to (tx_cmp op_eq r2_eqI (nomark _) (ex_ixT rdt_dat (by rfl) (ex_idxL (enc := (eP3 PyData.int PyData.int PyData.int)) h12 rdl_dat (ex_v (i := 2) (j := 0) B1 rfl rfl rfl) (ex_v (i := 10) (j := 2) B1 rfl rfl rfl)) ex_int) (ex_ixT rdt_dat (by rfl) (ex_idxL (enc := (eP3 PyData.int PyData.int PyData.int)) h13 rdl_dat (ex_v (i := 2) (j := 0) B1 rfl rfl rfl) (ex_v (i := 6) (j := 1) B1 rfl rfl rfl)) ex_int)) hc), fun _ => ⟨_, rfl, (ex_tup (ds := [(PyData.int k_10), (PyData.int second5)]) (hl := len_ok (n := 2) rfl) (ax_cons (ex_v (i := 10) (j := 2) B1 rfl rfl rfl) (ax_cons (ex_v (i := 6) (j := 1) B1 rfl rfl rfl) ax_nil)))⟩, fun h => Bool.noConfusion h⟩)⟩) | false => (have hy := ifF hy hc; obtain rfl := som hy; exact ⟨false, _, fun X1 hX => by (have B1 := Bd.fam (W' := ["_law_ways", "_law_second", "_law_k"]) (G' := []) B hX (by (try rw [hsc]); decide +kernel); exact ⟨.one (TX.to (tx_cmp op_eq r2_eqI (nomark _) (ex_ixT rdt_dat (by rfl) (ex_idxL (enc := (eP3 PyData.int PyData.int PyData.int)) h12 rdl_dat (ex_v (i := 2) (j := 0) B1 rfl rfl rfl) (ex_v (i := 10) (j := 2) B1 rfl rfl rfl)) ex_int) (ex_ixT rdt_dat (by rfl) (ex_idxL (enc := (eP3 PyData.int PyData.int PyData.int)) h13 rdl_dat (ex_v (i := 2) (j := 0) B1 rfl rfl rfl) (ex_v (i := 6) (j := 1) B1 rfl rfl rfl)) ex_int)) hc), fun h => Bool.noConfusion h, fun _ => ⟨rfl, rfl⟩⟩)⟩)))))))) ?_
    obtain rfl := som hm
    exact sx_nil fun σ H a => ⟨(), (a.weak ⟨.inl rfl, .inl rfl, .inl rfl, .inl rfl, .inl rfl, .inl rfl, .inr rfl, .inl rfl, .inl rfl, .inl rfl, .inl rfl, trivial⟩)⟩
  · skip
    obtain ⟨t17, h17, hm⟩ := bnd hm
    obtain ⟨f20o, h36, hm⟩ := bnd hm
    refine sx_forR (c := anyOs) _ (fun (s18 : ((List Int) × (List (Int × Int)) × (List Int))) (_ : Unit) => [sl (own q_well_here), sl (dat (PyData.int rooms)), sl (dat (PyData.list (List.map (eP3 PyData.int PyData.int PyData.int) ways))), sl (dat (PyData.list (List.map PyData.int s18.1))), sl (own q_found2), sl (dat (PyData.list (List.map (eP PyData.int PyData.int) f6))), un, un, un, un, un]) (fun (s18 : ((List Int) × (List (Int × Int)) × (List Int))) (_ : Unit) => (q_found2, ol (List.map (eP PyData.int PyData.int) s18.2.1)) :: (q_well_here, ol (List.map PyData.int s18.2.2)) :: os) (fun (r : ((List (Int × Int)) × (List Int))) v H => ∃ F, Same F0 F ∧ Ow F ((q_well_here, ol (List.map PyData.int r.2)) :: os) H ∧ Cl (dat (PyData.list (List.map (eP PyData.int PyData.int) r.1))) F v) B T (fun turn19 => gx_name (i := 7) (vi := 7) (φ := (dat (PyData.int turn19))) B T rfl rfl) (t1, ([] : (List (Int × Int))), w_well_here) () f20o h36 (ix_rng1 (gi := 1) B rfl g_range h17 (ex_v (i := 1) (j := 1) B rfl rfl rfl)) ⟨.inl rfl, .inl rfl, .inl rfl, .inl rfl, .inl rfl, .inl rfl, .inl rfl, .inl rfl, .inl rfl, .inl rfl, .inl rfl, trivial⟩ (fun _ _ => trivial) (fun F22 e21 s18 _ turn19 z38 hx hm2 => ?_) (fun f20 _ ho => ?_) (fun r37 v H ho hr => ?_)
    · clear hm h36
      have hm := hm2
      obtain ⟨t28, h28, hm⟩ := bnd hm
      refine sx_asgLc (i := 8) B T rfl (by rw [hsc]; exact lcl_of (by decide +kernel)) (lc_mk1 (j := 9) (vp := fun pair23 => (dat (PyData.tuple [(PyData.int pair23.1), (PyData.int pair23.2)]))) (c := anyOs) (enc := (eP PyData.int PyData.int)) (fun (_ : Unit) (pair23 : (Int × Int)) => ((fun (pair23 : (Int × Int)) => ((idx ways pair23.1).bind fun t25 => (idx ways pair23.2).bind fun t26 => (m_l_joined s18.1 t25 t26).bind fun t27 => if (!decide (t27 = ([] : (List Int)))) = true then some (some pair23) else some none)) pair23).map fun y => (y, ())) (fun (_ : Unit) (tl1 : Os) => (q_found2, ol (List.map (eP PyData.int PyData.int) s18.2.1)) :: (q_well_here, ol (List.map PyData.int s18.2.2)) :: tl1) () (t28) () B rfl rfl (by rw [B.hN, hsc]; decide +kernel) (by rw [hsc]; decide +kernel) (by decide) (lcG_ok h28) (ix_list (enc := (eP PyData.int PyData.int)) (c := anyOs) (ex_v (i := 5) (j := 5) B rfl rfl rfl) (fun _ _ => rdl_dat) trivial) (fun _ _ => trivial) (fun _ _ _ => ((List.Perm.cons _ (List.Perm.swap _ _ _)).trans (List.Perm.swap _ _ _))) (fun _ pair23 t tl1 hx hf => by (obtain ⟨y, hy, rfl⟩ := Option.map_eq_some_iff.mp hf; obtain ⟨t25, h25, hy⟩ := bnd hy; obtain ⟨t26, h26, hy⟩ := bnd hy; obtain ⟨t27, h27, hy⟩ := bnd hy; cases hc : (!decide (t27 = ([] : (List Int)))) with | true => (have hy := ifT hy hc; obtain rfl := som hy; exact ⟨true, _, fun X1 hX => by (have B1 := Bd.fam (W' := ["_law_ways", "_law_heads", "_law_pair"]) (G' := ["_law_joined"]) B hX (by (try rw [hsc]); decide +kernel); have c_l_joined' := fam_cal hX c_l_joined; exact ⟨.one (TX.to (tx_neR (e := (eL PyData.int)) (x := t27) (y := ([] : (List Int))) B1 (eqv_list eqv_int) (sh_list sh_int) (by decide) rdx_dat rdx_dat (ex_call (a := (s18.1, t25, t26)) (b := t27) (gi := 0) (rest := (q_found2, ol (List.map (eP PyData.int PyData.int) s18.2.1)) :: (q_well_here, ol (List.map PyData.int s18.2.2)) :: tl1) B1 rfl c_l_joined' (by decide) h27 (ax_cons (ex_v (i := 3) (j := 1) B1 rfl rfl rfl) (ax_cons (ex_idxL (enc := (eP3 PyData.int PyData.int PyData.int)) h25 rdl_dat (ex_v (i := 2) (j := 0) B1 rfl rfl rfl) (ex_ixT rdt_dat (by rfl) (ex_v (i := 9) (j := 2) B1 rfl rfl rfl) ex_int)) (ax_cons (ex_idxL (enc := (eP3 PyData.int PyData.int PyData.int)) h26 rdl_dat (ex_v (i := 2) (j := 0) B1 rfl rfl rfl) (ex_ixT rdt_dat (by rfl) (ex_v (i := 9) (j := 2) B1 rfl rfl rfl) ex_int)) ax_nil)))) (EN.ex (en_lst (ds := []) ax_nil))) hc), fun _ => ⟨_, rfl, (ex_v (i := 9) (j := 2) B1 rfl rfl rfl)⟩, fun h => Bool.noConfusion h⟩)⟩) | false => (have hy := ifF hy hc; obtain rfl := som hy; exact ⟨false, _, fun X1 hX => by (have B1 := Bd.fam (W' := ["_law_ways", "_law_heads", "_law_pair"]) (G' := ["_law_joined"]) B hX (by (try rw [hsc]); decide +kernel); have c_l_joined' := fam_cal hX c_l_joined; exact ⟨.one (TX.to (tx_neR (e := (eL PyData.int)) (x := t27) (y := ([] : (List Int))) B1 (eqv_list eqv_int) (sh_list sh_int) (by decide) rdx_dat rdx_dat (ex_call (a := (s18.1, t25, t26)) (b := t27) (gi := 0) (rest := (q_found2, ol (List.map (eP PyData.int PyData.int) s18.2.1)) :: (q_well_here, ol (List.map PyData.int s18.2.2)) :: tl1) B1 rfl c_l_joined' (by decide) h27 (ax_cons (ex_v (i := 3) (j := 1) B1 rfl rfl rfl) (ax_cons (ex_idxL (enc := (eP3 PyData.int PyData.int PyData.int)) h25 rdl_dat (ex_v (i := 2) (j := 0) B1 rfl rfl rfl) (ex_ixT rdt_dat (by rfl) (ex_v (i := 9) (j := 2) B1 rfl rfl rfl) ex_int)) (ax_cons (ex_idxL (enc := (eP3 PyData.int PyData.int PyData.int)) h26 rdl_dat (ex_v (i := 2) (j := 0) B1 rfl rfl rfl) (ex_ixT rdt_dat (by rfl) (ex_v (i := 9) (j := 2) B1 rfl rfl rfl) ex_int)) ax_nil)))) (EN.ex (en_lst (ds := []) ax_nil))) hc), fun h => Bool.noConfusion h, fun _ => ⟨rfl, rfl⟩⟩)⟩)))) (sw_ok (by rw [hsc]; decide +kernel) (by rw [hsc]; exact lcl_of (by decide +kernel)) (by decide) (by decide +kernel)) (fun q_some_28 => ?_)
      refine sx_frz (j := 0) (i := 8) rfl rfl ?_
      refine sx_if (tx_eqR (e := (eL (eP PyData.int PyData.int))) (x := t28) (y := ([] : (List (Int × Int)))) B (eqv_list (eqv_pair eqv_int eqv_int)) (sh_list (sh_pair sh_int sh_int)) (by decide) rdx_dat rdx_dat (ex_v (i := 8) (j := 8) B rfl rfl rfl) (EN.ex (en_lst (ds := []) ax_nil))) (fun hk => ?_) (fun hk => ?_)
      · have hm := ifT hm hk
        refine sx_frz (j := 0) (i := 4) rfl rfl ?_
        exact sx_ret (ex_v (i := 4) (j := 4) B rfl rfl rfl) (fun F H v e o c => ⟨_, (som hm).symm, F, (e21.trans e), o, c⟩)
      · have hm := ifF hm hk
        refine sx_fall ?_ rfl
        obtain ⟨t29, h29, hm⟩ := bnd hm
        obtain ⟨t30, h30, hm⟩ := bnd hm
        refine sx_asg (i := 9) (vi := 9) (φ := (dat (PyData.tuple [(PyData.int t30.1), (PyData.int t30.2)]))) B T rfl rfl (ex_idxL (enc := (eP PyData.int PyData.int)) h30 rdl_dat (ex_v (i := 8) (j := 8) B rfl rfl rfl) (EX.pre (ex_call (a := (q_well_here, s18.2.2, (t28.length : Int))) (b := t29) (gi := 3) (rest := (q_found2, ol (List.map (eP PyData.int PyData.int) s18.2.1)) :: os) B rfl c_l_take (by decide) h29 (ax_cons (ex_v (i := 0) (j := 0) B rfl rfl rfl) (ax_cons (EX.to (ex_fn (j := 2) B rfl g_len (by decide +kernel) call_len_seq (rc_lenL (ds := List.map (eP PyData.int PyData.int) t28) rdl_dat) (ax_cons (ex_v (i := 8) (j := 8) B rfl rfl rfl) ax_nil)) (by rw [List.length_map])) ax_nil))) (perm_at (k := 1) rfl))) ?_
        obtain ⟨t31, h31, hm⟩ := bnd hm
        refine sx_expr (ex_app (enc := (eP PyData.int PyData.int)) (j := 1) (xs0 := s18.2.1) (xs := s18.2.1) (y := t30) h31 (ex_v (i := 4) (j := 4) B rfl rfl rfl) rfl (ex_v (i := 9) (j := 9) B rfl rfl rfl) rfl) ?_
        obtain ⟨t32, h32, hm⟩ := bnd hm
        obtain ⟨t33, h33, hm⟩ := bnd hm
        obtain ⟨t34, h34, hm⟩ := bnd hm
        obtain ⟨t35, h35, hm⟩ := bnd hm
        refine sx_asg (i := 3) (vi := 3) (φ := (dat (PyData.list (List.map PyData.int t35)))) B T rfl rfl (ex_call (a := (s18.1, t34)) (b := t35) (gi := 4) (rest := (q_well_here, ol (List.map PyData.int t29.2)) :: (q_found2, ol (List.map (eP PyData.int PyData.int) t31)) :: os) B rfl c_l_with (by decide) h35 (ax_cons (ex_v (i := 3) (j := 3) B rfl rfl rfl) (ax_cons (ex_call (a := (s18.1, t32, t33)) (b := t34) (gi := 5) (rest := (q_well_here, ol (List.map PyData.int t29.2)) :: (q_found2, ol (List.map (eP PyData.int PyData.int) t31)) :: os) B rfl c_l_joined (by decide) h34 (ax_cons (ex_v (i := 3) (j := 3) B rfl rfl rfl) (ax_cons (ex_idxL (enc := (eP3 PyData.int PyData.int PyData.int)) h32 rdl_dat (ex_v (i := 2) (j := 2) B rfl rfl rfl) (ex_ixT rdt_dat (by rfl) (ex_v (i := 9) (j := 9) B rfl rfl rfl) ex_int)) (ax_cons (ex_idxL (enc := (eP3 PyData.int PyData.int PyData.int)) h33 rdl_dat (ex_v (i := 2) (j := 2) B rfl rfl rfl) (ex_ixT rdt_dat (by rfl) (ex_v (i := 9) (j := 9) B rfl rfl rfl) ex_int)) ax_nil)))) ax_nil))) ?_
        exact sx_nil fun σ H a => ⟨_, (), (som hm).symm, ((a.perm (perm_at (k := 1) rfl)).weak ⟨.inl rfl, .inl rfl, .inl rfl, .inl rfl, .inl rfl, .inl rfl, .inl rfl, .inr rfl, .inr rfl, .inr rfl, .inl rfl, trivial⟩)⟩
    · cases ho
      have hm := elimR hm
      refine sx_frz (j := 0) (i := 4) rfl rfl ?_
      obtain rfl := som hm
      exact sx_ret (ex_v (i := 4) (j := 4) B rfl rfl rfl) (fun F H v e o c => R.rt F H v e o c)
    · cases ho
      have hm := elimL hm
      obtain rfl := som hm
      obtain ⟨F, e, o, c⟩ := hr
      exact R.rt F H v e o c
theorem cal_l_drawn {P : Program} {w : World} {K : PySem.W.Frag} {mg : Str → Option Value} {base : Heap} {f : Addr} {fd : FuncData} (Fn : Fun K "_law_drawn" "_law_drawn" s_l_drawn f fd) (hmg : mg "_law_drawn" = some (.ref f)) (hb : Binds K fd ["_law_well_here", "_law_rooms", "_law_ways"] []) (g_list : mg "list" = none) (g_range : mg "range" = none) (g_len : mg "len" = none) (c_l_joined : Cal P w K mg base 1 "_law_joined" s_l_joined ["_law_heads", "_law_one", "_law_other"] (sp_l_joined K)) (c_l_take : Cal P w K mg base 1 "_law_take" s_l_take ["_law_well_here", "_law_many"] (sp_l_take K)) (c_l_with : Cal P w K mg base 1 "_law_with" s_l_with ["_law_heads", "_law_rooms"] (sp_l_with K)) : Cal P w K mg base 2 "_law_drawn" s_l_drawn ["_law_well_here", "_law_rooms", "_law_ways"] (sp_l_drawn K) := by
  obtain ⟨sts_, hst_⟩ : ∃ z_, defBody s_l_drawn = z_ := ⟨_, rfl⟩
  exact cal_ZQ (V := V_l_drawn) (Gs := G_l_drawn) (nl := 8) hst_ Fn sc_l_drawn (by decide +kernel) (by decide +kernel) hmg hb (fun _ => rfl) rfl fun _ _ _ _ _ _ _ a b F0 os D B T hm R => body_l_drawn rfl hst_ B T g_list g_range g_len c_l_joined c_l_take c_l_with a.1 a.2.1 a.2.2.1 a.2.2.2 b F0 os D hm R
abbrev s_l_list : Stmt := top 37
def N_l_list : List Str := ["_law_well_here", "_law_letters", "_law_many", "_law_most", "_law_found", "_law_turn", "_law_walk_here", "_law_old", "_law_cut"]
def V_l_list : List Str := ["_law_well_here", "_law_letters", "_law_many", "_law_most", "_law_found", "_law_turn", "_law_walk_here", "_law_old", "_law_cut"]
def G_l_list : List Str := ["range", "_law_take", "_law_walk", "len"]
theorem sc_l_list : FnScope N_l_list ["_law_well_here", "_law_letters", "_law_many", "_law_most"] (defScope s_l_list) := ⟨rfl, rfl, rfl, by decide +kernel, rfl, by decide +kernel, by decide +kernel⟩
abbrev sp_l_list (K : PySem.W.Frag) : Sp := spZ (α := (Addr × (List Int) × Int × Int × Int)) (β := ((List (List Int)) × (List Int))) (fun a => [own a.1, (dat (PyData.int a.2.2.1)), (dat (PyData.int a.2.2.2.1)), (dat (PyData.int a.2.2.2.2))]) (fun a => (a.1, ol (List.map PyData.int a.2.1)) :: []) (fun a => m_l_list a.2.1 a.2.2.1 a.2.2.2.1 a.2.2.2.2) (fun a b => (dat (PyData.list (List.map (eT PyData.int) b.1)))) (fun a b => (a.1, ol (List.map PyData.int b.2)) :: [])
set_option maxHeartbeats 4000000 in
theorem body_l_list {X : Cx} (hsc : X.env.scope = defScope s_l_list) {sts_ : List Stmt} (hst_ : defBody s_l_list = sts_) (B : Bd X N_l_list V_l_list G_l_list 2) (T : Bt X V_l_list) (g_range : X.mg "range" = none) (c_l_take : Cal X.prog X.w X.K X.mg X.base 1 "_law_take" s_l_take ["_law_well_here", "_law_many"] (sp_l_take X.K)) (c_l_walk : Cal X.prog X.w X.K X.mg X.base 2 "_law_walk" s_l_walk ["_law_well_here", "_law_letters", "_law_most"] (sp_l_walk X.K)) (g_len : X.mg "len" = none) (q_well_here : Addr) (w_well_here : (List Int)) (letters : Int) (many : Int) (most : Int) (b : ((List (List Int)) × (List Int))) (F0 : Hp) (os : Os) (D : Ends) (hm : m_l_list w_well_here letters many most = some b) (R : RetZ F0 ((q_well_here, ol (List.map PyData.int b.2)) :: os) (dat (PyData.list (List.map (eT PyData.int) b.1))) D) :
    SX X [sl (own q_well_here), sl (dat (PyData.int letters)), sl (dat (PyData.int many)), sl (dat (PyData.int most)), un, un, un, un, un] ((q_well_here, ol (List.map PyData.int w_well_here)) :: os) F0 sts_ D := by
  subst hst_
  unfold m_l_list at hm
  refine sx_asgN (i := 4) (vi := 4) (n := ol (List.map (eT PyData.int) ([] : (List (List Int))))) B T rfl rfl (en_lst (ds := []) ax_nil) (fun q_found0 => ?_)
  obtain ⟨t1, h1, hm⟩ := bnd hm
  obtain ⟨t2, h2, hm⟩ := bnd hm
  obtain ⟨f5, h22, hm⟩ := bnd hm
  refine sx_for (c := anyOs) _ (fun (s3 : ((List Int) × (List (List Int)))) (_ : Unit) => [sl (own q_well_here), sl (dat (PyData.int letters)), sl (dat (PyData.int many)), sl (dat (PyData.int most)), sl (own q_found0), un, un, un, un]) (fun (s3 : ((List Int) × (List (List Int)))) (_ : Unit) => (q_well_here, ol (List.map PyData.int s3.1)) :: (q_found0, ol (List.map (eT PyData.int) s3.2)) :: os) B T (fun turn4 => gx_name (i := 5) (vi := 5) (φ := (dat (PyData.int turn4))) B T rfl rfl) (t1.2, ([] : (List (List Int)))) () f5 h22 (ix_rng1 (gi := 0) B rfl g_range h2 (EX.pre (ex_call (a := (q_well_here, w_well_here, (many + 1))) (b := t1) (gi := 1) (rest := (q_found0, ol (List.map (eT PyData.int) ([] : (List (List Int))))) :: os) B rfl c_l_take (by decide) h1 (ax_cons (ex_v (i := 0) (j := 0) B rfl rfl rfl) (ax_cons (ex_add (ex_v (i := 2) (j := 2) B rfl rfl rfl) ex_int) ax_nil))) (perm_at (k := 1) rfl))) ⟨.inl rfl, .inl rfl, .inl rfl, .inl rfl, .inl rfl, .inl rfl, .inl rfl, .inl rfl, .inl rfl, trivial⟩ (fun _ _ => trivial) (fun F7 e6 s3 _ turn4 z23 hx hm => ?_) (fun _ => ?_)
  · clear h22
    obtain ⟨t8, h8, hm⟩ := bnd hm
    refine sx_asg (i := 6) (vi := 6) (φ := (dat (PyData.tuple (List.map PyData.int t8.1)))) B T rfl rfl (ex_call (a := (q_well_here, s3.1, letters, most)) (b := t8) (gi := 2) (rest := (q_found0, ol (List.map (eT PyData.int) s3.2)) :: os) B rfl c_l_walk (by decide) h8 (ax_cons (ex_v (i := 0) (j := 0) B rfl rfl rfl) (ax_cons (ex_v (i := 1) (j := 1) B rfl rfl rfl) (ax_cons (ex_v (i := 3) (j := 3) B rfl rfl rfl) ax_nil)))) ?_
    obtain ⟨t10, h10, hm⟩ := bnd hm
    obtain ⟨s20, h_s20, hm⟩ := bnd hm
    refine sx_join [sl (own q_well_here), sl (dat (PyData.int letters)), sl (dat (PyData.int many)), sl (dat (PyData.int most)), sl (own q_found0), sl (dat (PyData.int turn4)), sl (dat (PyData.tuple (List.map PyData.int s20.1))), un, un] ((q_well_here, ol (List.map PyData.int s20.2)) :: (q_found0, ol (List.map (eT PyData.int) s3.2)) :: os) (?_) (fun Q => ?_)
    · clear h_s20
      obtain ⟨t21, h21, hm⟩ := bnd hm
      refine sx_expr (ex_app (enc := (eT PyData.int)) (j := 1) (xs0 := s3.2) (xs := s3.2) (y := (cut s20.1 none (some most))) h21 (ex_v (i := 4) (j := 4) B rfl rfl rfl) rfl (ex_cutT (enc := PyData.int) rdt_dat (ex_v (i := 6) (j := 6) B rfl rfl rfl) px_none (px_some (ex_v (i := 3) (j := 3) B rfl rfl rfl))) rfl) ?_
      obtain rfl := som hm
      exact sx_nil fun σ H a => ⟨(), (a.weak ⟨.inl rfl, .inl rfl, .inl rfl, .inl rfl, .inl rfl, .inr rfl, .inr rfl, .inl rfl, .inl rfl, trivial⟩)⟩
    · have hm := h_s20
      refine sx_if (WX.tx (wx_and (l := t10.1) (os2 := (q_well_here, ol (List.map PyData.int t10.2)) :: (q_found0, ol (List.map (eT PyData.int) s3.2)) :: os) (tx_neR (e := (eL (eT PyData.int))) (x := s3.2) (y := ([] : (List (List Int)))) B (eqv_list (eqv_tup eqv_int)) (sh_list (sh_tup sh_int)) (by decide) (rdx_own (ds := List.map (eT PyData.int) s3.2) 1 rfl) rdx_dat (ex_v (i := 4) (j := 4) B rfl rfl rfl) (EN.ex (en_lst (ds := []) ax_nil))) (fun hk => by (have hm := ifT h10 hk; obtain ⟨t9, h9, hm⟩ := bnd hm; obtain rfl := som hm; exact (wx_and1 (tx_cmp op_eq r2_eqI (nomark _) (ex_call (a := (q_well_here, t8.2, 2)) (b := t9) (gi := 1) (rest := (q_found0, ol (List.map (eT PyData.int) s3.2)) :: os) B rfl c_l_take (by decide) h9 (ax_cons (ex_v (i := 0) (j := 0) B rfl rfl rfl) (ax_cons ex_int ax_nil))) ex_int)))) (fun hk => by (have hm := ifF h10 hk; obtain rfl := som hm; rfl)) (and_fix (fun hk => by (have hm := ifF h10 hk; obtain rfl := som hm; rfl))))) (fun hk => ?_) (fun hk => ?_)
      · have hm := ifT hm hk
        obtain ⟨t11, h11, hm⟩ := bnd hm
        obtain ⟨t12, h12, hm⟩ := bnd hm
        refine sx_asg (i := 7) (vi := 7) (φ := (dat (PyData.tuple (List.map PyData.int t12)))) B T rfl rfl (ex_idxL (enc := (eT PyData.int)) h12 (rdl_own 1 rfl) (ex_v (i := 4) (j := 4) B rfl rfl rfl) (ex_call (a := (q_well_here, t10.2, (s3.2.length : Int))) (b := t11) (gi := 1) (rest := (q_found0, ol (List.map (eT PyData.int) s3.2)) :: os) B rfl c_l_take (by decide) h11 (ax_cons (ex_v (i := 0) (j := 0) B rfl rfl rfl) (ax_cons (EX.to (ex_fn (j := 3) B rfl g_len (by decide +kernel) call_len_seq (rc_lenL (ds := List.map (eT PyData.int) s3.2) (rdl_own 1 rfl)) (ax_cons (ex_v (i := 4) (j := 4) B rfl rfl rfl) ax_nil)) (by rw [List.length_map])) ax_nil)))) ?_
        obtain ⟨t13, h13, hm⟩ := bnd hm
        refine sx_asg (i := 8) (vi := 8) (φ := (dat (PyData.int t13.1))) B T rfl rfl (ex_call (a := (q_well_here, t11.2, ((t12.length : Int) + 1))) (b := t13) (gi := 1) (rest := (q_found0, ol (List.map (eT PyData.int) s3.2)) :: os) B rfl c_l_take (by decide) h13 (ax_cons (ex_v (i := 0) (j := 0) B rfl rfl rfl) (ax_cons (ex_add (EX.to (ex_fn (j := 3) B rfl g_len (by decide +kernel) call_len_seq (rc_lenT (ds := List.map PyData.int t12) rdt_dat) (ax_cons (ex_v (i := 7) (j := 7) B rfl rfl rfl) ax_nil)) (by rw [List.length_map])) ex_int) ax_nil))) ?_
        obtain ⟨t14, h14, hm⟩ := bnd hm
        obtain ⟨t15, h15, hm⟩ := bnd hm
        obtain ⟨t16, h16, hm⟩ := bnd hm
        obtain ⟨t17, h17, hm⟩ := bnd hm
        obtain ⟨t18, h18, hm⟩ := bnd hm
        obtain ⟨t19, h19, hm⟩ := bnd hm
        refine sx_asg (i := 6) (vi := 6) (φ := (dat (PyData.tuple (List.map PyData.int t19)))) B T rfl rfl (ex_idxL (enc := (eT PyData.int)) h19 rdl_dat (EN.ex (en_lst (ds := [(PyData.tuple (List.map PyData.int t14)), (PyData.tuple (List.map PyData.int t15)), (PyData.tuple (List.map PyData.int t16)), (PyData.tuple (List.map PyData.int t17))]) (hl := len_ok (n := 4) rfl) (ax_cons (ex_catT (enc := PyData.int) h14 (ex_cutT (enc := PyData.int) rdt_dat (ex_v (i := 7) (j := 7) B rfl rfl rfl) px_none (px_some (ex_v (i := 8) (j := 8) B rfl rfl rfl))) (ex_v (i := 6) (j := 6) B rfl rfl rfl)) (ax_cons (ex_catT (enc := PyData.int) h15 (ex_v (i := 6) (j := 6) B rfl rfl rfl) (ex_cutT (enc := PyData.int) rdt_dat (ex_v (i := 7) (j := 7) B rfl rfl rfl) (px_some (ex_v (i := 8) (j := 8) B rfl rfl rfl)) px_none)) (ax_cons (ex_catT (enc := PyData.int) h16 (ex_cutT (enc := PyData.int) rdt_dat (ex_v (i := 7) (j := 7) B rfl rfl rfl) (px_some (ex_v (i := 8) (j := 8) B rfl rfl rfl)) px_none) (ex_cutT (enc := PyData.int) rdt_dat (ex_v (i := 7) (j := 7) B rfl rfl rfl) px_none (px_some (ex_v (i := 8) (j := 8) B rfl rfl rfl)))) (ax_cons (ex_catT (enc := PyData.int) h17 (ex_v (i := 7) (j := 7) B rfl rfl rfl) (ex_cutT (enc := PyData.int) rdt_dat (ex_v (i := 7) (j := 7) B rfl rfl rfl) px_none (px_some (ex_v (i := 8) (j := 8) B rfl rfl rfl)))) ax_nil)))))) (ex_call (a := (q_well_here, t13.2, 4)) (b := t18) (gi := 1) (rest := (q_found0, ol (List.map (eT PyData.int) s3.2)) :: os) B rfl c_l_take (by decide) h18 (ax_cons (ex_v (i := 0) (j := 0) B rfl rfl rfl) (ax_cons ex_int ax_nil)))) ?_
        obtain rfl := som hm
        exact sx_fall (SX.weak Q (by exact ⟨.inl rfl, .inl rfl, .inl rfl, .inl rfl, .inl rfl, .inl rfl, .inl rfl, .inr rfl, .inr rfl, trivial⟩)) rfl
      · have hm := ifF hm hk
        obtain rfl := som hm
        exact sx_fall Q rfl
  · skip
    refine sx_frz (j := 1) (i := 4) rfl rfl ?_
    obtain rfl := som hm
    exact sx_ret (ex_v (i := 4) (j := 4) B rfl rfl rfl) (fun F H v e o c => R.rt F H v e o c)
theorem cal_l_list {P : Program} {w : World} {K : PySem.W.Frag} {mg : Str → Option Value} {base : Heap} {f : Addr} {fd : FuncData} (Fn : Fun K "_law_list" "_law_list" s_l_list f fd) (hmg : mg "_law_list" = some (.ref f)) (hb : Binds K fd ["_law_well_here", "_law_letters", "_law_many", "_law_most"] []) (g_range : mg "range" = none) (c_l_take : Cal P w K mg base 1 "_law_take" s_l_take ["_law_well_here", "_law_many"] (sp_l_take K)) (c_l_walk : Cal P w K mg base 2 "_law_walk" s_l_walk ["_law_well_here", "_law_letters", "_law_most"] (sp_l_walk K)) (g_len : mg "len" = none) : Cal P w K mg base 3 "_law_list" s_l_list ["_law_well_here", "_law_letters", "_law_many", "_law_most"] (sp_l_list K) := by
  obtain ⟨sts_, hst_⟩ : ∃ z_, defBody s_l_list = z_ := ⟨_, rfl⟩
  exact cal_ZQ (V := V_l_list) (Gs := G_l_list) (nl := 5) hst_ Fn sc_l_list (by decide +kernel) (by decide +kernel) hmg hb (fun _ => rfl) rfl fun _ _ _ _ _ _ _ a b F0 os D B T hm R => body_l_list rfl hst_ B T g_range c_l_take c_l_walk g_len a.1 a.2.1 a.2.2.1 a.2.2.2.1 a.2.2.2.2 b F0 os D hm R
abbrev s_l_in : Stmt := top 38
def N_l_in : List Str := ["_law_right_here", "_law_at", "_law_entry"]
def V_l_in : List Str := ["_law_right_here", "_law_at", "_law_entry"]
def G_l_in : List Str := []
theorem sc_l_in : FnScope N_l_in ["_law_right_here", "_law_at", "_law_entry"] (defScope s_l_in) := ⟨rfl, rfl, rfl, by decide +kernel, rfl, by decide +kernel, by decide +kernel⟩
abbrev sp_l_in (K : PySem.W.Frag) : Sp := spZ (α := ((List (Int × Int)) × Int × (Int × Int))) (β := (List (Int × Int))) (fun a => [(dat (PyData.list (List.map (eP PyData.int PyData.int) a.1))), (dat (PyData.int a.2.1)), (dat (PyData.tuple [(PyData.int a.2.2.1), (PyData.int a.2.2.2)]))]) (fun a => []) (fun a => m_l_in a.1 a.2.1 a.2.2) (fun a b => (dat (PyData.list (List.map (eP PyData.int PyData.int) b)))) (fun a b => [])
set_option maxHeartbeats 4000000 in
theorem body_l_in {X : Cx} (hsc : X.env.scope = defScope s_l_in) {sts_ : List Stmt} (hst_ : defBody s_l_in = sts_) (B : Bd X N_l_in V_l_in G_l_in 0) (T : Bt X V_l_in)  (right_here : (List (Int × Int))) (at_ : Int) (entry : (Int × Int)) (b : (List (Int × Int))) (F0 : Hp) (os : Os) (D : Ends) (hm : m_l_in right_here at_ entry = some b) (R : RetZ F0 (os) (dat (PyData.list (List.map (eP PyData.int PyData.int) b))) D) :
    SX X [sl (dat (PyData.list (List.map (eP PyData.int PyData.int) right_here))), sl (dat (PyData.int at_)), sl (dat (PyData.tuple [(PyData.int entry.1), (PyData.int entry.2)]))] (os) F0 sts_ D := by
  subst hst_
  unfold m_l_in at hm
  obtain ⟨t1, h1, hm⟩ := bnd hm
  obtain ⟨t2, h2, hm⟩ := bnd hm
  obtain rfl := som hm
  exact sx_ret (EN.ex (en_cat (enc := (eP PyData.int PyData.int)) h2 (EN.ex (en_cat (enc := (eP PyData.int PyData.int)) h1 (EN.ex (en_cut (enc := (eP PyData.int PyData.int)) rdl_dat (ex_v (i := 0) (j := 0) B rfl rfl rfl) px_none (px_some (ex_v (i := 1) (j := 1) B rfl rfl rfl)))) (EN.ex (en_lst (ds := [(PyData.tuple [(PyData.int entry.1), (PyData.int entry.2)])]) (hl := len_ok (n := 1) rfl) (ax_cons (ex_v (i := 2) (j := 2) B rfl rfl rfl) ax_nil))))) (EN.ex (en_cut (enc := (eP PyData.int PyData.int)) rdl_dat (ex_v (i := 0) (j := 0) B rfl rfl rfl) (px_some (ex_v (i := 1) (j := 1) B rfl rfl rfl)) px_none)))) (fun F H v e o c => R.rt F H v e o c)
theorem cal_l_in {P : Program} {w : World} {K : PySem.W.Frag} {mg : Str → Option Value} {base : Heap} {f : Addr} {fd : FuncData} (Fn : Fun K "_law_in" "_law_in" s_l_in f fd) (hmg : mg "_law_in" = some (.ref f)) (hb : Binds K fd ["_law_right_here", "_law_at", "_law_entry"] [])  : Cal P w K mg base 1 "_law_in" s_l_in ["_law_right_here", "_law_at", "_law_entry"] (sp_l_in K) := by
  obtain ⟨sts_, hst_⟩ : ∃ z_, defBody s_l_in = z_ := ⟨_, rfl⟩
  exact cal_ZQ (V := V_l_in) (Gs := G_l_in) (nl := 0) hst_ Fn sc_l_in (by decide +kernel) (by decide +kernel) hmg hb (fun _ => rfl) rfl fun _ _ _ _ _ _ _ a b F0 os D B T hm R => body_l_in rfl hst_ B T  a.1 a.2.1 a.2.2 b F0 os D hm R
abbrev s_l_in_d : Stmt := top 38
def N_l_in_d : List Str := ["_law_right_here", "_law_at", "_law_entry"]
def V_l_in_d : List Str := ["_law_right_here", "_law_at", "_law_entry"]
def G_l_in_d : List Str := []
theorem sc_l_in_d : FnScope N_l_in_d ["_law_right_here", "_law_at", "_law_entry"] (defScope s_l_in_d) := ⟨rfl, rfl, rfl, by decide +kernel, rfl, by decide +kernel, by decide +kernel⟩
abbrev sp_l_in_d (K : PySem.W.Frag) : Sp := spZ (α := ((List PyData) × Int × PyData)) (β := (List PyData)) (fun a => [(dat (PyData.list (List.map id a.1))), (dat (PyData.int a.2.1)), (dat a.2.2)]) (fun a => []) (fun a => m_l_in_d a.1 a.2.1 a.2.2) (fun a b => (dat (PyData.list (List.map id b)))) (fun a b => [])
set_option maxHeartbeats 4000000 in
theorem body_l_in_d {X : Cx} (hsc : X.env.scope = defScope s_l_in_d) {sts_ : List Stmt} (hst_ : defBody s_l_in_d = sts_) (B : Bd X N_l_in_d V_l_in_d G_l_in_d 0) (T : Bt X V_l_in_d)  (right_here : (List PyData)) (at_ : Int) (entry : PyData) (b : (List PyData)) (F0 : Hp) (os : Os) (D : Ends) (hm : m_l_in_d right_here at_ entry = some b) (R : RetZ F0 (os) (dat (PyData.list (List.map id b))) D) :
    SX X [sl (dat (PyData.list (List.map id right_here))), sl (dat (PyData.int at_)), sl (dat entry)] (os) F0 sts_ D := by
  subst hst_
  unfold m_l_in_d at hm
  obtain ⟨t1, h1, hm⟩ := bnd hm
  obtain ⟨t2, h2, hm⟩ := bnd hm
  obtain rfl := som hm
  exact sx_ret (EN.ex (en_cat (enc := id) h2 (EN.ex (en_cat (enc := id) h1 (EN.ex (en_cut (enc := id) rdl_dat (ex_v (i := 0) (j := 0) B rfl rfl rfl) px_none (px_some (ex_v (i := 1) (j := 1) B rfl rfl rfl)))) (EN.ex (en_lst (ds := [entry]) (hl := len_ok (n := 1) rfl) (ax_cons (ex_v (i := 2) (j := 2) B rfl rfl rfl) ax_nil))))) (EN.ex (en_cut (enc := id) rdl_dat (ex_v (i := 0) (j := 0) B rfl rfl rfl) (px_some (ex_v (i := 1) (j := 1) B rfl rfl rfl)) px_none)))) (fun F H v e o c => R.rt F H v e o c)
theorem cal_l_in_d {P : Program} {w : World} {K : PySem.W.Frag} {mg : Str → Option Value} {base : Heap} {f : Addr} {fd : FuncData} (Fn : Fun K "_law_in" "_law_in" s_l_in_d f fd) (hmg : mg "_law_in" = some (.ref f)) (hb : Binds K fd ["_law_right_here", "_law_at", "_law_entry"] [])  : Cal P w K mg base 1 "_law_in" s_l_in_d ["_law_right_here", "_law_at", "_law_entry"] (sp_l_in_d K) := by
  obtain ⟨sts_, hst_⟩ : ∃ z_, defBody s_l_in_d = z_ := ⟨_, rfl⟩
  exact cal_ZQ (V := V_l_in_d) (Gs := G_l_in_d) (nl := 0) hst_ Fn sc_l_in_d (by decide +kernel) (by decide +kernel) hmg hb (fun _ => rfl) rfl fun _ _ _ _ _ _ _ a b F0 os D B T hm R => body_l_in_d rfl hst_ B T  a.1 a.2.1 a.2.2 b F0 os D hm R
abbrev s_l_numbers : Stmt := top 39
def N_l_numbers : List Str := ["_law_well_here", "_law_right_here", "_law_many", "_law_at", "_law_any_pair", "_law_found", "_law_to", "_law_pair", "_law_less"]
def V_l_numbers : List Str := ["_law_well_here", "_law_right_here", "_law_many", "_law_at", "_law_any_pair", "_law_found", "_law_to", "_law_pair", "_law_less"]
def G_l_numbers : List Str := ["_law_take", "len", "_law_in"]
theorem sc_l_numbers : FnScope N_l_numbers ["_law_well_here", "_law_right_here", "_law_many"] (defScope s_l_numbers) := ⟨rfl, rfl, rfl, by decide +kernel, rfl, by decide +kernel, by decide +kernel⟩
abbrev sp_l_numbers (K : PySem.W.Frag) : Sp := spZ (α := (Addr × (List Int) × (List (Int × Int)) × Int)) (β := ((List (List (Int × Int))) × (List Int))) (fun a => [own a.1, (dat (PyData.list (List.map (eP PyData.int PyData.int) a.2.2.1))), (dat (PyData.int a.2.2.2))]) (fun a => (a.1, ol (List.map PyData.int a.2.1)) :: []) (fun a => m_l_numbers a.2.1 a.2.2.1 a.2.2.2) (fun a b => (dat (PyData.list (List.map (eL (eP PyData.int PyData.int)) b.1)))) (fun a b => (a.1, ol (List.map PyData.int b.2)) :: [])
set_option maxHeartbeats 4000000 in
theorem body_l_numbers {X : Cx} (hsc : X.env.scope = defScope s_l_numbers) {sts_ : List Stmt} (hst_ : defBody s_l_numbers = sts_) (B : Bd X N_l_numbers V_l_numbers G_l_numbers 1) (T : Bt X V_l_numbers) (c_l_take : Cal X.prog X.w X.K X.mg X.base 1 "_law_take" s_l_take ["_law_well_here", "_law_many"] (sp_l_take X.K)) (g_len : X.mg "len" = none) (c_l_in : Cal X.prog X.w X.K X.mg X.base 1 "_law_in" s_l_in ["_law_right_here", "_law_at", "_law_entry"] (sp_l_in X.K)) (q_well_here : Addr) (w_well_here : (List Int)) (right_here : (List (Int × Int))) (many : Int) (b : ((List (List (Int × Int))) × (List Int))) (F0 : Hp) (os : Os) (D : Ends) (hm : m_l_numbers w_well_here right_here many = some b) (R : RetZ F0 ((q_well_here, ol (List.map PyData.int b.2)) :: os) (dat (PyData.list (List.map (eL (eP PyData.int PyData.int)) b.1))) D) :
    SX X [sl (own q_well_here), sl (dat (PyData.list (List.map (eP PyData.int PyData.int) right_here))), sl (dat (PyData.int many)), un, un, un, un, un, un] ((q_well_here, ol (List.map PyData.int w_well_here)) :: os) F0 sts_ D := by
  subst hst_
  unfold m_l_numbers at hm
  obtain ⟨t1, h1, hm⟩ := bnd hm
  refine sx_asg (i := 3) (vi := 3) (φ := (dat (PyData.int t1.1))) B T rfl rfl (ex_call (a := (q_well_here, w_well_here, ((right_here.length : Int) + 1))) (b := t1) (gi := 0) (rest := os) B rfl c_l_take (by decide) h1 (ax_cons (ex_v (i := 0) (j := 0) B rfl rfl rfl) (ax_cons (ex_add (EX.to (ex_fn (j := 1) B rfl g_len (by decide +kernel) call_len_seq (rc_lenL (ds := List.map (eP PyData.int PyData.int) right_here) rdl_dat) (ax_cons (ex_v (i := 1) (j := 1) B rfl rfl rfl) ax_nil)) (by rw [List.length_map])) ex_int) ax_nil))) ?_
  obtain ⟨t2, h2, hm⟩ := bnd hm
  obtain ⟨t3, h3, hm⟩ := bnd hm
  refine sx_asg (i := 4) (vi := 4) (φ := (dat (PyData.tuple [(PyData.int (t2.1, t3.1).1), (PyData.int (t2.1, t3.1).2)]))) B T rfl rfl (ex_tup (ds := [(PyData.int t2.1), (PyData.int t3.1)]) (hl := len_ok (n := 2) rfl) (ax_cons (ex_call (a := (q_well_here, t1.2, (many + 1))) (b := t2) (gi := 0) (rest := os) B rfl c_l_take (by decide) h2 (ax_cons (ex_v (i := 0) (j := 0) B rfl rfl rfl) (ax_cons (ex_add (ex_v (i := 2) (j := 2) B rfl rfl rfl) ex_int) ax_nil))) (ax_cons (ex_call (a := (q_well_here, t2.2, (many + 2))) (b := t3) (gi := 0) (rest := os) B rfl c_l_take (by decide) h3 (ax_cons (ex_v (i := 0) (j := 0) B rfl rfl rfl) (ax_cons (ex_add (ex_v (i := 2) (j := 2) B rfl rfl rfl) ex_int) ax_nil))) ax_nil))) ?_
  obtain ⟨t4, h4, hm⟩ := bnd hm
  obtain ⟨t5, h5, hm⟩ := bnd hm
  obtain ⟨t6, h6, hm⟩ := bnd hm
  refine sx_asg (i := 5) (vi := 5) (φ := (dat (PyData.list (List.map (eL (eP PyData.int PyData.int)) ([right_here, t4, t5, t6]))))) B T rfl rfl (EN.ex (en_lst (ds := [(PyData.list (List.map (eP PyData.int PyData.int) right_here)), (PyData.list (List.map (eP PyData.int PyData.int) t4)), (PyData.list (List.map (eP PyData.int PyData.int) t5)), (PyData.list (List.map (eP PyData.int PyData.int) t6))]) (hl := len_ok (n := 4) rfl) (ax_cons (ex_v (i := 1) (j := 1) B rfl rfl rfl) (ax_cons (ex_call (a := (right_here, t1.1, (t2.1, t3.1))) (b := t4) (gi := 2) (rest := (q_well_here, ol (List.map PyData.int t3.2)) :: os) B rfl c_l_in (by decide) h4 (ax_cons (ex_v (i := 1) (j := 1) B rfl rfl rfl) (ax_cons (ex_v (i := 3) (j := 3) B rfl rfl rfl) (ax_cons (ex_v (i := 4) (j := 4) B rfl rfl rfl) ax_nil)))) (ax_cons (ex_call (a := (right_here, t1.1, ((-1), 0))) (b := t5) (gi := 2) (rest := (q_well_here, ol (List.map PyData.int t3.2)) :: os) B rfl c_l_in (by decide) h5 (ax_cons (ex_v (i := 1) (j := 1) B rfl rfl rfl) (ax_cons (ex_v (i := 3) (j := 3) B rfl rfl rfl) (ax_cons (ex_tup (ds := [(PyData.int (-1)), (PyData.int 0)]) (hl := len_ok (n := 2) rfl) (ax_cons (EX.to (d' := PyData.int (-1)) (ex_sub ex_int ex_int) (by rfl)) (ax_cons ex_int ax_nil))) ax_nil)))) (ax_cons (ex_call (a := (right_here, t1.1, (0, many))) (b := t6) (gi := 2) (rest := (q_well_here, ol (List.map PyData.int t3.2)) :: os) B rfl c_l_in (by decide) h6 (ax_cons (ex_v (i := 1) (j := 1) B rfl rfl rfl) (ax_cons (ex_v (i := 3) (j := 3) B rfl rfl rfl) (ax_cons (ex_tup (ds := [(PyData.int 0), (PyData.int many)]) (hl := len_ok (n := 2) rfl) (ax_cons ex_int (ax_cons (ex_v (i := 2) (j := 2) B rfl rfl rfl) ax_nil))) ax_nil)))) ax_nil)))))) ?_
  obtain ⟨t7, h7, hm⟩ := bnd hm
  obtain ⟨t8, h8, hm⟩ := bnd hm
  refine sx_asg (i := 5) (vi := 5) (φ := (dat (PyData.list (List.map (eL (eP PyData.int PyData.int)) t8)))) B T rfl rfl (EN.ex (en_cat (enc := (eL (eP PyData.int PyData.int))) h8 (ex_v (i := 5) (j := 5) B rfl rfl rfl) (EN.ex (en_lst (ds := [(PyData.list (List.map (eP PyData.int PyData.int) t7)), (PyData.list (List.map (eP PyData.int PyData.int) right_here.reverse)), (PyData.list (List.map (eP PyData.int PyData.int) ([(t2.1, t3.1)]))), (PyData.list (List.map (eP PyData.int PyData.int) ([] : (List (Int × Int)))))]) (hl := len_ok (n := 4) rfl) (ax_cons (ex_call (a := (right_here, t1.1, (t1.1, t1.1))) (b := t7) (gi := 2) (rest := (q_well_here, ol (List.map PyData.int t3.2)) :: os) B rfl c_l_in (by decide) h7 (ax_cons (ex_v (i := 1) (j := 1) B rfl rfl rfl) (ax_cons (ex_v (i := 3) (j := 3) B rfl rfl rfl) (ax_cons (ex_tup (ds := [(PyData.int t1.1), (PyData.int t1.1)]) (hl := len_ok (n := 2) rfl) (ax_cons (ex_v (i := 3) (j := 3) B rfl rfl rfl) (ax_cons (ex_v (i := 3) (j := 3) B rfl rfl rfl) ax_nil))) ax_nil)))) (ax_cons (EN.ex (en_rev (enc := (eP PyData.int PyData.int)) rdl_dat (ex_v (i := 1) (j := 1) B rfl rfl rfl))) (ax_cons (EN.ex (en_lst (ds := [(PyData.tuple [(PyData.int (t2.1, t3.1).1), (PyData.int (t2.1, t3.1).2)])]) (hl := len_ok (n := 1) rfl) (ax_cons (ex_v (i := 4) (j := 4) B rfl rfl rfl) ax_nil))) (ax_cons (EN.ex (en_lst (ds := []) ax_nil)) ax_nil)))))))) ?_
  obtain ⟨s23, h_s23, hm⟩ := bnd hm
  refine sx_join [sl (own q_well_here), sl (dat (PyData.list (List.map (eP PyData.int PyData.int) right_here))), sl (dat (PyData.int many)), sl (dat (PyData.int s23.1)), sl (dat (PyData.tuple [(PyData.int (t2.1, t3.1).1), (PyData.int (t2.1, t3.1).2)])), sl (dat (PyData.list (List.map (eL (eP PyData.int PyData.int)) s23.2.1))), un, un, un] ((q_well_here, ol (List.map PyData.int s23.2.2)) :: os) (?_) (fun Q => ?_)
  · clear h_s23
    obtain rfl := som hm
    exact sx_ret (ex_v (i := 5) (j := 5) B rfl rfl rfl) (fun F H v e o c => R.rt F H v e o c)
  · have hm := h_s23
    refine sx_if (tx_neR (e := (eL (eP PyData.int PyData.int))) (x := right_here) (y := ([] : (List (Int × Int)))) B (eqv_list (eqv_pair eqv_int eqv_int)) (sh_list (sh_pair sh_int sh_int)) (by decide) rdx_dat rdx_dat (ex_v (i := 1) (j := 1) B rfl rfl rfl) (EN.ex (en_lst (ds := []) ax_nil))) (fun hk => ?_) (fun hk => ?_)
    · have hm := ifT hm hk
      obtain ⟨t9, h9, hm⟩ := bnd hm
      obtain ⟨t10, h10, hm⟩ := bnd hm
      refine sx_par2 (i := 3) (j := 6) _ hsc B rfl rfl (by decide) (by decide +kernel) (by decide +kernel) (by intro env he; cases env; cases he; first | rfl | kernel_rfl) (aq_x (φ := (dat (PyData.int t9.1))) (ex_call (a := (q_well_here, t3.2, (right_here.length : Int))) (b := t9) (gi := 0) (rest := os) B rfl c_l_take (by decide) h9 (ax_cons (ex_v (i := 0) (j := 0) B rfl rfl rfl) (ax_cons (EX.to (ex_fn (j := 1) B rfl g_len (by decide +kernel) call_len_seq (rc_lenL (ds := List.map (eP PyData.int PyData.int) right_here) rdl_dat) (ax_cons (ex_v (i := 1) (j := 1) B rfl rfl rfl) ax_nil)) (by rw [List.length_map])) ax_nil))) (aq_x (φ := (dat (PyData.int t10.1))) (ex_call (a := (q_well_here, t9.2, (right_here.length : Int))) (b := t10) (gi := 0) (rest := os) B rfl c_l_take (by decide) h10 (ax_cons (ex_v (i := 0) (j := 0) B rfl rfl rfl) (ax_cons (EX.to (ex_fn (j := 1) B rfl g_len (by decide +kernel) call_len_seq (rc_lenL (ds := List.map (eP PyData.int PyData.int) right_here) rdl_dat) (ax_cons (ex_v (i := 1) (j := 1) B rfl rfl rfl) ax_nil)) (by rw [List.length_map])) ax_nil))) aq_nil)) (fun v0 v1 os_ hr_ => ?_) (by rintro φs os_ ⟨_, rfl, _, rfl, rfl, rfl⟩; exact ⟨_, _, rfl⟩)
      obtain ⟨_, e0, _, e1, e8, e9⟩ := hr_
      cases e0; cases e1; cases e8; cases e9
      obtain ⟨t11, h11, hm⟩ := bnd hm
      refine sx_asg (i := 7) (vi := 7) (φ := (dat (PyData.tuple [(PyData.int t11.1), (PyData.int t11.2)]))) B T rfl rfl (ex_idxL (enc := (eP PyData.int PyData.int)) h11 rdl_dat (ex_v (i := 1) (j := 1) B rfl rfl rfl) (ex_v (i := 3) (j := 3) B rfl rfl rfl)) ?_
      obtain ⟨t12, h12, hm⟩ := bnd hm
      refine sx_asg (i := 8) (vi := 8) (φ := (dat (PyData.list (List.map (eP PyData.int PyData.int) t12)))) B T rfl rfl (EN.ex (en_cat (enc := (eP PyData.int PyData.int)) h12 (EN.ex (en_cut (enc := (eP PyData.int PyData.int)) rdl_dat (ex_v (i := 1) (j := 1) B rfl rfl rfl) px_none (px_some (ex_v (i := 3) (j := 3) B rfl rfl rfl)))) (EN.ex (en_cut (enc := (eP PyData.int PyData.int)) rdl_dat (ex_v (i := 1) (j := 1) B rfl rfl rfl) (px_some (ex_add (ex_v (i := 3) (j := 3) B rfl rfl rfl) ex_int)) px_none)))) ?_
      obtain ⟨t13, h13, hm⟩ := bnd hm
      obtain ⟨t14, h14, hm⟩ := bnd hm
      obtain ⟨t15, h15, hm⟩ := bnd hm
      refine sx_asg (i := 5) (vi := 5) (φ := (dat (PyData.list (List.map (eL (eP PyData.int PyData.int)) t15)))) B T rfl rfl (EN.ex (en_cat (enc := (eL (eP PyData.int PyData.int))) h15 (ex_v (i := 5) (j := 5) B rfl rfl rfl) (EN.ex (en_lst (ds := [(PyData.list (List.map (eP PyData.int PyData.int) t12)), (PyData.list (List.map (eP PyData.int PyData.int) t13)), (PyData.list (List.map (eP PyData.int PyData.int) t14))]) (hl := len_ok (n := 3) rfl) (ax_cons (ex_v (i := 8) (j := 8) B rfl rfl rfl) (ax_cons (ex_call (a := (right_here, t10.1, t11)) (b := t13) (gi := 2) (rest := (q_well_here, ol (List.map PyData.int t10.2)) :: os) B rfl c_l_in (by decide) h13 (ax_cons (ex_v (i := 1) (j := 1) B rfl rfl rfl) (ax_cons (ex_v (i := 6) (j := 6) B rfl rfl rfl) (ax_cons (ex_v (i := 7) (j := 7) B rfl rfl rfl) ax_nil)))) (ax_cons (ex_call (a := (t12, t9.1, (t11.2, t11.1))) (b := t14) (gi := 2) (rest := (q_well_here, ol (List.map PyData.int t10.2)) :: os) B rfl c_l_in (by decide) h14 (ax_cons (ex_v (i := 8) (j := 8) B rfl rfl rfl) (ax_cons (ex_v (i := 3) (j := 3) B rfl rfl rfl) (ax_cons (ex_tup (ds := [(PyData.int t11.2), (PyData.int t11.1)]) (hl := len_ok (n := 2) rfl) (ax_cons (ex_ixT rdt_dat (by rfl) (ex_v (i := 7) (j := 7) B rfl rfl rfl) ex_int) (ax_cons (ex_ixT rdt_dat (by rfl) (ex_v (i := 7) (j := 7) B rfl rfl rfl) ex_int) ax_nil))) ax_nil)))) ax_nil))))))) ?_
      obtain ⟨t16, h16, hm⟩ := bnd hm
      obtain ⟨t17, h17, hm⟩ := bnd hm
      obtain ⟨t18, h18, hm⟩ := bnd hm
      obtain ⟨t19, h19, hm⟩ := bnd hm
      refine sx_asg (i := 5) (vi := 5) (φ := (dat (PyData.list (List.map (eL (eP PyData.int PyData.int)) t19)))) B T rfl rfl (EN.ex (en_cat (enc := (eL (eP PyData.int PyData.int))) h19 (ex_v (i := 5) (j := 5) B rfl rfl rfl) (EN.ex (en_lst (ds := [(PyData.list (List.map (eP PyData.int PyData.int) t16)), (PyData.list (List.map (eP PyData.int PyData.int) t17)), (PyData.list (List.map (eP PyData.int PyData.int) t18))]) (hl := len_ok (n := 3) rfl) (ax_cons (ex_call (a := (t12, t10.1, t11)) (b := t16) (gi := 2) (rest := (q_well_here, ol (List.map PyData.int t10.2)) :: os) B rfl c_l_in (by decide) h16 (ax_cons (ex_v (i := 8) (j := 8) B rfl rfl rfl) (ax_cons (ex_v (i := 6) (j := 6) B rfl rfl rfl) (ax_cons (ex_v (i := 7) (j := 7) B rfl rfl rfl) ax_nil)))) (ax_cons (ex_call (a := (t12, t9.1, (t2.1, t3.1))) (b := t17) (gi := 2) (rest := (q_well_here, ol (List.map PyData.int t10.2)) :: os) B rfl c_l_in (by decide) h17 (ax_cons (ex_v (i := 8) (j := 8) B rfl rfl rfl) (ax_cons (ex_v (i := 3) (j := 3) B rfl rfl rfl) (ax_cons (ex_v (i := 4) (j := 4) B rfl rfl rfl) ax_nil)))) (ax_cons (ex_call (a := (t12, t9.1, (t11.1, (t11.2 + 1)))) (b := t18) (gi := 2) (rest := (q_well_here, ol (List.map PyData.int t10.2)) :: os) B rfl c_l_in (by decide) h18 (ax_cons (ex_v (i := 8) (j := 8) B rfl rfl rfl) (ax_cons (ex_v (i := 3) (j := 3) B rfl rfl rfl) (ax_cons (ex_tup (ds := [(PyData.int t11.1), (PyData.int (t11.2 + 1))]) (hl := len_ok (n := 2) rfl) (ax_cons (ex_ixT rdt_dat (by rfl) (ex_v (i := 7) (j := 7) B rfl rfl rfl) ex_int) (ax_cons (ex_add (ex_ixT rdt_dat (by rfl) (ex_v (i := 7) (j := 7) B rfl rfl rfl) ex_int) ex_int) ax_nil))) ax_nil)))) ax_nil))))))) ?_
      obtain ⟨t20, h20, hm⟩ := bnd hm
      obtain ⟨t21, h21, hm⟩ := bnd hm
      obtain ⟨t22, h22, hm⟩ := bnd hm
      refine sx_asg (i := 5) (vi := 5) (φ := (dat (PyData.list (List.map (eL (eP PyData.int PyData.int)) t22)))) B T rfl rfl (EN.ex (en_cat (enc := (eL (eP PyData.int PyData.int))) h22 (ex_v (i := 5) (j := 5) B rfl rfl rfl) (EN.ex (en_lst (ds := [(PyData.list (List.map (eP PyData.int PyData.int) t20)), (PyData.list (List.map (eP PyData.int PyData.int) t21))]) (hl := len_ok (n := 2) rfl) (ax_cons (ex_call (a := (t12, t9.1, ((t11.1 - many), t11.2))) (b := t20) (gi := 2) (rest := (q_well_here, ol (List.map PyData.int t10.2)) :: os) B rfl c_l_in (by decide) h20 (ax_cons (ex_v (i := 8) (j := 8) B rfl rfl rfl) (ax_cons (ex_v (i := 3) (j := 3) B rfl rfl rfl) (ax_cons (ex_tup (ds := [(PyData.int (t11.1 - many)), (PyData.int t11.2)]) (hl := len_ok (n := 2) rfl) (ax_cons (ex_sub (ex_ixT rdt_dat (by rfl) (ex_v (i := 7) (j := 7) B rfl rfl rfl) ex_int) (ex_v (i := 2) (j := 2) B rfl rfl rfl)) (ax_cons (ex_ixT rdt_dat (by rfl) (ex_v (i := 7) (j := 7) B rfl rfl rfl) ex_int) ax_nil))) ax_nil)))) (ax_cons (ex_call (a := (t12, t9.1, (t11.1, t11.1))) (b := t21) (gi := 2) (rest := (q_well_here, ol (List.map PyData.int t10.2)) :: os) B rfl c_l_in (by decide) h21 (ax_cons (ex_v (i := 8) (j := 8) B rfl rfl rfl) (ax_cons (ex_v (i := 3) (j := 3) B rfl rfl rfl) (ax_cons (ex_tup (ds := [(PyData.int t11.1), (PyData.int t11.1)]) (hl := len_ok (n := 2) rfl) (ax_cons (ex_ixT rdt_dat (by rfl) (ex_v (i := 7) (j := 7) B rfl rfl rfl) ex_int) (ax_cons (ex_ixT rdt_dat (by rfl) (ex_v (i := 7) (j := 7) B rfl rfl rfl) ex_int) ax_nil))) ax_nil)))) ax_nil)))))) ?_
      obtain rfl := som hm
      exact sx_fall (SX.weak Q (by exact ⟨.inl rfl, .inl rfl, .inl rfl, .inl rfl, .inl rfl, .inl rfl, .inr rfl, .inr rfl, .inr rfl, trivial⟩)) rfl
    · have hm := ifF hm hk
      obtain rfl := som hm
      exact sx_fall Q rfl
theorem cal_l_numbers {P : Program} {w : World} {K : PySem.W.Frag} {mg : Str → Option Value} {base : Heap} {f : Addr} {fd : FuncData} (Fn : Fun K "_law_numbers" "_law_numbers" s_l_numbers f fd) (hmg : mg "_law_numbers" = some (.ref f)) (hb : Binds K fd ["_law_well_here", "_law_right_here", "_law_many"] []) (c_l_take : Cal P w K mg base 1 "_law_take" s_l_take ["_law_well_here", "_law_many"] (sp_l_take K)) (g_len : mg "len" = none) (c_l_in : Cal P w K mg base 1 "_law_in" s_l_in ["_law_right_here", "_law_at", "_law_entry"] (sp_l_in K)) : Cal P w K mg base 2 "_law_numbers" s_l_numbers ["_law_well_here", "_law_right_here", "_law_many"] (sp_l_numbers K) := by
  obtain ⟨sts_, hst_⟩ : ∃ z_, defBody s_l_numbers = z_ := ⟨_, rfl⟩
  exact cal_ZQ (V := V_l_numbers) (Gs := G_l_numbers) (nl := 6) hst_ Fn sc_l_numbers (by decide +kernel) (by decide +kernel) hmg hb (fun _ => rfl) rfl fun _ _ _ _ _ _ _ a b F0 os D B T hm R => body_l_numbers rfl hst_ B T c_l_take g_len c_l_in a.1 a.2.1 a.2.2.1 a.2.2.2 b F0 os D hm R
abbrev s_l_no_lists : Stmt := top 40
def N_l_no_lists : List Str := ["_law_well_here", "_law_right_here", "_law_at", "_law_found", "_law_entry", "_law_first", "_law_second", "_law_less"]
def V_l_no_lists : List Str := ["_law_well_here", "_law_right_here", "_law_at", "_law_found", "_law_entry", "_law_first", "_law_second", "_law_less"]
def G_l_no_lists : List Str := ["_law_take", "len", "tuple", "_law_in", "str"]
theorem sc_l_no_lists : FnScope N_l_no_lists ["_law_well_here", "_law_right_here"] (defScope s_l_no_lists) := ⟨rfl, rfl, rfl, by decide +kernel, rfl, by decide +kernel, by decide +kernel⟩
abbrev sp_l_no_lists (K : PySem.W.Frag) : Sp := spZ (α := (Addr × (List Int) × (List (Int × Int)))) (β := ((List PyData) × (List Int))) (fun a => [own a.1, (dat (PyData.list (List.map (eP PyData.int PyData.int) a.2.2)))]) (fun a => (a.1, ol (List.map PyData.int a.2.1)) :: []) (fun a => m_l_no_lists a.2.1 a.2.2) (fun a b => (dat (PyData.list (List.map id b.1)))) (fun a b => (a.1, ol (List.map PyData.int b.2)) :: [])
set_option maxHeartbeats 4000000 in
theorem body_l_no_lists {X : Cx} (hsc : X.env.scope = defScope s_l_no_lists) {sts_ : List Stmt} (hst_ : defBody s_l_no_lists = sts_) (B : Bd X N_l_no_lists V_l_no_lists G_l_no_lists 1) (T : Bt X V_l_no_lists) (c_l_take : Cal X.prog X.w X.K X.mg X.base 1 "_law_take" s_l_take ["_law_well_here", "_law_many"] (sp_l_take X.K)) (g_len : X.mg "len" = none) (g_tuple : X.mg "tuple" = none) (c_l_in_d : Cal X.prog X.w X.K X.mg X.base 1 "_law_in" s_l_in_d ["_law_right_here", "_law_at", "_law_entry"] (sp_l_in_d X.K)) (g_str : X.mg "str" = none) (q_well_here : Addr) (w_well_here : (List Int)) (right_here : (List (Int × Int))) (b : ((List PyData) × (List Int))) (F0 : Hp) (os : Os) (D : Ends) (hm : m_l_no_lists w_well_here right_here = some b) (R : RetZ F0 ((q_well_here, ol (List.map PyData.int b.2)) :: os) (dat (PyData.list (List.map id b.1))) D) :
    SX X [sl (own q_well_here), sl (dat (PyData.list (List.map (eP PyData.int PyData.int) right_here))), un, un, un, un, un, un] ((q_well_here, ol (List.map PyData.int w_well_here)) :: os) F0 sts_ D := by
  subst hst_
  unfold m_l_no_lists at hm
  obtain ⟨t1, h1, hm⟩ := bnd hm
  refine sx_asg (i := 2) (vi := 2) (φ := (dat (PyData.int t1.1))) B T rfl rfl (ex_call (a := (q_well_here, w_well_here, ((right_here.length : Int) + 1))) (b := t1) (gi := 0) (rest := os) B rfl c_l_take (by decide) h1 (ax_cons (ex_v (i := 0) (j := 0) B rfl rfl rfl) (ax_cons (ex_add (EX.to (ex_fn (j := 1) B rfl g_len (by decide +kernel) call_len_seq (rc_lenL (ds := List.map (eP PyData.int PyData.int) right_here) rdl_dat) (ax_cons (ex_v (i := 1) (j := 1) B rfl rfl rfl) ax_nil)) (by rw [List.length_map])) ex_int) ax_nil))) ?_
  refine sx_asgNG (i := 3) (vi := 3) (n := ol (List.map id ([(PyData.tuple (List.map (eP PyData.int PyData.int) right_here)), PyData.none, (PyData.int (right_here.length : Int)), (PyData.str ("[]" : Str)), (Kd.pd kI (eM PyData.int ([] : (List (Int × Int))))), (PyData.tuple [(PyData.list (List.map (eP PyData.int PyData.int) right_here)), (PyData.list (List.map (eP PyData.int PyData.int) right_here))]), (PyData.list [(PyData.list (List.map (eP PyData.int PyData.int) right_here))]), (PyData.bool true)]))) B T rfl rfl (en_lst (ds := [(PyData.tuple (List.map (eP PyData.int PyData.int) right_here)), PyData.none, (PyData.int (right_here.length : Int)), (PyData.str ("[]" : Str)), (Kd.pd kI (eM PyData.int ([] : (List (Int × Int))))), (PyData.tuple [(PyData.list (List.map (eP PyData.int PyData.int) right_here)), (PyData.list (List.map (eP PyData.int PyData.int) right_here))]), (PyData.list [(PyData.list (List.map (eP PyData.int PyData.int) right_here))]), (PyData.bool true)]) (hl := len_ok (n := 8) rfl) (ax_cons (ex_ty (j := 2) B rfl g_tuple (by decide +kernel) call_tuple_of (rc_tupL (ds := List.map (eP PyData.int PyData.int) right_here) rdl_dat) (ax_cons (ex_v (i := 1) (j := 1) B rfl rfl rfl) ax_nil)) (ax_cons ex_none (ax_cons (EX.to (ex_fn (j := 1) B rfl g_len (by decide +kernel) call_len_seq (rc_lenL (ds := List.map (eP PyData.int PyData.int) right_here) rdl_dat) (ax_cons (ex_v (i := 1) (j := 1) B rfl rfl rfl) ax_nil)) (by rw [List.length_map])) (ax_cons ex_str (ax_cons (EN.exF (en_dnew (kd := kI)) frb_od) (ax_cons (ex_tup (ds := [(PyData.list (List.map (eP PyData.int PyData.int) right_here)), (PyData.list (List.map (eP PyData.int PyData.int) right_here))]) (hl := len_ok (n := 2) rfl) (ax_cons (ex_v (i := 1) (j := 1) B rfl rfl rfl) (ax_cons (ex_v (i := 1) (j := 1) B rfl rfl rfl) ax_nil))) (ax_cons (EN.ex (en_lst (ds := [(PyData.list (List.map (eP PyData.int PyData.int) right_here))]) (hl := len_ok (n := 1) rfl) (ax_cons (ex_v (i := 1) (j := 1) B rfl rfl rfl) ax_nil))) (ax_cons ex_bool ax_nil))))))))) (fun q_found1 z_ hz_ => ?_)
  obtain ⟨f4, h9, hm⟩ := bnd hm
  refine sx_forL (ds := [(PyData.list []), (PyData.tuple []), (PyData.tuple [(PyData.int 0)]), (PyData.tuple [(PyData.int 0), (PyData.int 1), (PyData.int 2)]), PyData.none, (PyData.int 0), (PyData.str ("01" : Str)), (PyData.tuple [(PyData.tuple [(PyData.int 0), (PyData.int 1)])]), (PyData.tuple [(PyData.int 0), (PyData.str ("1" : Str))]), (PyData.tuple [PyData.none, (PyData.int 1)]), (PyData.tuple [(PyData.bool false), (PyData.int 1)]), (PyData.tuple [(PyData.int 0), (PyData.tuple [(PyData.int 1)])])]) hz_ _ (fun (s2 : (List PyData)) (_ : Unit) => [sl (own q_well_here), sl (dat (PyData.list (List.map (eP PyData.int PyData.int) right_here))), sl (dat (PyData.int t1.1)), sl (own q_found1), un, un, un, un]) (fun (s2 : (List PyData)) (_ : Unit) => (q_found1, ol (List.map id s2)) :: (q_well_here, ol (List.map PyData.int t1.2)) :: os) B T (fun entry3 => gx_name (i := 4) (vi := 4) (φ := (dat entry3)) B T rfl rfl) ([(PyData.tuple (List.map (eP PyData.int PyData.int) right_here)), PyData.none, (PyData.int (right_here.length : Int)), (PyData.str ("[]" : Str)), (Kd.pd kI (eM PyData.int ([] : (List (Int × Int))))), (PyData.tuple [(PyData.list (List.map (eP PyData.int PyData.int) right_here)), (PyData.list (List.map (eP PyData.int PyData.int) right_here))]), (PyData.list [(PyData.list (List.map (eP PyData.int PyData.int) right_here))]), (PyData.bool true)]) () f4 h9 (fun _ h_ => ax_consZ h_ (EN.ex (en_lst (ds := []) ax_nil)) (fun _ h_ => ax_consZ h_ (ex_tup (ds := []) ax_nil) (fun _ h_ => ax_consZ h_ (ex_tup (ds := [(PyData.int 0)]) (hl := len_ok (n := 1) rfl) (ax_cons ex_int ax_nil)) (fun _ h_ => ax_consZ h_ (ex_tup (ds := [(PyData.int 0), (PyData.int 1), (PyData.int 2)]) (hl := len_ok (n := 3) rfl) (ax_cons ex_int (ax_cons ex_int (ax_cons ex_int ax_nil)))) (fun _ h_ => ax_consZ h_ ex_none (fun _ h_ => ax_consZ h_ ex_int (fun _ h_ => ax_consZ h_ ex_str (fun _ h_ => ax_consZ h_ (ex_tup (ds := [(PyData.tuple [(PyData.int 0), (PyData.int 1)])]) (hl := len_ok (n := 1) rfl) (ax_cons (ex_tup (ds := [(PyData.int 0), (PyData.int 1)]) (hl := len_ok (n := 2) rfl) (ax_cons ex_int (ax_cons ex_int ax_nil))) ax_nil)) (fun _ h_ => ax_consZ h_ (ex_tup (ds := [(PyData.int 0), (PyData.str ("1" : Str))]) (hl := len_ok (n := 2) rfl) (ax_cons ex_int (ax_cons ex_str ax_nil))) (fun _ h_ => ax_consZ h_ (ex_tup (ds := [PyData.none, (PyData.int 1)]) (hl := len_ok (n := 2) rfl) (ax_cons ex_none (ax_cons ex_int ax_nil))) (fun _ h_ => ax_consZ h_ (ex_tup (ds := [(PyData.bool false), (PyData.int 1)]) (hl := len_ok (n := 2) rfl) (ax_cons ex_bool (ax_cons ex_int ax_nil))) (fun _ h_ => ax_consZ h_ (ex_tup (ds := [(PyData.int 0), (PyData.tuple [(PyData.int 1)])]) (hl := len_ok (n := 2) rfl) (ax_cons ex_int (ax_cons (ex_tup (ds := [(PyData.int 1)]) (hl := len_ok (n := 1) rfl) (ax_cons ex_int ax_nil)) ax_nil))) (fun _ h_ => ax_nilZ h_))))))))))))) (len_ok (n := 12) rfl) ⟨.inl rfl, .inl rfl, .inl rfl, .inl rfl, .inl rfl, .inl rfl, .inl rfl, .inl rfl, trivial⟩ (fun F6 e5 s2 _ entry3 z30 hx hm => ?_) (fun _ z2_ hz2_ => ?_)
  · clear h9
    obtain ⟨t7, h7, hm⟩ := bnd hm
    obtain ⟨t8, h8, hm⟩ := bnd hm
    refine sx_expr (ex_app (enc := id) (j := 0) (xs0 := s2) (xs := s2) (y := (PyData.list (List.map id t7))) h8 (ex_v (i := 3) (j := 3) B rfl rfl rfl) rfl (ex_call (a := ((List.map (eP PyData.int PyData.int) right_here), t1.1, entry3)) (b := t7) (gi := 3) (rest := (q_found1, ol (List.map id s2)) :: (q_well_here, ol (List.map PyData.int t1.2)) :: os) B rfl c_l_in_d (by decide) h7 (ax_cons (EX.to (ex_v (i := 1) (j := 1) B rfl rfl rfl) (congrArg PyData.list (List.map_id _).symm)) (ax_cons (ex_v (i := 2) (j := 2) B rfl rfl rfl) (ax_cons (ex_v (i := 4) (j := 4) B rfl rfl rfl) ax_nil)))) rfl) ?_
    obtain rfl := som hm
    exact sx_nil fun σ H a => ⟨(), (a.weak ⟨.inl rfl, .inl rfl, .inl rfl, .inl rfl, .inr rfl, .inl rfl, .inl rfl, .inl rfl, trivial⟩)⟩
  · subst hz2_
    skip
    obtain ⟨s29, h_s29, hm⟩ := bnd hm
    refine sx_join [sl (own q_well_here), sl (dat (PyData.list (List.map (eP PyData.int PyData.int) right_here))), sl (dat (PyData.int s29.1)), sl (own q_found1), un, un, un, un] ((q_found1, ol (List.map id s29.2.1)) :: (q_well_here, ol (List.map PyData.int s29.2.2)) :: os) (?_) (fun Q => ?_)
    · clear h_s29
      refine sx_frz (j := 0) (i := 3) rfl rfl ?_
      obtain rfl := som hm
      exact sx_ret (ex_v (i := 3) (j := 3) B rfl rfl rfl) (fun F H v e o c => R.rt F H v e o c)
    · have hm := h_s29
      refine sx_if (tx_neR (e := (eL (eP PyData.int PyData.int))) (x := right_here) (y := ([] : (List (Int × Int)))) B (eqv_list (eqv_pair eqv_int eqv_int)) (sh_list (sh_pair sh_int sh_int)) (by decide) rdx_dat rdx_dat (ex_v (i := 1) (j := 1) B rfl rfl rfl) (EN.ex (en_lst (ds := []) ax_nil))) (fun hk => ?_) (fun hk => ?_)
      · have hm := ifT hm hk
        obtain ⟨t10, h10, hm⟩ := bnd hm
        refine sx_asg (i := 2) (vi := 2) (φ := (dat (PyData.int t10.1))) B T rfl rfl (EX.pre (ex_call (a := (q_well_here, t1.2, (right_here.length : Int))) (b := t10) (gi := 0) (rest := (q_found1, ol (List.map id f4)) :: os) B rfl c_l_take (by decide) h10 (ax_cons (ex_v (i := 0) (j := 0) B rfl rfl rfl) (ax_cons (EX.to (ex_fn (j := 1) B rfl g_len (by decide +kernel) call_len_seq (rc_lenL (ds := List.map (eP PyData.int PyData.int) right_here) rdl_dat) (ax_cons (ex_v (i := 1) (j := 1) B rfl rfl rfl) ax_nil)) (by rw [List.length_map])) ax_nil))) (perm_at (k := 1) rfl)) ?_
        obtain ⟨t11, h11, hm⟩ := bnd hm
        refine sx_unp (gx_pair B (gx_name (i := 5) (vi := 5) B T rfl rfl) (gx_name (i := 6) (vi := 6) B T rfl rfl)) (ex_idxL (enc := (eP PyData.int PyData.int)) h11 rdl_dat (ex_v (i := 1) (j := 1) B rfl rfl rfl) (ex_v (i := 2) (j := 2) B rfl rfl rfl)) ?_
        obtain ⟨t12, h12, hm⟩ := bnd hm
        refine sx_asgVG (i := 7) (vi := 7) (φ := (dat (PyData.list (List.map (eP PyData.int PyData.int) t12)))) B T rfl rfl (EN.ex (en_cat (enc := (eP PyData.int PyData.int)) h12 (EN.ex (en_cut (enc := (eP PyData.int PyData.int)) rdl_dat (ex_v (i := 1) (j := 1) B rfl rfl rfl) px_none (px_some (ex_v (i := 2) (j := 2) B rfl rfl rfl)))) (EN.ex (en_cut (enc := (eP PyData.int PyData.int)) rdl_dat (ex_v (i := 1) (j := 1) B rfl rfl rfl) (px_some (ex_add (ex_v (i := 2) (j := 2) B rfl rfl rfl) ex_int)) px_none)))) (fun z_ hz_ => ?_)
        obtain ⟨t13, h13, hm⟩ := bnd hm
        obtain ⟨f16, h21, hm⟩ := bnd hm
        refine sx_forL (ds := [(PyData.list [(PyData.int t11.1), (PyData.int t11.2)]), (PyData.tuple [(PyData.int t11.1), (PyData.int t11.2), (PyData.int t11.2)]), (PyData.tuple [(PyData.int t11.2)]), (PyData.tuple [(PyData.str t13), (PyData.int t11.2)]), (PyData.tuple [(PyData.int t11.1), (PyData.list [(PyData.int t11.2)])])]) hz_ _ (fun (s14 : (List PyData)) (_ : Unit) => [sl (own q_well_here), sl (dat (PyData.list (List.map (eP PyData.int PyData.int) right_here))), sl (dat (PyData.int t10.1)), sl (own q_found1), un, sl (dat (PyData.int t11.1)), sl (dat (PyData.int t11.2)), sl (dat (PyData.list (List.map (eP PyData.int PyData.int) t12)))]) (fun (s14 : (List PyData)) (_ : Unit) => (q_well_here, ol (List.map PyData.int t10.2)) :: (q_found1, ol (List.map id s14)) :: os) B T (fun entry15 => gx_name (i := 4) (vi := 4) (φ := (dat entry15)) B T rfl rfl) f4 () f16 h21 (fun _ h_ => ax_consZ h_ (EN.ex (en_lst (ds := [(PyData.int t11.1), (PyData.int t11.2)]) (hl := len_ok (n := 2) rfl) (ax_cons (ex_v (i := 5) (j := 5) B rfl rfl rfl) (ax_cons (ex_v (i := 6) (j := 6) B rfl rfl rfl) ax_nil)))) (fun _ h_ => ax_consZ h_ (ex_tup (ds := [(PyData.int t11.1), (PyData.int t11.2), (PyData.int t11.2)]) (hl := len_ok (n := 3) rfl) (ax_cons (ex_v (i := 5) (j := 5) B rfl rfl rfl) (ax_cons (ex_v (i := 6) (j := 6) B rfl rfl rfl) (ax_cons (ex_v (i := 6) (j := 6) B rfl rfl rfl) ax_nil)))) (fun _ h_ => ax_consZ h_ (ex_tup (ds := [(PyData.int t11.2)]) (hl := len_ok (n := 1) rfl) (ax_cons (ex_v (i := 6) (j := 6) B rfl rfl rfl) ax_nil)) (fun _ h_ => ax_consZ h_ (ex_tup (ds := [(PyData.str t13), (PyData.int t11.2)]) (hl := len_ok (n := 2) rfl) (ax_cons (ex_ty (j := 4) B rfl g_str (by decide +kernel) call_str_int (rc_str h13) (ax_cons (ex_v (i := 5) (j := 5) B rfl rfl rfl) ax_nil)) (ax_cons (ex_v (i := 6) (j := 6) B rfl rfl rfl) ax_nil))) (fun _ h_ => ax_consZ h_ (ex_tup (ds := [(PyData.int t11.1), (PyData.list [(PyData.int t11.2)])]) (hl := len_ok (n := 2) rfl) (ax_cons (ex_v (i := 5) (j := 5) B rfl rfl rfl) (ax_cons (EN.ex (en_lst (ds := [(PyData.int t11.2)]) (hl := len_ok (n := 1) rfl) (ax_cons (ex_v (i := 6) (j := 6) B rfl rfl rfl) ax_nil))) ax_nil))) (fun _ h_ => ax_nilZ h_)))))) (len_ok (n := 5) rfl) ⟨.inl rfl, .inl rfl, .inl rfl, .inl rfl, .inl rfl, .inl rfl, .inl rfl, .inl rfl, trivial⟩ (fun F18 e17 s14 _ entry15 z28 hx hm => ?_) (fun _ z2_ hz2_ => ?_)
        · clear h21
          obtain ⟨t19, h19, hm⟩ := bnd hm
          obtain ⟨t20, h20, hm⟩ := bnd hm
          refine sx_expr (ex_app (enc := id) (j := 1) (xs0 := s14) (xs := s14) (y := (PyData.list (List.map id t19))) h20 (ex_v (i := 3) (j := 3) B rfl rfl rfl) rfl (ex_call (a := ((List.map (eP PyData.int PyData.int) t12), t10.1, entry15)) (b := t19) (gi := 3) (rest := (q_well_here, ol (List.map PyData.int t10.2)) :: (q_found1, ol (List.map id s14)) :: os) B rfl c_l_in_d (by decide) h19 (ax_cons (EX.to (ex_v (i := 7) (j := 7) B rfl rfl rfl) (congrArg PyData.list (List.map_id _).symm)) (ax_cons (ex_v (i := 2) (j := 2) B rfl rfl rfl) (ax_cons (ex_v (i := 4) (j := 4) B rfl rfl rfl) ax_nil)))) rfl) ?_
          obtain rfl := som hm
          exact sx_nil fun σ H a => ⟨(), (a.weak ⟨.inl rfl, .inl rfl, .inl rfl, .inl rfl, .inr rfl, .inl rfl, .inl rfl, .inl rfl, trivial⟩)⟩
        · subst hz2_
          skip
          obtain ⟨s24, h_s24, hm⟩ := bnd hm
          refine sx_join [sl (own q_well_here), sl (dat (PyData.list (List.map (eP PyData.int PyData.int) right_here))), sl (dat (PyData.int t10.1)), sl (own q_found1), un, sl (dat (PyData.int t11.1)), sl (dat (PyData.int t11.2)), sl (dat (PyData.list (List.map (eP PyData.int PyData.int) t12)))] ((q_well_here, ol (List.map PyData.int t10.2)) :: (q_found1, ol (List.map id s24)) :: os) (?_) (fun Q => ?_)
          · clear h_s24
            obtain ⟨s27, h_s27, hm⟩ := bnd hm
            refine sx_join [sl (own q_well_here), sl (dat (PyData.list (List.map (eP PyData.int PyData.int) right_here))), sl (dat (PyData.int t10.1)), sl (own q_found1), un, sl (dat (PyData.int t11.1)), sl (dat (PyData.int t11.2)), sl (dat (PyData.list (List.map (eP PyData.int PyData.int) t12)))] ((q_well_here, ol (List.map PyData.int t10.2)) :: (q_found1, ol (List.map id s27)) :: os) (?_) (fun Q => ?_)
            · clear h_s27
              obtain rfl := som hm
              exact sx_fall ((SX.weak Q (by exact ⟨.inl rfl, .inl rfl, .inl rfl, .inl rfl, .inl rfl, .inr rfl, .inr rfl, .inr rfl, trivial⟩)).perm (perm_at (k := 1) rfl)) rfl
            · have hm := h_s27
              refine sx_if (tx_cmp op_lt r2_lt (nomark _) (ex_v (i := 6) (j := 6) B rfl rfl rfl) ex_int) (fun hk => ?_) (fun hk => ?_)
              · have hm := ifT hm hk
                obtain ⟨t25, h25, hm⟩ := bnd hm
                obtain ⟨t26, h26, hm⟩ := bnd hm
                refine sx_expr (ex_app (enc := id) (j := 1) (xs0 := s24) (xs := s24) (y := (PyData.list (List.map id t25))) h26 (ex_v (i := 3) (j := 3) B rfl rfl rfl) rfl (ex_call (a := ((List.map (eP PyData.int PyData.int) t12), t10.1, (PyData.tuple [(PyData.int t11.1), (PyData.bool (decide (t11.2 = 1)))]))) (b := t25) (gi := 3) (rest := (q_well_here, ol (List.map PyData.int t10.2)) :: (q_found1, ol (List.map id s24)) :: os) B rfl c_l_in_d (by decide) h25 (ax_cons (EX.to (ex_v (i := 7) (j := 7) B rfl rfl rfl) (congrArg PyData.list (List.map_id _).symm)) (ax_cons (ex_v (i := 2) (j := 2) B rfl rfl rfl) (ax_cons (ex_tup (ds := [(PyData.int t11.1), (PyData.bool (decide (t11.2 = 1)))]) (hl := len_ok (n := 2) rfl) (ax_cons (ex_v (i := 5) (j := 5) B rfl rfl rfl) (ax_cons (ex_cmp op_eq r2_eqI (nomark _) (ex_v (i := 6) (j := 6) B rfl rfl rfl) ex_int) ax_nil))) ax_nil)))) rfl) ?_
                obtain rfl := som hm
                exact sx_fall Q rfl
              · have hm := ifF hm hk
                obtain rfl := som hm
                exact sx_fall Q rfl
          · have hm := h_s24
            refine sx_if (tx_cmp op_lt r2_lt (nomark _) (ex_v (i := 5) (j := 5) B rfl rfl rfl) ex_int) (fun hk => ?_) (fun hk => ?_)
            · have hm := ifT hm hk
              obtain ⟨t22, h22, hm⟩ := bnd hm
              obtain ⟨t23, h23, hm⟩ := bnd hm
              refine sx_expr (ex_app (enc := id) (j := 1) (xs0 := f16) (xs := f16) (y := (PyData.list (List.map id t22))) h23 (ex_v (i := 3) (j := 3) B rfl rfl rfl) rfl (ex_call (a := ((List.map (eP PyData.int PyData.int) t12), t10.1, (PyData.tuple [(PyData.bool (decide (t11.1 = 1))), (PyData.int t11.2)]))) (b := t22) (gi := 3) (rest := (q_well_here, ol (List.map PyData.int t10.2)) :: (q_found1, ol (List.map id f16)) :: os) B rfl c_l_in_d (by decide) h22 (ax_cons (EX.to (ex_v (i := 7) (j := 7) B rfl rfl rfl) (congrArg PyData.list (List.map_id _).symm)) (ax_cons (ex_v (i := 2) (j := 2) B rfl rfl rfl) (ax_cons (ex_tup (ds := [(PyData.bool (decide (t11.1 = 1))), (PyData.int t11.2)]) (hl := len_ok (n := 2) rfl) (ax_cons (ex_cmp op_eq r2_eqI (nomark _) (ex_v (i := 5) (j := 5) B rfl rfl rfl) ex_int) (ax_cons (ex_v (i := 6) (j := 6) B rfl rfl rfl) ax_nil))) ax_nil)))) rfl) ?_
              obtain rfl := som hm
              exact sx_fall Q rfl
            · have hm := ifF hm hk
              obtain rfl := som hm
              exact sx_fall Q rfl
      · have hm := ifF hm hk
        obtain rfl := som hm
        exact sx_fall Q rfl
theorem cal_l_no_lists {P : Program} {w : World} {K : PySem.W.Frag} {mg : Str → Option Value} {base : Heap} {f : Addr} {fd : FuncData} (Fn : Fun K "_law_no_lists" "_law_no_lists" s_l_no_lists f fd) (hmg : mg "_law_no_lists" = some (.ref f)) (hb : Binds K fd ["_law_well_here", "_law_right_here"] []) (c_l_take : Cal P w K mg base 1 "_law_take" s_l_take ["_law_well_here", "_law_many"] (sp_l_take K)) (g_len : mg "len" = none) (g_tuple : mg "tuple" = none) (c_l_in_d : Cal P w K mg base 1 "_law_in" s_l_in_d ["_law_right_here", "_law_at", "_law_entry"] (sp_l_in_d K)) (g_str : mg "str" = none) : Cal P w K mg base 2 "_law_no_lists" s_l_no_lists ["_law_well_here", "_law_right_here"] (sp_l_no_lists K) := by
  obtain ⟨sts_, hst_⟩ : ∃ z_, defBody s_l_no_lists = z_ := ⟨_, rfl⟩
  exact cal_ZQ (V := V_l_no_lists) (Gs := G_l_no_lists) (nl := 6) hst_ Fn sc_l_no_lists (by decide +kernel) (by decide +kernel) hmg hb (fun _ => rfl) rfl fun _ _ _ _ _ _ _ a b F0 os D B T hm R => body_l_no_lists rfl hst_ B T c_l_take g_len g_tuple c_l_in_d g_str a.1 a.2.1 a.2.2 b F0 os D hm R
abbrev s_l_right : Stmt := top 41
def N_l_right : List Str := ["_law_well_here", "_law_letters", "_law_walks", "_law_rooms", "_law_ways", "_law_right_here", "_law_pairs", "_law_due", "_law_given", "_law_told", "_law_value", "_law_kept"]
def V_l_right : List Str := ["_law_well_here", "_law_letters", "_law_walks", "_law_rooms", "_law_ways", "_law_right_here", "_law_pairs", "_law_due", "_law_given", "_law_told", "_law_value", "_law_kept"]
def G_l_right : List Str := ["_law_take", "_law_list", "_law_petals", "_law_drawn", "_law_numbers", "len", "_law_holds", "list", "joinings_hold", "isinstance", "bool", "_law_no_lists", "repr"]
theorem sc_l_right : FnScope N_l_right ["_law_well_here"] (defScope s_l_right) := ⟨rfl, rfl, rfl, by decide +kernel, rfl, by decide +kernel, by decide +kernel⟩
theorem kw_joinings_hold_0_value_walks_letters : KwOk "joinings_hold" s_p_joinings_hold_d ["letters", "walks", "value"] ["value", "walks", "letters"] 0 [2, 1, 0] := fun _ _ _ _ _ _ us ws h1 h2 => match us, ws, h1, h2 with | [], [_, _, _], _, _ => rfl
abbrev sp_l_right (K : PySem.W.Frag) : Sp := spZ (α := (Addr × (List Int))) (β := (Bool × (List Int))) (fun a => [own a.1]) (fun a => (a.1, ol (List.map PyData.int a.2)) :: []) (fun a => m_l_right a.2) (fun a b => (dat (PyData.bool b.1))) (fun a b => (a.1, ol (List.map PyData.int b.2)) :: [])
set_option maxHeartbeats 4000000 in
theorem body_l_right {X : Cx} (hsc : X.env.scope = defScope s_l_right) {sts_ : List Stmt} (hst_ : defBody s_l_right = sts_) (B : Bd X N_l_right V_l_right G_l_right 7) (T : Bt X V_l_right) (c_l_take : Cal X.prog X.w X.K X.mg X.base 1 "_law_take" s_l_take ["_law_well_here", "_law_many"] (sp_l_take X.K)) (c_l_list : Cal X.prog X.w X.K X.mg X.base 3 "_law_list" s_l_list ["_law_well_here", "_law_letters", "_law_many", "_law_most"] (sp_l_list X.K)) (c_l_petals : Cal X.prog X.w X.K X.mg X.base 2 "_law_petals" s_l_petals ["_law_walks"] (sp_l_petals X.K)) (c_l_drawn : Cal X.prog X.w X.K X.mg X.base 2 "_law_drawn" s_l_drawn ["_law_well_here", "_law_rooms", "_law_ways"] (sp_l_drawn X.K)) (c_l_numbers : Cal X.prog X.w X.K X.mg X.base 2 "_law_numbers" s_l_numbers ["_law_well_here", "_law_right_here", "_law_many"] (sp_l_numbers X.K)) (g_len : X.mg "len" = none) (c_l_holds : Cal X.prog X.w X.K X.mg X.base 2 "_law_holds" s_l_holds ["_law_rooms", "_law_ways", "_law_pairs"] (sp_l_holds X.K)) (g_list : X.mg "list" = none) (c_p_joinings_hold : Cal X.prog X.w X.K X.mg X.base 7 "joinings_hold" s_p_joinings_hold ["letters", "walks", "value"] (sp_p_joinings_hold X.K)) (g_isinstance : X.mg "isinstance" = none) (g_bool : X.mg "bool" = none) (c_l_no_lists : Cal X.prog X.w X.K X.mg X.base 2 "_law_no_lists" s_l_no_lists ["_law_well_here", "_law_right_here"] (sp_l_no_lists X.K)) (g_repr : X.mg "repr" = none) (c_p_joinings_hold_d : Cal X.prog X.w X.K X.mg X.base 7 "joinings_hold" s_p_joinings_hold_d ["letters", "walks", "value"] (sp_p_joinings_hold_d X.K)) (q_well_here : Addr) (w_well_here : (List Int)) (b : (Bool × (List Int))) (F0 : Hp) (os : Os) (D : Ends) (hm : m_l_right w_well_here = some b) (R : RetZ F0 ((q_well_here, ol (List.map PyData.int b.2)) :: os) (dat (PyData.bool b.1)) D) :
    SX X [sl (own q_well_here), un, un, un, un, un, un, un, un, un, un, un] ((q_well_here, ol (List.map PyData.int w_well_here)) :: os) F0 sts_ D := by
  subst hst_
  unfold m_l_right at hm
  obtain ⟨t1, h1, hm⟩ := bnd hm
  refine sx_asg (i := 1) (vi := 1) (φ := (dat (PyData.int (1 + t1.1)))) B T rfl rfl (ex_add ex_int (ex_call (a := (q_well_here, w_well_here, 4)) (b := t1) (gi := 0) (rest := os) B rfl c_l_take (by decide) h1 (ax_cons (ex_v (i := 0) (j := 0) B rfl rfl rfl) (ax_cons ex_int ax_nil)))) ?_
  obtain ⟨t2, h2, hm⟩ := bnd hm
  refine sx_asg (i := 2) (vi := 2) (φ := (dat (PyData.list (List.map (eT PyData.int) t2.1)))) B T rfl rfl (ex_call (a := (q_well_here, t1.2, (1 + t1.1), 4, 6)) (b := t2) (gi := 1) (rest := os) B rfl c_l_list (by decide) h2 (ax_cons (ex_v (i := 0) (j := 0) B rfl rfl rfl) (ax_cons (ex_v (i := 1) (j := 1) B rfl rfl rfl) (ax_cons ex_int (ax_cons ex_int ax_nil))))) ?_
  obtain ⟨t3, h3, hm⟩ := bnd hm
  refine sx_unp (gx_pair B (gx_name (i := 3) (vi := 3) B T rfl rfl) (gx_name (i := 4) (vi := 4) B T rfl rfl)) (ex_call (a := t2.1) (b := t3) (gi := 2) (rest := (q_well_here, ol (List.map PyData.int t2.2)) :: os) B rfl c_l_petals (by decide) h3 (ax_cons (ex_v (i := 2) (j := 2) B rfl rfl rfl) ax_nil)) ?_
  obtain ⟨t4, h4, hm⟩ := bnd hm
  refine sx_asg (i := 5) (vi := 5) (φ := (dat (PyData.list (List.map (eP PyData.int PyData.int) t4.1)))) B T rfl rfl (ex_call (a := (q_well_here, t2.2, t3.1, t3.2)) (b := t4) (gi := 3) (rest := os) B rfl c_l_drawn (by decide) h4 (ax_cons (ex_v (i := 0) (j := 0) B rfl rfl rfl) (ax_cons (ex_v (i := 3) (j := 3) B rfl rfl rfl) (ax_cons (ex_v (i := 4) (j := 4) B rfl rfl rfl) ax_nil)))) ?_
  obtain ⟨t5, h5, hm⟩ := bnd hm
  obtain ⟨f8o, h13, hm⟩ := bnd hm
  refine sx_forR (c := anyOs) _ (fun (s6 : Unit) (_ : Unit) => [sl (own q_well_here), sl (dat (PyData.int (1 + t1.1))), sl (dat (PyData.list (List.map (eT PyData.int) t2.1))), sl (dat (PyData.int t3.1)), sl (dat (PyData.list (List.map (eP3 PyData.int PyData.int PyData.int) t3.2))), sl (dat (PyData.list (List.map (eP PyData.int PyData.int) t4.1))), un, un, un, un, un, un]) (fun (s6 : Unit) (_ : Unit) => (q_well_here, ol (List.map PyData.int t5.2)) :: os) (fun (r : (Bool × (List Int))) v H => ∃ F, Same F0 F ∧ Ow F ((q_well_here, ol (List.map PyData.int r.2)) :: os) H ∧ Cl (dat (PyData.bool r.1)) F v) B T (fun pairs7 => gx_name (i := 6) (vi := 6) (φ := (dat (PyData.list (List.map (eP PyData.int PyData.int) pairs7)))) B T rfl rfl) () () f8o h13 (ix_list (enc := (eL (eP PyData.int PyData.int))) (c := anyOs) (ex_call (a := (q_well_here, t4.2, t4.1, (t3.2.length : Int))) (b := t5) (gi := 4) (rest := os) B rfl c_l_numbers (by decide) h5 (ax_cons (ex_v (i := 0) (j := 0) B rfl rfl rfl) (ax_cons (ex_v (i := 5) (j := 5) B rfl rfl rfl) (ax_cons (EX.to (ex_fn (j := 5) B rfl g_len (by decide +kernel) call_len_seq (rc_lenL (ds := List.map (eP3 PyData.int PyData.int PyData.int) t3.2) rdl_dat) (ax_cons (ex_v (i := 4) (j := 4) B rfl rfl rfl) ax_nil)) (by rw [List.length_map])) ax_nil)))) (fun _ _ => rdl_dat) trivial) ⟨.inl rfl, .inl rfl, .inl rfl, .inl rfl, .inl rfl, .inl rfl, .inl rfl, .inl rfl, .inl rfl, .inl rfl, .inl rfl, .inl rfl, trivial⟩ (fun _ _ => trivial) (fun F10 e9 s6 _ pairs7 z29 hx hm2 => ?_) (fun f8 _ ho => ?_) (fun r28 v H ho hr => ?_)
  · clear hm h13
    have hm := hm2
    obtain ⟨t11, h11, hm⟩ := bnd hm
    refine sx_par2 (i := 7) (j := 8) _ hsc B rfl rfl (by decide) (by decide +kernel) (by decide +kernel) (by intro env he; cases env; cases he; first | rfl | kernel_rfl) (aq_x (φ := (dat (PyData.bool (!decide (t11 = ([] : (List Int))))))) (ex_neR (e := (eL PyData.int)) (x := t11) (y := ([] : (List Int))) B (eqv_list eqv_int) (sh_list sh_int) (by decide) rdx_dat rdx_dat (ex_call (a := (t3.1, t3.2, pairs7)) (b := t11) (gi := 6) (rest := (q_well_here, ol (List.map PyData.int t5.2)) :: os) B rfl c_l_holds (by decide) h11 (ax_cons (ex_v (i := 3) (j := 3) B rfl rfl rfl) (ax_cons (ex_v (i := 4) (j := 4) B rfl rfl rfl) (ax_cons (ex_v (i := 6) (j := 6) B rfl rfl rfl) ax_nil)))) (EN.ex (en_lst (ds := []) ax_nil))) (aq_x (φ := (dat (PyData.list (List.map (eP PyData.int PyData.int) pairs7)))) (EN.ex (en_ty (j := 7) B rfl g_list (by decide +kernel) call_list_of (rc_lstL (ds := List.map (eP PyData.int PyData.int) pairs7) rdl_dat) (ax_cons (ex_v (i := 6) (j := 6) B rfl rfl rfl) ax_nil))) aq_nil)) (fun v0 v1 os_ hr_ => ?_) (by rintro φs os_ ⟨_, rfl, _, rfl, rfl, rfl⟩; exact ⟨_, _, rfl⟩)
    obtain ⟨_, e0, _, e1, e8, e9⟩ := hr_
    cases e0; cases e1; cases e8; cases e9
    obtain ⟨t12, h12, hm⟩ := bnd hm
    refine sx_asg (i := 9) (vi := 9) (φ := (dat (PyData.bool t12))) B T rfl rfl (ex_call (a := ((1 + t1.1), t2.1, pairs7)) (b := t12) (gi := 8) (rest := (q_well_here, ol (List.map PyData.int t5.2)) :: os) B rfl c_p_joinings_hold (by decide) h12 (ax_cons (ex_v (i := 1) (j := 1) B rfl rfl rfl) (ax_cons (EN.ex (en_ty (j := 7) B rfl g_list (by decide +kernel) call_list_of (rc_lstL (ds := List.map (eT PyData.int) t2.1) rdl_dat) (ax_cons (ex_v (i := 2) (j := 2) B rfl rfl rfl) ax_nil))) (ax_cons (ex_v (i := 8) (j := 8) B rfl rfl rfl) ax_nil)))) ?_
    refine sx_if (WX.tx (wx_or (tx_not (tx_val (ex_fn (j := 9) B rfl g_isinstance (by decide +kernel) call_isi (rc_isi (d := (PyData.bool t12)) (T := "bool") (show kitB "bool" "bool" = some true by decide +kernel)) (ax_cons (ex_v (i := 9) (j := 9) B rfl rfl rfl) (ax_cons (ex_tyname (T := "bool") (gi := 10) B rfl g_bool (by decide +kernel)) ax_nil))) (by intro _; rfl))) (fun _ => (wx_or (tx_neR (e := PyData.bool) (x := t12) (y := (!decide (t11 = ([] : (List Int))))) B eqv_bool sh_bool (by decide) rdx_dat rdx_dat (ex_v (i := 9) (j := 9) B rfl rfl rfl) (ex_v (i := 7) (j := 7) B rfl rfl rfl)) (fun _ => (wx_or1 (tx_neR (e := (eL (eP PyData.int PyData.int))) (x := pairs7) (y := pairs7) B (eqv_list (eqv_pair eqv_int eqv_int)) (sh_list (sh_pair sh_int sh_int)) (by decide) rdx_dat rdx_dat (ex_v (i := 8) (j := 8) B rfl rfl rfl) (ex_v (i := 6) (j := 6) B rfl rfl rfl)))) (fun _ => rfl) rfl)) (fun _ => rfl) rfl)) (fun hk => ?_) (fun hk => ?_)
    · have hm := ifT hm hk
      exact sx_ret ex_bool (fun F H v e o c => ⟨_, (som hm).symm, F, (e9.trans e), o, c⟩)
    · have hm := ifF hm hk
      refine sx_fall ?_ rfl
      exact sx_nil fun σ H a => ⟨_, (), (som hm).symm, (a.weak ⟨.inl rfl, .inl rfl, .inl rfl, .inl rfl, .inl rfl, .inl rfl, .inr rfl, .inr rfl, .inr rfl, .inr rfl, .inl rfl, .inl rfl, trivial⟩)⟩
  · cases ho
    have hm := elimR hm
    obtain ⟨t14, h14, hm⟩ := bnd hm
    obtain ⟨f17o, h25, hm⟩ := bnd hm
    refine sx_forR (c := anyOs) _ (fun (s15 : Unit) (_ : Unit) => [sl (own q_well_here), sl (dat (PyData.int (1 + t1.1))), sl (dat (PyData.list (List.map (eT PyData.int) t2.1))), sl (dat (PyData.int t3.1)), sl (dat (PyData.list (List.map (eP3 PyData.int PyData.int PyData.int) t3.2))), sl (dat (PyData.list (List.map (eP PyData.int PyData.int) t4.1))), un, un, un, un, un, un]) (fun (s15 : Unit) (_ : Unit) => (q_well_here, ol (List.map PyData.int t14.2)) :: os) (fun (r : (Bool × (List Int))) v H => ∃ F, Same F0 F ∧ Ow F ((q_well_here, ol (List.map PyData.int r.2)) :: os) H ∧ Cl (dat (PyData.bool r.1)) F v) B T (fun value16 => gx_name (i := 10) (vi := 10) (φ := (dat value16)) B T rfl rfl) () () f17o h25 (ix_list (enc := id) (c := anyOs) (ex_call (a := (q_well_here, t5.2, t4.1)) (b := t14) (gi := 11) (rest := os) B rfl c_l_no_lists (by decide) h14 (ax_cons (ex_v (i := 0) (j := 0) B rfl rfl rfl) (ax_cons (ex_v (i := 5) (j := 5) B rfl rfl rfl) ax_nil))) (fun _ _ => rdl_dat) trivial) ⟨.inl rfl, .inl rfl, .inl rfl, .inl rfl, .inl rfl, .inl rfl, .inl rfl, .inl rfl, .inl rfl, .inl rfl, .inl rfl, .inl rfl, trivial⟩ (fun _ _ => trivial) (fun F19 e18 s15 _ value16 z27 hx hm2 => ?_) (fun f17 _ ho => ?_) (fun r26 v H ho hr => ?_)
    · clear hm h25
      have hm := hm2
      obtain ⟨t20, h20, hm⟩ := bnd hm
      refine sx_asg (i := 11) (vi := 11) (φ := (dat (PyData.str t20))) B T rfl rfl (ex_fn (j := 12) B rfl g_repr (by decide +kernel) (call_reprE B.gd B.room) (rc_reprE h20) (ax_cons (ex_v (i := 10) (j := 10) B rfl rfl rfl) ax_nil)) ?_
      obtain ⟨t21, h21, hm⟩ := bnd hm
      obtain ⟨t23, h23, hm⟩ := bnd hm
      refine sx_if (WX.tx (wx_or (l := t23) (os2 := (q_well_here, ol (List.map PyData.int t14.2)) :: os) (tx_cmp op_notBl r2_notB (nomark _) (ex_callk0 (a := ((1 + t1.1), t2.1, value16)) (b := t21) (gi := 8) (rest := (q_well_here, ol (List.map PyData.int t14.2)) :: os) B rfl c_p_joinings_hold_d (by decide) kw_joinings_hold_0_value_walks_letters (by decide) h21 (kx_cons (ex_v (i := 10) (j := 10) B rfl rfl rfl) (kx_cons (EN.ex (en_ty (j := 7) B rfl g_list (by decide +kernel) call_list_of (rc_lstL (ds := List.map (eT PyData.int) t2.1) rdl_dat) (ax_cons (ex_v (i := 2) (j := 2) B rfl rfl rfl) ax_nil))) (kx_cons (ex_v (i := 1) (j := 1) B rfl rfl rfl) kx_nil))) rfl) ex_bool) (fun hk => by (have hm := ifF h23 hk; obtain ⟨t22, h22, hm⟩ := bnd hm; obtain rfl := som hm; exact (wx_or1 (tx_cmp op_ne r2_neS (nomark _) (ex_fn (j := 12) B rfl g_repr (by decide +kernel) (call_reprE B.gd B.room) (rc_reprE h22) (ax_cons (ex_v (i := 10) (j := 10) B rfl rfl rfl) ax_nil)) (ex_v (i := 11) (j := 11) B rfl rfl rfl))))) (fun hk => by (have hm := ifT h23 hk; obtain rfl := som hm; rfl)) (or_fix (fun hk => by (have hm := ifT h23 hk; obtain rfl := som hm; rfl))))) (fun hk => ?_) (fun hk => ?_)
      · have hm := ifT hm hk
        exact sx_ret ex_bool (fun F H v e o c => ⟨_, (som hm).symm, F, (e18.trans e), o, c⟩)
      · have hm := ifF hm hk
        refine sx_fall ?_ rfl
        obtain ⟨t24, h24, hm⟩ := bnd hm
        refine sx_if (tx_cmp op_notBl r2_notB (nomark _) (ex_call (a := ((1 + t1.1), t2.1, t4.1)) (b := t24) (gi := 8) (rest := (q_well_here, ol (List.map PyData.int t14.2)) :: os) B rfl c_p_joinings_hold (by decide) h24 (ax_cons (ex_v (i := 1) (j := 1) B rfl rfl rfl) (ax_cons (EN.ex (en_ty (j := 7) B rfl g_list (by decide +kernel) call_list_of (rc_lstL (ds := List.map (eT PyData.int) t2.1) rdl_dat) (ax_cons (ex_v (i := 2) (j := 2) B rfl rfl rfl) ax_nil))) (ax_cons (EN.ex (en_ty (j := 7) B rfl g_list (by decide +kernel) call_list_of (rc_lstL (ds := List.map (eP PyData.int PyData.int) t4.1) rdl_dat) (ax_cons (ex_v (i := 5) (j := 5) B rfl rfl rfl) ax_nil))) ax_nil)))) ex_bool) (fun hk => ?_) (fun hk => ?_)
        · have hm := ifT hm hk
          exact sx_ret ex_bool (fun F H v e o c => ⟨_, (som hm).symm, F, (e18.trans e), o, c⟩)
        · have hm := ifF hm hk
          refine sx_fall ?_ rfl
          exact sx_nil fun σ H a => ⟨_, (), (som hm).symm, (a.weak ⟨.inl rfl, .inl rfl, .inl rfl, .inl rfl, .inl rfl, .inl rfl, .inl rfl, .inl rfl, .inl rfl, .inl rfl, .inr rfl, .inr rfl, trivial⟩)⟩
    · cases ho
      have hm := elimR hm
      obtain rfl := som hm
      exact sx_ret ex_bool (fun F H v e o c => R.rt F H v e o c)
    · cases ho
      have hm := elimL hm
      obtain rfl := som hm
      obtain ⟨F, e, o, c⟩ := hr
      exact R.rt F H v e o c
  · cases ho
    have hm := elimL hm
    obtain rfl := som hm
    obtain ⟨F, e, o, c⟩ := hr
    exact R.rt F H v e o c
theorem cal_l_right {P : Program} {w : World} {K : PySem.W.Frag} {mg : Str → Option Value} {base : Heap} {f : Addr} {fd : FuncData} (Fn : Fun K "_law_right" "_law_right" s_l_right f fd) (hmg : mg "_law_right" = some (.ref f)) (hb : Binds K fd ["_law_well_here"] []) (c_l_take : Cal P w K mg base 1 "_law_take" s_l_take ["_law_well_here", "_law_many"] (sp_l_take K)) (c_l_list : Cal P w K mg base 3 "_law_list" s_l_list ["_law_well_here", "_law_letters", "_law_many", "_law_most"] (sp_l_list K)) (c_l_petals : Cal P w K mg base 2 "_law_petals" s_l_petals ["_law_walks"] (sp_l_petals K)) (c_l_drawn : Cal P w K mg base 2 "_law_drawn" s_l_drawn ["_law_well_here", "_law_rooms", "_law_ways"] (sp_l_drawn K)) (c_l_numbers : Cal P w K mg base 2 "_law_numbers" s_l_numbers ["_law_well_here", "_law_right_here", "_law_many"] (sp_l_numbers K)) (g_len : mg "len" = none) (c_l_holds : Cal P w K mg base 2 "_law_holds" s_l_holds ["_law_rooms", "_law_ways", "_law_pairs"] (sp_l_holds K)) (g_list : mg "list" = none) (c_p_joinings_hold : Cal P w K mg base 7 "joinings_hold" s_p_joinings_hold ["letters", "walks", "value"] (sp_p_joinings_hold K)) (g_isinstance : mg "isinstance" = none) (g_bool : mg "bool" = none) (c_l_no_lists : Cal P w K mg base 2 "_law_no_lists" s_l_no_lists ["_law_well_here", "_law_right_here"] (sp_l_no_lists K)) (g_repr : mg "repr" = none) (c_p_joinings_hold_d : Cal P w K mg base 7 "joinings_hold" s_p_joinings_hold_d ["letters", "walks", "value"] (sp_p_joinings_hold_d K)) : Cal P w K mg base 8 "_law_right" s_l_right ["_law_well_here"] (sp_l_right K) := by
  obtain ⟨sts_, hst_⟩ : ∃ z_, defBody s_l_right = z_ := ⟨_, rfl⟩
  exact cal_ZQ (V := V_l_right) (Gs := G_l_right) (nl := 11) hst_ Fn sc_l_right (by decide +kernel) (by decide +kernel) hmg hb (fun _ => rfl) rfl fun _ _ _ _ _ _ _ a b F0 os D B T hm R => body_l_right rfl hst_ B T c_l_take c_l_list c_l_petals c_l_drawn c_l_numbers g_len c_l_holds g_list c_p_joinings_hold g_isinstance g_bool c_l_no_lists g_repr c_p_joinings_hold_d a.1 a.2 b F0 os D hm R
abbrev s_l_law : Stmt := top 42
def N_l_law : List Str := ["_law_script", "_law_k"]
def V_l_law : List Str := ["_law_script", "_law_k"]
def G_l_law : List Str := ["range", "max", "min", "len", "_law_right", "_law_well"]
theorem sc_l_law : FnScope N_l_law ["_law_script"] (defScope s_l_law) := ⟨rfl, rfl, rfl, by decide +kernel, rfl, by decide +kernel, by decide +kernel⟩
abbrev sp_l_law (K : PySem.W.Frag) : Sp := spZ (α := (List Int)) (β := Bool) (fun a => [(scr K a)]) (fun a => []) (fun a => m_l_law a) (fun a b => (dat (PyData.bool b))) (fun a b => [])
set_option maxHeartbeats 4000000 in
theorem body_l_law {X : Cx} (hsc : X.env.scope = defScope s_l_law) {sts_ : List Stmt} (hst_ : defBody s_l_law = sts_) (B : Bd X N_l_law V_l_law G_l_law 8) (T : Bt X V_l_law) (g_range : X.mg "range" = none) (g_max : X.mg "max" = none) (g_min : X.mg "min" = none) (g_len : X.mg "len" = none) (c_l_right : Cal X.prog X.w X.K X.mg X.base 8 "_law_right" s_l_right ["_law_well_here"] (sp_l_right X.K)) (c_l_well : Cal X.prog X.w X.K X.mg X.base 1 "_law_well" s_l_well ["_law_script", "_law_k"] (sp_l_well X.K)) (script : (List Int)) (b : Bool) (F0 : Hp) (os : Os) (D : Ends) (hm : m_l_law script = some b) (R : RetZ F0 (os) (dat (PyData.bool b)) D) :
    SX X [sl (scr X.K script), un] (os) F0 sts_ D := by
  subst hst_
  unfold m_l_law at hm
  obtain ⟨t1, h1, hm⟩ := bnd hm
  obtain ⟨f4o, h9, hm⟩ := bnd hm
  refine sx_forR (c := anyOs) _ (fun (s2 : Unit) (_ : Unit) => [sl (scr X.K script), un]) (fun (s2 : Unit) (_ : Unit) => os) (fun (r : Bool) v H => ∃ F, Same F0 F ∧ Ow F (os) H ∧ Cl (dat (PyData.bool r)) F v) B T (fun k_3 => gx_name (i := 1) (vi := 1) (φ := (dat (PyData.int k_3))) B T rfl rfl) () () f4o h9 (ix_rng1 (gi := 0) B rfl g_range h1 (ex_fn (j := 1) B rfl g_max (by decide +kernel) (call_max2 B.calm) rc_max (ax_cons ex_int (ax_cons (ex_fn (j := 2) B rfl g_min (by decide +kernel) (call_min2 B.calm) rc_min (ax_cons ex_int (ax_cons (EX.to (ex_fn (j := 3) B rfl g_len (by decide +kernel) call_len_seq (rc_lenL (ds := List.map PyData.int script) rdl_scr) (ax_cons (ex_v (i := 0) (j := 0) B rfl rfl rfl) ax_nil)) (by rw [List.length_map])) ax_nil))) ax_nil)))) ⟨.inl rfl, .inl rfl, trivial⟩ (fun _ _ => trivial) (fun F6 e5 s2 _ k_3 z11 hx hm2 => ?_) (fun f4 _ ho => ?_) (fun r10 v H ho hr => ?_)
  · clear hm h9
    have hm := hm2
    obtain ⟨t7, h7, hm⟩ := bnd hm
    obtain ⟨t8, h8, hm⟩ := bnd hm
    refine sx_if (tx_not (tx_val (ex_calln (a := fun q => (q, t7)) (b := t8) (gi := 4) (rest := os) B rfl c_l_right (by decide) (fun _ => h8) (en_call (a := (script, k_3)) (b := t7) (gi := 5) (rest := os) B rfl c_l_well (by decide) h7 (ax_cons (ex_v (i := 0) (j := 0) B rfl rfl rfl) (ax_cons (ex_v (i := 1) (j := 1) B rfl rfl rfl) ax_nil))) (fun _ => rfl) (fun _ => rfl) (fun _ => rfl)) (by intro _; rfl))) (fun hk => ?_) (fun hk => ?_)
    · have hm := ifT hm hk
      exact sx_ret ex_bool (fun F H v e o c => ⟨_, (som hm).symm, F, (e5.trans e), o, c⟩)
    · have hm := ifF hm hk
      refine sx_fall ?_ rfl
      exact sx_nil fun σ H a => ⟨_, (), (som hm).symm, (a.weak ⟨.inl rfl, .inr rfl, trivial⟩)⟩
  · cases ho
    have hm := elimR hm
    obtain rfl := som hm
    exact sx_ret ex_bool (fun F H v e o c => R.rt F H v e o c)
  · cases ho
    have hm := elimL hm
    obtain rfl := som hm
    obtain ⟨F, e, o, c⟩ := hr
    exact R.rt F H v e o c
theorem cal_l_law {P : Program} {w : World} {K : PySem.W.Frag} {mg : Str → Option Value} {base : Heap} {f : Addr} {fd : FuncData} (Fn : Fun K "law" "law" s_l_law f fd) (hmg : mg "law" = some (.ref f)) (hb : Binds K fd ["_law_script"] []) (g_range : mg "range" = none) (g_max : mg "max" = none) (g_min : mg "min" = none) (g_len : mg "len" = none) (c_l_right : Cal P w K mg base 8 "_law_right" s_l_right ["_law_well_here"] (sp_l_right K)) (c_l_well : Cal P w K mg base 1 "_law_well" s_l_well ["_law_script", "_law_k"] (sp_l_well K)) : Cal P w K mg base 9 "law" s_l_law ["_law_script"] (sp_l_law K) := by
  obtain ⟨sts_, hst_⟩ : ∃ z_, defBody s_l_law = z_ := ⟨_, rfl⟩
  exact cal_ZQ (V := V_l_law) (Gs := G_l_law) (nl := 1) hst_ Fn sc_l_law (by decide +kernel) (by decide +kernel) hmg hb (fun _ => rfl) rfl fun _ _ _ _ _ _ _ a b F0 os D B T hm R => body_l_law rfl hst_ B T g_range g_max g_min g_len c_l_right c_l_well a b F0 os D hm R
end L12
namespace Z
open PySem PySem.Spec L2
theorem log2_small {n k : Nat} (h : n < 2 ^ k) (hk : 0 < k) : n.log2 < k := by
  by_cases h0 : n = 0
  · subst h0
    simpa using hk
  · exact (Nat.log2_lt h0).mpr h
theorem log2_int {i : Int} {k : Nat} (h0 : 0 ≤ i) (h : i < 2 ^ k) (hk : 0 < k) : i.natAbs.log2 < k := by
  refine log2_small ?_ hk
  have e : ((2 ^ k : Nat) : Int) = (2 : Int) ^ k := by norm_cast
  omega
theorem idx_of {α : Type} {xs : List α} {i : Int} {v : α} (h0 : 0 ≤ i) (h : xs[i.toNat]? = some v) : idx xs i = some v := by
  have hl := (List.getElem?_eq_some_iff.mp h).1
  unfold idx atI ixN
  rw [if_pos h0, if_pos (by omega)]
  exact h
theorem idx_last {α : Type} {xs : List α} {v : α} (h : xs[xs.length - 1]? = some v) : idx xs (-1) = some v := by
  have hl := (List.getElem?_eq_some_iff.mp h).1
  unfold idx atI ixN
  rw [if_neg (by omega), if_pos (by omega)]
  have e : ((-1 : Int) + (xs.length : Int)).toNat = xs.length - 1 := by omega
  show xs[((-1 : Int) + (xs.length : Int)).toNat]? = _
  rw [e]
  exact h
theorem rngO_ok {a b : Int} (h : -(2 ^ 62) ≤ a ∧ a < 2 ^ 62 ∧ -(2 ^ 62) ≤ b ∧ b < 2 ^ 62) : rngO a b = some (range' a b) := if_pos h
theorem mem_rng {a b x : Int} (h : x ∈ range' a b) : a ≤ x ∧ x < b := by
  unfold range' at h
  obtain ⟨i, hi, rfl⟩ := List.mem_map.mp h
  have := List.mem_range.mp hi
  omega
theorem lpR_go {α R S : Type} {f : S → α → Option (Step R S)} (P : S → Prop) : ∀ {xs : List α}, (∀ x ∈ xs, ∀ s, P s → ∃ s', f s x = some (.go s') ∧ P s') → ∀ {s0 : S}, P s0 → ∃ s', lpR f xs s0 = some (.inr s') ∧ P s'
  | [], _, s0, h0 => ⟨s0, rfl, h0⟩
  | x :: xs, h, s0, h0 => by
    obtain ⟨s1, e, h1⟩ := h x List.mem_cons_self s0 h0
    obtain ⟨s2, e2, h2⟩ := lpR_go P (fun y hy => h y (List.mem_cons_of_mem _ hy)) h1
    refine ⟨s2, ?_, h2⟩
    unfold lpR
    rw [e]
    exact e2
theorem lp_goN {α S : Type} {f : S → α → Option S} : ∀ {xs : List α} (P : Nat → S → Prop), (∀ (i : Nat) (x : α) (s : S), xs[i]? = some x → P i s → ∃ s', f s x = some s' ∧ P (i + 1) s') → ∀ {s0 : S}, P 0 s0 → ∃ s', lp f xs s0 = some s' ∧ P xs.length s'
  | [], P, _, s0, h0 => ⟨s0, rfl, h0⟩
  | x :: xs, P, h, s0, h0 => by
    obtain ⟨s1, e, h1⟩ := h 0 x s0 rfl h0
    obtain ⟨s2, e2, h2⟩ := lp_goN (xs := xs) (fun i => P (i + 1)) (fun i y s hy hs => h (i + 1) y s (by simpa using hy) hs) h1
    refine ⟨s2, ?_, h2⟩
    unfold lp
    rw [e]
    exact e2
/-- three cells, of which so many draws were made at most -/
def SpOk (n : Nat) (w : List Int) : Prop := ∃ a b c : Int, w = [a, b, c] ∧ 0 ≤ a ∧ 0 ≤ b ∧ b < 2 ^ 101 ∧ 0 ≤ c ∧ c ≤ n
theorem SpOk.mono {n m : Nat} {w : List Int} (h : SpOk n w) (hm : n ≤ m) : SpOk m w := by
  obtain ⟨a, b, c, e, h1, h2, h3, h4, h5⟩ := h
  exact ⟨a, b, c, e, h1, h2, h3, h4, by omega⟩
end Z
namespace Z
open PySem PySem.Spec L2
/-- a step put on a pile -/
def psh : List Int → Int → List Int
  | [], x => [x]
  | y :: t, x => if y = -x then t else x :: y :: t
/-- no two opposite steps beside one another -/
def Gd : List Int → Prop
  | x :: y :: t => y ≠ -x ∧ Gd (y :: t)
  | _ => True
def fl (s w : List Int) : List Int := w.foldl psh s
def red (w : List Int) : List Int := (fl [] w).reverse
def iv (w : List Int) : List Int := w.reverse.map fun x => -x
theorem gd_tail {x : Int} : ∀ {t : List Int}, Gd (x :: t) → Gd t
  | [], _ => trivial
  | _ :: _, h => h.2
theorem psh_mem {P : Int → Prop} {s : List Int} {x : Int} (h : ∀ y ∈ s, P y) (hx : P x) : ∀ y ∈ psh s x, P y := by
  cases s with
  | nil =>
    intro y hy
    have : y = x := by simpa [psh] using hy
    exact this ▸ hx
  | cons z t =>
    by_cases hz : z = -x
    · rw [show psh (z :: t) x = t from if_pos hz]
      exact fun y hy => h y (List.mem_cons_of_mem _ hy)
    · rw [show psh (z :: t) x = x :: z :: t from if_neg hz]
      intro y hy
      rcases List.mem_cons.mp hy with rfl | hy
      · exact hx
      · exact h y hy
theorem fl_mem {P : Int → Prop} : ∀ {w s : List Int}, (∀ y ∈ s, P y) → (∀ y ∈ w, P y) → ∀ y ∈ fl s w, P y
  | [], _, h, _ => h
  | x :: w, _, h, h2 => fl_mem (w := w) (psh_mem h (h2 x List.mem_cons_self)) fun y hy => h2 y (List.mem_cons_of_mem _ hy)
theorem red_mem {P : Int → Prop} {w : List Int} (h : ∀ y ∈ w, P y) : ∀ y ∈ red w, P y := fun y hy =>
  fl_mem (s := []) (fun _ z => nomatch z) h y (List.mem_reverse.mp hy)
theorem psh_len (s : List Int) (x : Int) : (psh s x).length ≤ s.length + 1 := by
  cases s with
  | nil => exact Nat.le_refl _
  | cons y t =>
    by_cases hy : y = -x
    · rw [show psh (y :: t) x = t from if_pos hy, List.length_cons]
      omega
    · rw [show psh (y :: t) x = x :: y :: t from if_neg hy, List.length_cons, List.length_cons]
      exact Nat.le_refl _
theorem fl_len : ∀ (w s : List Int), (fl s w).length ≤ s.length + w.length
  | [], s => Nat.le_refl _
  | x :: w, s => by
    have h1 := fl_len w (psh s x)
    have h2 := psh_len s x
    show (fl (psh s x) w).length ≤ _
    rw [List.length_cons]
    omega
theorem red_len (w : List Int) : (red w).length ≤ w.length := by
  have := fl_len w []
  unfold red
  rw [List.length_reverse]
  simpa using this
theorem cut_to {α : Type} (xs : List α) {i : Int} (h : 0 ≤ i) : cut xs none (some i) = xs.take i.toNat := by
  obtain ⟨n, rfl⟩ := Int.eq_ofNat_of_zero_le h
  unfold cut
  show (xs.drop 0).take (HT.sIx xs.length xs.length (some (n : Int)) - 0) = _
  rw [HT.sIx_nat, Nat.sub_zero, List.drop_zero, Int.toNat_natCast]
  by_cases hn : n ≤ xs.length
  · rw [Nat.min_eq_left hn]
  · rw [Nat.min_eq_right (by omega), List.take_length, List.take_of_length_le (by omega)]
theorem cut_from {α : Type} (xs : List α) {i : Int} (h : 0 ≤ i) : cut xs (some i) none = xs.drop i.toNat := by
  obtain ⟨n, rfl⟩ := Int.eq_ofNat_of_zero_le h
  unfold cut
  show (xs.drop (HT.sIx xs.length 0 (some (n : Int)))).take (xs.length - HT.sIx xs.length 0 (some (n : Int))) = _
  rw [HT.sIx_nat, Int.toNat_natCast]
  by_cases hn : n ≤ xs.length
  · rw [Nat.min_eq_left hn, List.take_of_length_le (by rw [List.length_drop]; omega)]
  · rw [Nat.min_eq_right (by omega), List.drop_length, List.take_nil, List.drop_of_length_le (by omega)]
def straightM (walk : List Int) : Option (List Int) :=
  ((lp (fun (s1 : (List Int)) (step2 : Int) => ((if (decide (0 < (s1.length : Int))) = true then ((idx s1 (-1)).bind fun t6 => some (decide (t6 = (-step2)))) else some false).bind fun t7 => ((if t7 = true then ((popO s1).bind fun t8 => some t8.2) else ((appO s1 step2).bind fun t9 => some t9) : Option (List Int)).bind fun s10 => some s10))) walk ([])).bind fun f3 => some f3)
theorem last_rev {α : Type} (y : α) (t : List α) : idx (y :: t).reverse (-1) = some y := by
  refine idx_last ?_
  rw [List.length_reverse, List.reverse_cons, List.length_cons, Nat.add_sub_cancel, List.getElem?_append_right (by rw [List.length_reverse]; exact Nat.le_refl _), List.length_reverse, Nat.sub_self]
  rfl
theorem pop_rev {α : Type} (y : α) (t : List α) : popO (y :: t).reverse = some (y, t.reverse) := by
  unfold popO
  rw [List.reverse_cons, List.getLast?_append]
  simp
theorem app_ok {α : Type} {s : List α} {x : α} (h : s.length < sizeLine) : appO s x = some (s ++ [x]) := if_pos h
theorem straight_lp : ∀ (w t : List Int), t.length + w.length ≤ sizeLine → lp (fun (s1 : (List Int)) (step2 : Int) => ((if (decide (0 < (s1.length : Int))) = true then ((idx s1 (-1)).bind fun t6 => some (decide (t6 = (-step2)))) else some false).bind fun t7 => ((if t7 = true then ((popO s1).bind fun t8 => some t8.2) else ((appO s1 step2).bind fun t9 => some t9) : Option (List Int)).bind fun s10 => some s10))) w t.reverse = some (fl t w).reverse
  | [], _, _ => rfl
  | x :: w, t, h => by
    rw [List.length_cons] at h
    have h2 := psh_len t x
    have ih := straight_lp w (psh t x) (by omega)
    unfold lp
    refine Eq.trans (congrArg (fun z => Option.bind z _) (?_ : _ = some (psh t x).reverse)) ih
    cases t with
    | nil =>
      have : appO ([] : List Int) x = some [x] := app_ok (by decide)
      simp [this, psh]
    | cons y t =>
      have hpos : decide (0 < ((y :: t).reverse.length : Int)) = true := by
        rw [List.length_reverse, List.length_cons]
        exact decide_eq_true (by omega)
      rw [hpos, if_pos rfl, last_rev]
      by_cases hy : y = -x
      · have e : psh (y :: t) x = t := if_pos hy
        simp only [Option.bind_some, hy, decide_true, if_true]
        rw [← hy, pop_rev, e]
        rfl
      · have e : psh (y :: t) x = x :: y :: t := if_neg hy
        simp only [Option.bind_some, hy, decide_false, Bool.false_eq_true, if_false]
        rw [app_ok (by rw [List.length_reverse]; omega), e]
        simp
theorem straight_ok {w : List Int} (h : w.length ≤ sizeLine) : straightM w = some (red w) := by
  unfold straightM
  rw [show ([] : List Int) = ([] : List Int).reverse from rfl, straight_lp w [] (by simpa using h)]
  rfl
theorem mapO_some {α β : Type} {f : α → Option β} {g : α → β} : ∀ {xs : List α}, (∀ x ∈ xs, f x = some (g x)) → mapO f xs = some (xs.map g)
  | [], _ => rfl
  | x :: xs, h => by
    unfold mapO
    rw [h x List.mem_cons_self, mapO_some (xs := xs) fun y hy => h y (List.mem_cons_of_mem _ hy)]
    rfl
theorem lcO_some {α β : Type} {f : α → Option β} (g : α → β) {xs : List α} (hl : xs.length < sizeLine) (h : ∀ x ∈ xs, f x = some (g x)) : lcO f xs = some (xs.map g) := by
  unfold lcO
  rw [if_pos hl, mapO_some h]
theorem cat_ok {α : Type} {xs ys : List α} (h : xs.length + ys.length ≤ sizeLine) : catO xs ys = some (xs ++ ys) := if_pos h
def kk : List Int → List Int → Nat
  | x :: u, y :: v => if x = -y then kk u v + 1 else 0
  | _, _ => 0
def jn (u v : List Int) : List Int := u.take (u.length - kk u.reverse v) ++ v.drop (kk u.reverse v)
end Z
namespace Z
open PySem PySem.Spec L2
/-- three cells, of which so many draws were made at most -/
def WeOk (n : Nat) (w : List Int) : Prop := ∃ a b c : Int, w = [a, b, c] ∧ 0 ≤ a ∧ 0 ≤ b ∧ b < 2 ^ 104 ∧ 0 ≤ c ∧ c ≤ n
theorem WeOk.mono {n m : Nat} {w : List Int} (h : WeOk n w) (hm : n ≤ m) : WeOk m w := by
  obtain ⟨a, b, c, e, h1, h2, h3, h4, h5⟩ := h
  exact ⟨a, b, c, e, h1, h2, h3, h4, by omega⟩
theorem pow_three {i : Int} (h0 : 0 ≤ i) (h : i < 2 ^ 200) : powO i 3 = some (i ^ 3) := by
  unfold powO
  rw [if_pos]
  · rfl
  refine ⟨by decide, ?_⟩
  have hb : Builtin.Int.intBits i ≤ 200 := by
    unfold Builtin.Int.intBits
    split
    · omega
    · have := log2_int h0 h (by decide)
      omega
  omega
theorem rng_len (a b : Int) : (range' a b).length = (b - a).toNat := by
  unfold range'
  rw [List.length_map, List.length_range]
def Sok (L x : Int) : Prop := x ≠ 0 ∧ -L ≤ x ∧ x ≤ L
theorem Sok.mono {L M x : Int} (h : Sok L x) (hm : L ≤ M) : Sok M x := ⟨h.1, by have := h.2.1; omega, by have := h.2.2; omega⟩
theorem Sok.neg {L x : Int} (h : Sok L x) : Sok L (-x) := ⟨by have := h.1; omega, by have := h.2.2; omega, by have := h.2.1; omega⟩
end Z
namespace Z
open PySem PySem.Spec L2
theorem bindS {α β : Type} {m : Option α} {k : α → Option β} {a : α} {r : Option β} (h : m = some a) (h2 : k a = r) : m.bind k = r := by
  rw [h]
  exact h2
def wellC (script : (List Int)) (k_ : Int) : Option (List Int) :=
  ((if (decide (k_ < (script.length : Int))) = true then ((idx script k_).bind fun t1 => some t1) else some ((7 * k_) + 3)).bind fun t2 => ((lp (fun (s3 : Int) (x4 : (Int × Int)) => ((mulW x4.2 (x4.1 + 3)).bind fun t8 => (some (((s3 * 31) + t8) % 10000000000000000000000000000000000000121)).bind fun total9 => some total9)) (enum script) 0).bind fun f5 => some [(maxI 0 (t2 - 1000000000000000000)), ((((t2 * 8191) + f5) + (524287 * k_)) % 100000000000000000000000000000000000000011), 0]))
def takeC (w_well_here : (List Int)) (many : Int) : Option (Int × (List Int)) :=
  ((idx w_well_here 0).bind fun t1 => (if (decide (0 < t1)) = true then ((idx w_well_here 0).bind fun t2 => (modO t2 many).bind fun t3 => ((idx w_well_here 0).bind fun t4 => (fdivO t4 many).bind fun t5 => (setO w_well_here 0 t5).bind fun t6 => some (t3, t6))) else ((idx w_well_here 2).bind fun t7 => (setO w_well_here 2 (t7 + 1)).bind fun t8 => ((idx t8 1).bind fun t9 => (idx t8 2).bind fun t10 => (powO (t9 + (86028121 * t10)) 3).bind fun t11 => ((idx t8 2).bind fun t12 => (powO ((t11 % 10000000000000000000000000000000000000000057) + (6700417 * t12)) 2).bind fun t13 => (some ((t13 + (t11 % 10000000000000000000000000000000000000000057)) % 1000000000000000000000000000000000000000063)).bind fun mixed14 => ((modO (mixed14 / 999983) many).bind fun t16 => some (t16, t8)))))))
def stepsC (letters : Int) : Option (List Int) :=
  ((rngO 1 (letters + 1)).bind fun t1 => ((lp (fun (s2 : (List Int)) (letter3 : Int) => ((catO (α := Int) s2 ([letter3, (0 - letter3)])).bind fun t7 => some t7)) t1 ([] : (List Int))).bind fun f4 => some f4))
def walkC (w_well_here : (List Int)) (letters : Int) (most : Int) : Option ((List Int) × (List Int)) :=
  ((stepsC letters).bind fun t1 => ((takeC w_well_here 4).bind fun t3 => ((takeC t3.2 (most + 1)).bind fun t4 => (rngO 0 t4.1).bind fun t5 => ((lp (fun (s6 : ((List Int) × (List Int))) (turn7 : Int) => ((takeC s6.1 (t1.length : Int)).bind fun t11 => (idx t1 t11.1).bind fun t12 => ((if (!(decide (t3.1 = 0))) = true then ((if (!decide (s6.2 = ([] : (List Int)))) = true then ((idx s6.2 (-1)).bind fun t13 => some (decide (t13 = (0 - t12)))) else some false).bind fun t14 => some t14) else some false).bind fun t15 => ((if t15 = true then some (0 - t12) else some t12 : Option Int).bind fun s16 => ((appO s6.2 s16).bind fun t17 => some (t11.2, t17)))))) t5 (t4.2, ([] : (List Int)))).bind fun f8 => some (f8.2, f8.1)))))
def straightC (walk_here : (List Int)) : Option (List Int) :=
  ((lp (fun (s1 : (List Int)) (step2 : Int) => ((if (!decide (s1 = ([] : (List Int)))) = true then ((idx s1 (-1)).bind fun t6 => some (decide (t6 = (0 - step2)))) else some false).bind fun t7 => ((if t7 = true then ((popO s1).bind fun t8 => some t8.2) else ((appO s1 step2).bind fun t9 => some t9) : Option (List Int)).bind fun s10 => some s10))) walk_here ([] : (List Int))).bind fun f3 => some f3)
/-- three cells, of which so many draws were made at most -/
def WeC (n : Nat) (w : List Int) : Prop := ∃ a b c : Int, w = [a, b, c] ∧ 0 ≤ a ∧ 0 ≤ b ∧ b < 2 ^ 140 ∧ 0 ≤ c ∧ c ≤ n
theorem WeC.mono {n m : Nat} {w : List Int} (h : WeC n w) (hm : n ≤ m) : WeC m w := by
  obtain ⟨a, b, c, e, h1, h2, h3, h4, h5⟩ := h
  exact ⟨a, b, c, e, h1, h2, h3, h4, by omega⟩
theorem enum_get {α : Type} {xs : List α} {i : Nat} {x : Int × α} (h : (enum xs)[i]? = some x) : x.1 = (i : Int) ∧ xs[i]? = some x.2 := by
  unfold enum at h
  rw [List.getElem?_map, List.getElem?_zipIdx] at h
  cases e : xs[i]? with
  | none => rw [e] at h; cases h
  | some y =>
    rw [e] at h
    simp only [Option.map_some, Option.some.injEq] at h
    subst h
    exact ⟨by simp, rfl⟩
theorem mulW_small {i j : Int} (h : -(2 ^ 64) < j ∧ j < 2 ^ 64) : mulW i j = some (i * j) := if_pos (.inr (.inl h))
theorem cell_ok {ns : List Int} {k d : Int} (h0 : 0 ≤ k) : ∃ s, (if (decide (k < (ns.length : Int))) = true then ((idx ns k).bind fun t1 => some t1) else some d : Option Int) = some s := by
  by_cases hk : k < (ns.length : Int)
  · rw [if_pos (decide_eq_true hk)]
    have hk2 : k.toNat < ns.length := by omega
    exact ⟨ns[k.toNat], by rw [idx_of h0 (List.getElem?_eq_getElem hk2)]; rfl⟩
  · rw [if_neg (by simpa using hk)]
    exact ⟨_, rfl⟩
theorem wellC_ok {ns : List Int} {k : Int} (hl : ns.length < 2 ^ 62) (h0 : 0 ≤ k) : ∃ w, wellC ns k = some w ∧ WeC 0 w := by
  unfold wellC
  obtain ⟨s, e⟩ := cell_ok (ns := ns) (d := (7 * k) + 3) h0
  obtain ⟨f, e2, _⟩ := lp_goN (f := fun (s3 : Int) (x4 : (Int × Int)) => ((mulW x4.2 (x4.1 + 3)).bind fun t8 => (some (((s3 * 31) + t8) % 10000000000000000000000000000000000000121)).bind fun total9 => some total9)) (xs := enum ns) (fun _ _ => True) (fun i x s hx _ => by
    have h1 := (enum_get hx).1
    have h2 := (List.getElem?_eq_some_iff.mp (enum_get hx).2).1
    exact ⟨_, bindS (mulW_small (by omega)) rfl, trivial⟩) (s0 := 0) trivial
  refine ⟨_, bindS e (bindS e2 rfl), _, _, _, rfl, ?_, Int.emod_nonneg _ (by decide), ?_, Int.le_refl 0, Int.le_refl 0⟩
  · unfold maxI
    split <;> omega
  · exact Int.lt_trans (Int.emod_lt_of_pos _ (by decide)) (by decide)
theorem pow_two {i : Int} (h0 : 0 ≤ i) (h : i < 2 ^ 200) : powO i 2 = some (i ^ 2) := by
  unfold powO
  rw [if_pos]
  · rfl
  refine ⟨by decide, ?_⟩
  have hb : Builtin.Int.intBits i ≤ 200 := by
    unfold Builtin.Int.intBits
    split
    · omega
    · have := log2_int h0 h (by decide)
      omega
  omega
theorem takeC_big {n : Nat} (hn : n < 2 ^ 60) {w : List Int} (h : WeC n w) {many : Int} (h0 : 0 < many) (hbl : many.natAbs.log2 < 9000) : ∃ v w', takeC w many = some (v, w') ∧ 0 ≤ v ∧ v < many ∧ WeC (n + 1) w' := by
  obtain ⟨a, b, c, rfl, ha, hb0, hb1, hc0, hc1⟩ := h
  unfold takeC
  have i0 : idx [a, b, c] 0 = some a := rfl
  have i2 : idx [a, b, c] 2 = some c := rfl
  have j1 : idx [a, b, c + 1] 1 = some b := rfl
  have j2 : idx [a, b, c + 1] 2 = some (c + 1) := rfl
  have m0 : setO [a, b, c] 2 (c + 1) = some [a, b, c + 1] := rfl
  have m1 : modO a many = some (a % many) := if_pos h0
  have m2 : fdivO a many = some (a / many) := if_pos ⟨h0, hbl⟩
  have m3 : setO [a, b, c] 0 (a / many) = some [a / many, b, c] := rfl
  have m4 : powO (b + (86028121 * (c + 1))) 3 = some ((b + (86028121 * (c + 1))) ^ 3) := pow_three (by omega) (by omega)
  simp only [i0, i2, j1, j2, m0, m1, m2, m3, m4, Option.bind_some]
  by_cases hp : 0 < a
  · rw [if_pos (decide_eq_true hp)]
    exact ⟨a % many, [a / many, b, c], rfl, Int.emod_nonneg _ (by omega), Int.emod_lt_of_pos _ h0, _, _, _, rfl, Int.ediv_nonneg ha (by omega), hb0, hb1, hc0, by omega⟩
  · rw [if_neg (by simpa using hp)]
    generalize (b + (86028121 * (c + 1))) ^ 3 = t11
    have q0 : 0 ≤ t11 % 10000000000000000000000000000000000000000057 := Int.emod_nonneg _ (by decide)
    have q1 : t11 % 10000000000000000000000000000000000000000057 < 10000000000000000000000000000000000000000057 := Int.emod_lt_of_pos _ (by decide)
    generalize t11 % 10000000000000000000000000000000000000000057 = x at q0 q1
    have m5 : powO (x + (6700417 * (c + 1))) 2 = some ((x + (6700417 * (c + 1))) ^ 2) := pow_two (by omega) (by omega)
    have m6 : modO (((x + (6700417 * (c + 1))) ^ 2 + x) % 1000000000000000000000000000000000000000063 / 999983) many = some (((x + (6700417 * (c + 1))) ^ 2 + x) % 1000000000000000000000000000000000000000063 / 999983 % many) := if_pos h0
    simp only [m5, m6, Option.bind_some]
    exact ⟨_, _, rfl, Int.emod_nonneg _ (by omega), Int.emod_lt_of_pos _ h0, _, _, _, rfl, ha, hb0, hb1, by omega, by omega⟩
theorem takeC_ok {n : Nat} (hn : n < 2 ^ 60) {w : List Int} (h : WeC n w) {many : Int} (h0 : 0 < many) (hb : many < 2 ^ 64) : ∃ v w', takeC w many = some (v, w') ∧ 0 ≤ v ∧ v < many ∧ WeC (n + 1) w' :=
  takeC_big hn h h0 (Nat.lt_trans (log2_int (by omega) hb (by decide)) (by decide))
theorem stepsC_ok {L : Int} (h1 : 1 ≤ L) (h4 : L ≤ 4) : ∃ ss, stepsC L = some ss ∧ ss ≠ [] ∧ ss.length ≤ 8 ∧ ∀ x ∈ ss, Sok L x := by
  have : L = 1 ∨ L = 2 ∨ L = 3 ∨ L = 4 := by omega
  rcases this with rfl | rfl | rfl | rfl
  · exact ⟨[1, -1], by decide, by decide, by decide, by unfold Sok; decide⟩
  · exact ⟨[1, -1, 2, -2], by decide, by decide, by decide, by unfold Sok; decide⟩
  · exact ⟨[1, -1, 2, -2, 3, -3], by decide, by decide, by decide, by unfold Sok; decide⟩
  · exact ⟨[1, -1, 2, -2, 3, -3, 4, -4], by decide, by decide, by decide, by unfold Sok; decide⟩
theorem idx_mem {α : Type} {xs : List α} {i : Int} (h0 : 0 ≤ i) (h : i < xs.length) : ∃ x, idx xs i = some x ∧ x ∈ xs := by
  have hl : i.toNat < xs.length := by omega
  exact ⟨xs[i.toNat], idx_of h0 (List.getElem?_eq_getElem hl), List.getElem_mem hl⟩
theorem nonempty_last {α : Type} {xs : List α} (h : xs ≠ []) : ∃ x, idx xs (-1) = some x ∧ x ∈ xs := by
  have hp : 0 < xs.length := List.length_pos_iff.mpr h
  have hl : xs.length - 1 < xs.length := by omega
  exact ⟨xs[xs.length - 1], idx_last (List.getElem?_eq_getElem hl), List.getElem_mem hl⟩
theorem walkC_ok {n : Nat} {L most : Int} (hn : n + 3000 < 2 ^ 60) {w : List Int} (h : WeC n w) (h1 : 1 ≤ L) (h4 : L ≤ 4) (hm0 : 0 ≤ most) (hm1 : most ≤ 1000) :
    ∃ ws w', walkC w L most = some (ws, w') ∧ (∀ x ∈ ws, Sok L x) ∧ (ws.length : Int) ≤ most ∧ WeC (n + 1100) w' := by
  unfold walkC
  obtain ⟨ss, es, s1, s2, s3⟩ := stepsC_ok h1 h4
  obtain ⟨v1, w1, e1, a1, b1, k1⟩ := takeC_ok (by omega) h (many := 4) (by decide) (by decide)
  obtain ⟨v2, w2, e2, a2, b2, k2⟩ := takeC_ok (by omega) k1 (many := most + 1) (by omega) (by omega)
  have hlr : (range' 0 v2).length = v2.toNat := by rw [rng_len, Int.sub_zero]
  have hp : 0 < ss.length := List.length_pos_iff.mpr s1
  obtain ⟨s', e3, k3⟩ := lp_goN (f := (fun (s6 : ((List Int) × (List Int))) (turn7 : Int) => ((takeC s6.1 (ss.length : Int)).bind fun t11 => (idx ss t11.1).bind fun t12 => ((if (!(decide (v1 = 0))) = true then ((if (!decide (s6.2 = ([] : (List Int)))) = true then ((idx s6.2 (-1)).bind fun t13 => some (decide (t13 = (0 - t12)))) else some false).bind fun t14 => some t14) else some false).bind fun t15 => ((if t15 = true then some (0 - t12) else some t12 : Option Int).bind fun s16 => ((appO s6.2 s16).bind fun t17 => some (t11.2, t17))))))) (xs := range' 0 v2) (fun i s => WeC (n + 2 + i) s.1 ∧ s.2.length = i ∧ ∀ x ∈ s.2, Sok L x) (fun i x s hx hs => by
    have hi : i < v2.toNat := by
      have := (List.getElem?_eq_some_iff.mp hx).1
      omega
    obtain ⟨g1, g2, g3⟩ := hs
    obtain ⟨u1, x1, f1, c1, d1, g4⟩ := takeC_ok (by omega) g1 (many := (ss.length : Int)) (by omega) (by omega)
    obtain ⟨y, f2, g5⟩ := idx_mem c1 d1
    obtain ⟨b, f3⟩ : ∃ b, (if (!(decide (v1 = 0))) = true then ((if (!decide (s.2 = ([] : (List Int)))) = true then ((idx s.2 (-1)).bind fun t13 => some (decide (t13 = (0 - y)))) else some false).bind fun t14 => some t14) else some false : Option Bool) = some b := by
      by_cases hv : v1 = 0
      · exact ⟨false, if_neg (by simp [hv])⟩
      · rw [if_pos (by simp [hv])]
        by_cases hz : s.2 = []
        · exact ⟨false, by rw [if_neg (by simp [hz])]; rfl⟩
        · obtain ⟨z, ez, _⟩ := nonempty_last hz
          rw [if_pos (by simp [hz]), ez]
          exact ⟨_, rfl⟩
    obtain ⟨y', f4, g6⟩ : ∃ y', (if b = true then some (0 - y) else some y : Option Int) = some y' ∧ Sok L y' := by
      have := s3 y g5
      cases b
      · exact ⟨y, rfl, this⟩
      · exact ⟨0 - y, rfl, by have := this.neg; rwa [show (0 : Int) - y = -y by omega]⟩
    have f5 : appO s.2 y' = some (s.2 ++ [y']) := app_ok (by rw [g2]; exact Nat.lt_of_lt_of_le (show i < 1001 by omega) (by decide))
    refine ⟨_, bindS f1 (bindS f2 (bindS f3 (bindS f4 (bindS f5 rfl)))), g4.mono (by omega), by rw [List.length_append, g2]; rfl, fun z hz => ?_⟩
    rcases List.mem_append.mp hz with hz | hz
    · exact g3 z hz
    · exact List.mem_singleton.mp hz ▸ g6) (s0 := (w2, [])) ⟨k2.mono (by omega), rfl, (fun _ z => nomatch z)⟩
  rw [hlr] at k3
  refine ⟨_, _, bindS es (bindS e1 (bindS e2 (bindS (rngO_ok (show -(2 ^ 62) ≤ (0 : Int) ∧ (0 : Int) < 2 ^ 62 ∧ -(2 ^ 62) ≤ v2 ∧ v2 < 2 ^ 62 by omega)) (bindS e3 rfl)))), k3.2.2, by rw [k3.2.1]; omega, k3.1.mono (by omega)⟩
theorem straightC_lp : ∀ (w t : List Int), t.length + w.length ≤ sizeLine → lp (fun (s1 : (List Int)) (step2 : Int) => ((if (!decide (s1 = ([] : (List Int)))) = true then ((idx s1 (-1)).bind fun t6 => some (decide (t6 = (0 - step2)))) else some false).bind fun t7 => ((if t7 = true then ((popO s1).bind fun t8 => some t8.2) else ((appO s1 step2).bind fun t9 => some t9) : Option (List Int)).bind fun s10 => some s10))) w t.reverse = some (fl t w).reverse
  | [], _, _ => rfl
  | x :: w, t, h => by
    rw [List.length_cons] at h
    have h2 := psh_len t x
    have ih := straightC_lp w (psh t x) (by omega)
    unfold lp
    refine Eq.trans (congrArg (fun z => Option.bind z _) (?_ : _ = some (psh t x).reverse)) ih
    cases t with
    | nil =>
      have : appO ([] : List Int) x = some [x] := app_ok (by decide)
      simp [this, psh]
    | cons y t =>
      have hpos : (!decide ((y :: t).reverse = [])) = true := by simp
      rw [hpos, if_pos rfl, last_rev]
      by_cases hy : y = -x
      · have e : psh (y :: t) x = t := if_pos hy
        simp only [Option.bind_some, hy, show (-x : Int) = 0 - x by omega, decide_true, if_true]
        rw [show (0 : Int) - x = y by omega, pop_rev, e]
        rfl
      · have e : psh (y :: t) x = x :: y :: t := if_neg hy
        have hy' : ¬ y = 0 - x := by omega
        simp only [Option.bind_some, hy', decide_false, Bool.false_eq_true, if_false]
        rw [app_ok (by rw [List.length_reverse]; omega), e]
        simp
theorem straightC_ok {w : List Int} (h : w.length ≤ sizeLine) : straightC w = some (red w) := by
  unfold straightC
  exact bindS (straightC_lp w [] (by simpa using h)) rfl
theorem listText_le (ts : List Str) : (listText ts).length ≤ piled ts + 2 := by
  cases ts with
  | nil => decide
  | cons t r =>
    have h := textFrom_length_pos r 1 (("[" : Str) ++ (if (0 : Nat) > 0 then ", " else "" : String) ++ t) (Nat.succ_pos 0)
    have e : ((("[" : Str) ++ (if (0 : Nat) > 0 then ", " else "" : String) ++ t)).length = 1 + t.length := by
      rw [strLen_append, strLen_append]; rfl
    have hX : (listText (t :: r)).length = (textFrom 0 "[" (t :: r)).length + 1 := by
      show (textFrom 0 "[" (t :: r) ++ "]").length = _
      rw [strLen_append]; rfl
    have hY : (textFrom 0 "[" (t :: r)).length = (textFrom 1 (("[" : Str) ++ (if (0 : Nat) > 0 then ", " else "" : String) ++ t) r).length := rfl
    rw [hX, hY, h, e, piled_cons]; omega
theorem tupleText_le (ts : List Str) : (tupleText ts).length ≤ piled ts + 3 := by
  unfold tupleText
  rw [strLen_append, strLen_append]
  have e1 : ((("(" : String) : Str)).length = 1 := rfl
  have e3 : (((if ts.length == 1 then ",)" else ")" : String) : Str)).length ≤ 2 := by split <;> decide
  rw [e1]
  by_cases h : ts = []
  · subst h
    have : (Str.join ", " ([] : List Str)).length = 0 := rfl
    omega
  · have := join_length_add ts h
    omega
/-- what a datum needs so that its text can be asked for: no deeper than k, no longer than n -/
def Txt (k n : Nat) (d : PyData) : Prop := d.showable = true ∧ d.hasDict = false ∧ d.depth ≤ k ∧ d.shown.length ≤ n
theorem Txt.mono {k n k' n' : Nat} {d : PyData} (h : Txt k n d) (hk : k ≤ k') (hn : n ≤ n') : Txt k' n' d := ⟨h.1, h.2.1, Nat.le_trans h.2.2.1 hk, Nat.le_trans h.2.2.2 hn⟩
theorem Txt.repr {k n : Nat} {d : PyData} (h : Txt k n d) (hk : k ≤ 60) (hn : n ≤ sizeLine) : reprO d = some d.shown := if_pos ⟨h.1, h.2.1, Nat.le_trans h.2.2.1 hk, by
  unfold shortO
  rw [decide_eq_true (Nat.le_trans h.2.2.2 hn), Bool.or_true]⟩
theorem txt_int {i : Int} {k : Nat} (hk : 0 < k) (hk2 : k ≤ 1900) (h : i.natAbs < 2 ^ k) : Txt 0 (k + 1) (.int i) := by
  have hl := log2_small h hk
  refine ⟨by simp only [PyData.showable]; exact decide_eq_true (by omega), by simp only [PyData.hasDict], by simp only [PyData.depth]; omega, ?_⟩
  simp only [PyData.shown]
  have := int_text_length_le hk hl
  show (Str.ofString (toString i)).length ≤ k + 1
  rw [ofString_length]
  exact this
theorem txt_all {k n : Nat} : ∀ {ds : List PyData}, (∀ d ∈ ds, Txt k n d) → PyData.showableAll ds = true ∧ PyData.hasDictAll ds = false ∧ PyData.depthAll ds ≤ k ∧ piled (PyData.shownAll ds) ≤ ds.length * (n + 2)
  | [], _ => ⟨by simp only [PyData.showableAll], by simp only [PyData.hasDictAll], by simp only [PyData.depthAll]; omega, by simp [PyData.shownAll, piled]⟩
  | d :: ds, h => by
    obtain ⟨a1, a2, a3, a4⟩ := h d List.mem_cons_self
    obtain ⟨b1, b2, b3, b4⟩ := txt_all fun x hx => h x (List.mem_cons_of_mem _ hx)
    refine ⟨by simp only [PyData.showableAll, a1, b1, Bool.and_self], by simp only [PyData.hasDictAll, a2, b2, Bool.or_self], by simp only [PyData.depthAll]; omega, ?_⟩
    simp only [PyData.shownAll]
    rw [piled_cons, List.length_cons, Nat.add_mul]
    omega
theorem txt_list {k n : Nat} {ds : List PyData} (h : ∀ d ∈ ds, Txt k n d) : Txt (k + 1) (ds.length * (n + 2) + 2) (.list ds) := by
  obtain ⟨b1, b2, b3, b4⟩ := txt_all h
  refine ⟨by simp only [PyData.showable, b1], by simp only [PyData.hasDict, b2], by simp only [PyData.depth]; omega, ?_⟩
  simp only [PyData.shown]
  have := listText_le (PyData.shownAll ds)
  omega
theorem txt_tup {k n : Nat} {ds : List PyData} (h : ∀ d ∈ ds, Txt k n d) : Txt (k + 1) (ds.length * (n + 2) + 3) (.tuple ds) := by
  obtain ⟨b1, b2, b3, b4⟩ := txt_all h
  refine ⟨by simp only [PyData.showable, b1], by simp only [PyData.hasDict, b2], by simp only [PyData.depth]; omega, ?_⟩
  simp only [PyData.shown]
  have := tupleText_le (PyData.shownAll ds)
  omega
end Z
namespace Z
open PySem PySem.Spec L2
theorem bndX {α β : Type} {m : Option α} {k : α → Option β} {a : α} {P : β → Prop} (h : m = some a) (h2 : ∃ r, k a = some r ∧ P r) : ∃ r, m.bind k = some r ∧ P r := by
  rw [h]
  exact h2
theorem sizeL : sizeLine = 16777216 := by decide
/-- three cells, of which so many draws were made at most -/
def Pot (n : Nat) (w : List Int) : Prop := ∃ a b c : Int, w = [a, b, c] ∧ 0 ≤ a ∧ 0 ≤ b ∧ b < 2 ^ 100 ∧ 0 ≤ c ∧ c ≤ n
theorem Pot.mono {n m : Nat} {w : List Int} (h : Pot n w) (hm : n ≤ m) : Pot m w := by
  obtain ⟨a, b, c, e, h1, h2, h3, h4, h5⟩ := h
  exact ⟨a, b, c, e, h1, h2, h3, h4, by omega⟩
def stL (L : Int) : List Int := (range' 1 (L + 1)).flatMap fun l => [l, -l]
theorem four {P : Int → Prop} {L : Int} (h1 : 1 ≤ L) (h4 : L ≤ 4) (a : P 1) (b : P 2) (c : P 3) (d : P 4) : P L := by
  have : L = 1 ∨ L = 2 ∨ L = 3 ∨ L = 4 := by omega
  rcases this with rfl | rfl | rfl | rfl <;> assumption
theorem mem_stL {L s : Int} : s ∈ stL L ↔ Sok L s := by
  unfold stL Sok
  rw [List.mem_flatMap]
  constructor
  · rintro ⟨l, hl, hs⟩
    have := mem_rng hl
    simp only [List.mem_cons, List.not_mem_nil, or_false] at hs
    omega
  · intro h
    refine ⟨(s.natAbs : Int), ?_, ?_⟩
    · unfold range'
      refine List.mem_map.mpr ⟨s.natAbs - 1, List.mem_range.mpr (by omega), by omega⟩
    · simp only [List.mem_cons, List.not_mem_nil, or_false]
      omega
theorem stL_nd {L : Int} (h1 : 1 ≤ L) (h4 : L ≤ 4) : (stL L).Nodup := four (P := fun L => (stL L).Nodup) h1 h4 (by decide) (by decide) (by decide) (by decide)
theorem nodup_le {α : Type} [DecidableEq α] : ∀ (l k : List α), l.Nodup → (∀ x ∈ l, x ∈ k) → l.length ≤ k.length
  | [], _, _, _ => Nat.zero_le _
  | x :: l, k, h, hs => by
    have hx := hs x List.mem_cons_self
    have h2 := List.nodup_cons.mp h
    have := nodup_le l (k.erase x) h2.2 (fun y hy => (List.mem_erase_of_ne (fun e => h2.1 (by rw [← e]; exact hy))).mpr (hs y (List.mem_cons_of_mem _ hy)))
    rw [List.length_erase_of_mem hx] at this
    have := List.length_pos_of_mem hx
    rw [List.length_cons]
    omega
section
variable {κ β : Type} [DecidableEq κ]
theorem dGet_nil (k : κ) : dGet ([] : List (κ × β)) k = none := rfl
theorem dGet_cons (p : κ × β) (d : List (κ × β)) (k : κ) : dGet (p :: d) k = if p.1 = k then some p.2 else dGet d k := by
  unfold dGet
  rw [List.find?_cons]
  by_cases h : p.1 = k
  · simp [h]
  · simp [h]
theorem dGet_mem : ∀ {d : List (κ × β)} {k : κ} {v : β}, dGet d k = some v → (k, v) ∈ d
  | [], _, _, h => by cases h
  | p :: d, k, v, h => by
    rw [dGet_cons] at h
    by_cases e : p.1 = k
    · rw [if_pos e] at h
      cases h
      subst e
      exact List.mem_cons_self
    · rw [if_neg e] at h
      exact List.mem_cons_of_mem _ (dGet_mem h)
theorem mem_dGet : ∀ {d : List (κ × β)} {k : κ} {v : β}, (d.map Prod.fst).Nodup → (k, v) ∈ d → dGet d k = some v
  | [], _, _, _, h => by cases h
  | p :: d, k, v, hn, h => by
    rw [dGet_cons]
    rw [List.map_cons, List.nodup_cons] at hn
    rcases List.mem_cons.mp h with h | h
    · subst h
      rw [if_pos rfl]
    · rw [if_neg (fun e => hn.1 (by rw [e]; exact List.mem_map.mpr ⟨_, h, rfl⟩))]
      exact mem_dGet hn.2 h
theorem dGet_key_mem {d : List (κ × β)} {k : κ} : (dGet d k).isSome = true ↔ k ∈ d.map Prod.fst := by
  constructor
  · intro h
    obtain ⟨v, hv⟩ := Option.isSome_iff_exists.mp h
    exact List.mem_map.mpr ⟨_, dGet_mem hv, rfl⟩
  · intro h
    induction d with
    | nil => cases h
    | cons p d ih =>
      rw [dGet_cons]
      by_cases e : p.1 = k
      · rw [if_pos e]; rfl
      · rw [if_neg e]
        rw [List.map_cons] at h
        rcases List.mem_cons.mp h with h | h
        · exact absurd h.symm e
        · exact ih h
theorem dGet_set (k : κ) (v : β) (k' : κ) : ∀ d : List (κ × β), dGet (d.map fun kv => if kv.1 = k then (kv.1, v) else kv) k' = if k = k' then (dGet d k).map (fun _ => v) else dGet d k'
  | [] => by by_cases h : k = k' <;> simp [h, dGet_nil]
  | p :: d => by
    rw [List.map_cons, dGet_cons, dGet_set k v k' d, dGet_cons, dGet_cons]
    by_cases h1 : p.1 = k
    · by_cases h2 : k = k'
      · subst h2; simp [h1]
      · have h3 : ¬ p.1 = k' := fun e => h2 (h1.symm.trans e)
        simp [h1, h2]
    · by_cases h2 : k = k'
      · subst h2; simp [h1]
      · simp [h1, h2]
theorem dGet_snoc (k : κ) (v : β) (k' : κ) : ∀ d : List (κ × β), dGet (d ++ [(k, v)]) k' = (dGet d k').or (if k = k' then some v else none)
  | [] => by rw [List.nil_append, dGet_cons]; rfl
  | p :: d => by
    rw [List.cons_append, dGet_cons, dGet_cons, dGet_snoc k v k' d]
    by_cases h : p.1 = k' <;> simp [h]
theorem any_key (d : List (κ × β)) (k : κ) : (d.any fun kv => decide (kv.1 = k)) = (dGet d k).isSome := by
  induction d with
  | nil => rfl
  | cons p d ih =>
    rw [List.any_cons, dGet_cons, ih]
    by_cases h : p.1 = k <;> simp [h]
theorem dGet_put (d : List (κ × β)) (k : κ) (v : β) (k' : κ) : dGet (dPut d k v) k' = if k = k' then some v else dGet d k' := by
  unfold dPut
  rw [any_key]
  by_cases h : (dGet d k).isSome = true
  · rw [if_pos h, dGet_set]
    obtain ⟨w, hw⟩ := Option.isSome_iff_exists.mp h
    rw [hw]
    rfl
  · rw [if_neg h, dGet_snoc]
    by_cases e : k = k'
    · subst e
      have : dGet d k = none := by simpa using h
      simp [this]
    · simp [e]
theorem dPut_keys (d : List (κ × β)) (k : κ) (v : β) : (dPut d k v).map Prod.fst = if (dGet d k).isSome = true then d.map Prod.fst else d.map Prod.fst ++ [k] := by
  unfold dPut
  rw [any_key]
  by_cases h : (dGet d k).isSome = true
  · rw [if_pos h, if_pos h, List.map_map]
    refine List.map_congr_left fun p _ => ?_
    show (if p.1 = k then (p.1, v) else p).1 = p.1
    split <;> rfl
  · rw [if_neg h, if_neg h, List.map_append]
    rfl
theorem dPut_nd {d : List (κ × β)} (h : (d.map Prod.fst).Nodup) (k : κ) (v : β) : ((dPut d k v).map Prod.fst).Nodup := by
  rw [dPut_keys]
  split
  · exact h
  · rename_i hn
    rw [List.nodup_append]
    refine ⟨h, by simp, fun a ha b hb => ?_⟩
    rw [List.mem_singleton.mp hb]
    exact fun e => hn (dGet_key_mem.mpr (e ▸ ha))
theorem dDel_nd {d : List (κ × β)} (h : (d.map Prod.fst).Nodup) (k : κ) : ((dDel d k).map Prod.fst).Nodup := by
  unfold dDel
  exact h.sublist (List.Sublist.map _ List.filter_sublist)
theorem dGet_del (k k' : κ) : ∀ d : List (κ × β), dGet (dDel d k) k' = if k = k' then none else dGet d k'
  | [] => by by_cases h : k = k' <;> simp [h, dDel, dGet_nil]
  | p :: d => by
    have ih := dGet_del k k' d
    unfold dDel at ih ⊢
    rw [List.filter_cons]
    by_cases h : p.1 = k
    · simp only [h, ne_eq, not_true_eq_false, decide_false, Bool.false_eq_true, if_false]
      rw [ih, dGet_cons, h]
      by_cases e : k = k' <;> simp [e]
    · have : decide (p.1 ≠ k) = true := by simp [h]
      rw [if_pos this, dGet_cons, ih, dGet_cons]
      by_cases e : k = k'
      · subst e; simp [h]
      · simp [e]
theorem putO_ok {d : List (κ × β)} {k : κ} {v : β} (h : d.length < sizeLine) : dPutO d k v = some (dPut d k v) := if_pos h
end
abbrev Dd := List (List (Int × Int))
def row (D : Dd) (a : Int) : List (Int × Int) := D.getD a.toNat []
def go (D : Dd) (a s : Int) : Option Int := dGet (row D a) s
theorem getD_set' {α : Type} (l : List α) (i j : Nat) (x d : α) (h : i < l.length) : (l.set i x).getD j d = if i = j then x else l.getD j d := by
  rw [List.getD_eq_getElem?_getD, List.getElem?_set, List.getD_eq_getElem?_getD]
  by_cases e : i = j
  · rw [if_pos e, if_pos e, if_pos h]; rfl
  · rw [if_neg e, if_neg e]
theorem setI_nn {α : Type} {xs : List α} {a : Int} (h0 : 0 ≤ a) (h : a < xs.length) (x : α) : setI xs a x = xs.set a.toNat x := by
  unfold setI ixD ixN
  rw [if_pos h0, if_pos (by omega)]
  rfl
theorem idx_row {D : Dd} {a : Int} (h0 : 0 ≤ a) (h : a < D.length) : idx D a = some (row D a) := by
  have hl : a.toNat < D.length := by omega
  refine idx_of h0 ?_
  unfold row
  rw [List.getD_eq_getElem?_getD, List.getElem?_eq_getElem hl]
  rfl
theorem row_set {D : Dd} {a b : Int} (h0 : 0 ≤ a) (h : a < D.length) (hb : 0 ≤ b) (d : List (Int × Int)) : row (setI D a d) b = if a = b then d else row D b := by
  unfold row
  rw [setI_nn h0 h, getD_set' _ _ _ _ _ (by omega)]
  by_cases e : a = b
  · rw [if_pos e, if_pos (by omega)]
  · rw [if_neg e, if_neg (by omega)]
theorem row_mem {D : Dd} {a : Int} (h0 : 0 ≤ a) (h : a < D.length) : row D a ∈ D := by
  have hl : a.toNat < D.length := by omega
  unfold row
  rw [List.getD_eq_getElem?_getD, List.getElem?_eq_getElem hl]
  exact List.getElem_mem hl
theorem go_lt {D : Dd} {a s b : Int} (h0 : 0 ≤ a) (h : go D a s = some b) : a < D.length := by
  refine Int.not_le.mp fun hn => ?_
  unfold go row at h
  rw [List.getD_eq_getElem?_getD, List.getElem?_eq_none_iff.mpr (by omega)] at h
  cases h
def putD (D : Dd) (a s b : Int) : Dd := setI (setI D a (dPut (row D a) s b)) b (dPut (row (setI D a (dPut (row D a) s b)) b) (-s) a)
def delD (D : Dd) (a s b : Int) : Dd := setI (setI D a (dDel (row D a) s)) b (dDel (row (setI D a (dDel (row D a) s)) b) (-s))
theorem putD_len (D : Dd) (a s b : Int) : (putD D a s b).length = D.length := by unfold putD; rw [setI_len, setI_len]
theorem delD_len (D : Dd) (a s b : Int) : (delD D a s b).length = D.length := by unfold delD; rw [setI_len, setI_len]
section
variable {D : Dd} {a b s : Int} (a0 : 0 ≤ a) (a1 : a < D.length) (b0 : 0 ≤ b) (b1 : b < D.length) (hs : s ≠ 0)
include a0 a1 b0 b1 hs
theorem go_put {x : Int} (hx : 0 ≤ x) (t : Int) : go (putD D a s b) x t = if x = b ∧ t = -s then some a else if x = a ∧ t = s then some b else go D x t := by
  unfold go putD
  rw [row_set b0 (by rw [setI_len]; exact b1) hx]
  by_cases hb : b = x
  · subst hb
    rw [if_pos rfl, dGet_put]
    by_cases ht : -s = t
    · rw [if_pos ht, if_pos ⟨rfl, ht.symm⟩]
    · rw [if_neg ht, if_neg (fun z => ht z.2.symm), row_set a0 a1 b0]
      by_cases ha : a = b
      · subst ha
        rw [if_pos rfl, dGet_put]
        by_cases e : s = t
        · rw [if_pos e, if_pos ⟨rfl, e.symm⟩]
        · rw [if_neg e, if_neg (fun z => e z.2.symm)]
      · rw [if_neg ha, if_neg (fun z => ha z.1.symm)]
  · rw [if_neg hb, if_neg (fun z => hb z.1.symm), row_set a0 a1 hx]
    by_cases ha : a = x
    · subst ha
      rw [if_pos rfl, dGet_put]
      by_cases e : s = t
      · rw [if_pos e, if_pos ⟨rfl, e.symm⟩]
      · rw [if_neg e, if_neg (fun z => e z.2.symm)]
    · rw [if_neg ha, if_neg (fun z => ha z.1.symm)]
theorem go_del {x : Int} (hx : 0 ≤ x) (t : Int) : go (delD D a s b) x t = if (x = b ∧ t = -s) ∨ (x = a ∧ t = s) then none else go D x t := by
  unfold go delD
  rw [row_set b0 (by rw [setI_len]; exact b1) hx]
  by_cases hb : b = x
  · subst hb
    rw [if_pos rfl, dGet_del]
    by_cases ht : -s = t
    · rw [if_pos ht, if_pos (.inl ⟨rfl, ht.symm⟩)]
    · rw [if_neg ht, row_set a0 a1 b0]
      by_cases ha : a = b
      · subst ha
        rw [if_pos rfl, dGet_del]
        by_cases e : s = t
        · rw [if_pos e, if_pos (.inr ⟨rfl, e.symm⟩)]
        · rw [if_neg e, if_neg (by rintro (z | z); exact ht z.2.symm; exact e z.2.symm)]
      · rw [if_neg ha, if_neg (by rintro (z | z); exact ht z.2.symm; exact ha z.1.symm)]
  · rw [if_neg hb, row_set a0 a1 hx]
    by_cases ha : a = x
    · subst ha
      rw [if_pos rfl, dGet_del]
      by_cases e : s = t
      · rw [if_pos e, if_pos (.inr ⟨rfl, e.symm⟩)]
      · rw [if_neg e, if_neg (by rintro (z | z); exact hb z.1.symm; exact e z.2.symm)]
    · rw [if_neg ha, if_neg (by rintro (z | z); exact hb z.1.symm; exact ha z.1.symm)]
end
/-- doors that lead there and back -/
structure Dr (L : Int) (n : Nat) (D : Dd) : Prop where
  len : D.length = n
  nd : ∀ d ∈ D, (d.map Prod.fst).Nodup
  ok : ∀ a s b, 0 ≤ a → go D a s = some b → 0 ≤ b ∧ b < n ∧ Sok L s ∧ go D b (-s) = some a
theorem Dr.nil (L : Int) (n : Nat) {D : Dd} (h : D = List.replicate n []) : Dr L n D := by
  subst h
  refine ⟨List.length_replicate, fun d hd => ?_, fun a s b h0 h => ?_⟩
  · rw [(List.mem_replicate.mp hd).2]
    simp
  · have hr : row (List.replicate n []) a = [] := by
      unfold row
      rw [List.getD_eq_getElem?_getD, List.getElem?_replicate]
      split <;> rfl
    unfold go at h
    rw [hr] at h
    cases h
theorem Dr.put {L : Int} {n : Nat} {D : Dd} (h : Dr L n D) {a s b : Int} (a0 : 0 ≤ a) (a1 : a < n) (b0 : 0 ≤ b) (b1 : b < n) (hs : Sok L s) (f1 : go D a s = none) (f2 : go D b (-s) = none) : Dr L n (putD D a s b) := by
  have a1' : a < D.length := by rw [h.len]; exact a1
  have b1' : b < D.length := by rw [h.len]; exact b1
  have hz := hs.1
  refine ⟨by rw [putD_len]; exact h.len, fun d hd => ?_, fun x t y hx hy => ?_⟩
  · unfold putD at hd
    rcases List.mem_or_eq_of_mem_set hd with hd | rfl
    · rcases List.mem_or_eq_of_mem_set hd with hd | rfl
      · exact h.nd d hd
      · exact dPut_nd (h.nd _ (row_mem a0 a1')) _ _
    · refine dPut_nd ?_ _ _
      rw [row_set a0 a1' b0]
      split
      · exact dPut_nd (h.nd _ (row_mem a0 a1')) _ _
      · exact h.nd _ (row_mem b0 b1')
  · rw [go_put a0 a1' b0 b1' hz hx] at hy
    by_cases e1 : x = b ∧ t = -s
    · rw [if_pos e1] at hy
      cases hy
      refine ⟨a0, a1, by rw [e1.2]; exact hs.neg, ?_⟩
      rw [go_put a0 a1' b0 b1' hz a0, if_neg (fun z => by omega), if_pos ⟨rfl, by omega⟩, e1.1]
    · rw [if_neg e1] at hy
      by_cases e2 : x = a ∧ t = s
      · rw [if_pos e2] at hy
        cases hy
        refine ⟨b0, b1, by rw [e2.2]; exact hs, ?_⟩
        rw [go_put a0 a1' b0 b1' hz b0, if_pos ⟨rfl, by omega⟩, e2.1]
      · rw [if_neg e2] at hy
        obtain ⟨y0, y1, ht, hb⟩ := h.ok x t y hx hy
        refine ⟨y0, y1, ht, ?_⟩
        rw [go_put a0 a1' b0 b1' hz y0, if_neg, if_neg]
        · exact hb
        · rintro ⟨rfl, e⟩
          rw [e, f1] at hb
          cases hb
        · rintro ⟨rfl, e⟩
          rw [e, f2] at hb
          cases hb
theorem Dr.del {L : Int} {n : Nat} {D : Dd} (h : Dr L n D) {a s b : Int} (a0 : 0 ≤ a) (f : go D a s = some b) : Dr L n (delD D a s b) := by
  obtain ⟨b0, b1, hs, g⟩ := h.ok a s b a0 f
  have a1' : a < D.length := go_lt a0 f
  have b1' : b < D.length := by rw [h.len]; exact b1
  have hz := hs.1
  refine ⟨by rw [delD_len]; exact h.len, fun d hd => ?_, fun x t y hx hy => ?_⟩
  · unfold delD at hd
    rcases List.mem_or_eq_of_mem_set hd with hd | rfl
    · rcases List.mem_or_eq_of_mem_set hd with hd | rfl
      · exact h.nd d hd
      · exact dDel_nd (h.nd _ (row_mem a0 a1')) _
    · refine dDel_nd ?_ _
      rw [row_set a0 a1' b0]
      split
      · exact dDel_nd (h.nd _ (row_mem a0 a1')) _
      · exact h.nd _ (row_mem b0 b1')
  · rw [go_del a0 a1' b0 b1' hz hx] at hy
    split at hy
    · cases hy
    · rename_i hn
      obtain ⟨y0, y1, ht, hb⟩ := h.ok x t y hx hy
      refine ⟨y0, y1, ht, ?_⟩
      rw [go_del a0 a1' b0 b1' hz y0, if_neg]
      · exact hb
      · rintro (⟨rfl, e⟩ | ⟨rfl, e⟩)
        · have e' : t = s := by omega
          subst e'
          rw [g] at hb
          cases hb
          exact hn (.inr ⟨rfl, rfl⟩)
        · have e' : t = -s := by omega
          subst e'
          rw [e, f] at hb
          cases hb
          exact hn (.inl ⟨rfl, rfl⟩)
theorem eightL : ∀ s : Int, Sok 4 s → s ∈ [1, -1, 2, -2, 3, -3, 4, (-4 : Int)] := fun s h => by
  obtain ⟨h1, h2, h3⟩ := h
  simp only [List.mem_cons, List.not_mem_nil, or_false]
  omega
theorem Dr.small {L : Int} {n : Nat} {D : Dd} (h : Dr L n D) (h4 : L ≤ 4) {a : Int} (a0 : 0 ≤ a) : (row D a).length ≤ 8 := by
  by_cases ha : a < D.length
  · have hn := h.nd _ (row_mem a0 ha)
    have := nodup_le ((row D a).map Prod.fst) [1, -1, 2, -2, 3, -3, 4, (-4 : Int)] hn fun k hk => by
      obtain ⟨p, hp, rfl⟩ := List.mem_map.mp hk
      obtain ⟨k, v⟩ := p
      have hg : go D a k = some v := mem_dGet hn hp
      exact eightL _ ((h.ok a k v a0 hg).2.2.1.mono h4)
    rw [List.length_map] at this
    exact this
  · unfold row
    rw [List.getD_eq_getElem?_getD, List.getElem?_eq_none_iff.mpr (by omega)]
    exact Nat.zero_le _
theorem Dr.rowok {L : Int} {n : Nat} {D : Dd} (h : Dr L n D) {a : Int} (a0 : 0 ≤ a) : ((row D a).map Prod.fst).Nodup := by
  by_cases ha : a < D.length
  · exact h.nd _ (row_mem a0 ha)
  · unfold row
    rw [List.getD_eq_getElem?_getD, List.getElem?_eq_none_iff.mpr (by omega)]
    exact List.nodup_nil
/-- both ends of a way are laid -/
theorem put_run {L : Int} {n : Nat} {D : Dd} (h : Dr L n D) (h4 : L ≤ 4) {a b k k2 : Int} (a0 : 0 ≤ a) (a1 : a < n) (b0 : 0 ≤ b) (b1 : b < n) (hk : k2 = -k) :
    ((idx D a).bind fun t16 => (dPutO t16 k b).bind fun t17 => ((idx (setI D a t17) b).bind fun t18 => (dPutO t18 k2 a).bind fun t19 => some (setI (setI D a t17) b t19))) = some (putD D a k b) := by
  subst hk
  have a1' : a < D.length := by rw [h.len]; exact a1
  have b1' : b < D.length := by rw [h.len]; exact b1
  have s1 := h.small h4 a0
  have s2 := h.small h4 b0
  have s3 := dput_len (row D a) k b
  refine bindS (idx_row a0 a1') (bindS (putO_ok (by rw [sizeL]; omega)) (bindS (idx_row b0 (by rw [setI_len]; exact b1')) (bindS (putO_ok ?_) rfl)))
  rw [row_set a0 a1' b0, sizeL]
  split <;> omega
end Z
namespace Z
open PySem PySem.Spec L2
theorem lpX {α S β : Type} {f : S → α → Option S} {xs : List α} {s0 : S} {k : S → Option β} {Q : β → Prop} (P : Nat → S → Prop) (h0 : P 0 s0) (step : ∀ (i : Nat) (x : α) (s : S), xs[i]? = some x → P i s → ∃ s', f s x = some s' ∧ P (i + 1) s') (hk : ∀ s, P xs.length s → ∃ r, k s = some r ∧ Q r) : ∃ r, (lp f xs s0).bind k = some r ∧ Q r := by
  obtain ⟨s, e, h⟩ := lp_goN P step h0
  rw [e]
  exact hk s h
theorem whX {R S β : Type} {c : S → Option Bool} {f : S → Option (Step R S)} {k : Sum R S → Option β} {Q : β → Prop} (P : S → Prop) (μ : S → Nat) {n : Nat} {s0 : S} (h0 : P s0) (hn : μ s0 < n) (step : ∀ s, P s → c s = some false ∨ (c s = some true ∧ ∃ s', f s = some (.go s') ∧ P s' ∧ μ s' < μ s)) (hk : ∀ s, P s → c s = some false → ∃ r, k (.inr s) = some r ∧ Q r) : ∃ r, (wh c f n s0).bind k = some r ∧ Q r := by
  have : ∃ s, wh c f n s0 = some (.inr s) ∧ P s ∧ c s = some false := by
    induction n generalizing s0 with
    | zero => exact absurd hn (Nat.not_lt_zero _)
    | succ n ih =>
      unfold wh
      rcases step s0 h0 with e | ⟨e, s', e2, h2, h3⟩
      · exact ⟨s0, bindS e (if_neg (by simp)), h0, e⟩
      · obtain ⟨s, h4, h5⟩ := ih h2 (by omega)
        exact ⟨s, bindS e ((if_pos rfl).trans (bindS e2 h4)), h5⟩
  obtain ⟨s, e, h, h2⟩ := this
  rw [e]
  exact hk s h h2
theorem mapG_some {α β : Type} {f : α → Option (Option β)} {g : α → Option β} : ∀ {xs : List α}, (∀ x ∈ xs, f x = some (g x)) → mapG f xs = some (xs.filterMap g)
  | [], _ => rfl
  | x :: xs, h => by
    unfold mapG
    rw [h x List.mem_cons_self, mapG_some fun y hy => h y (List.mem_cons_of_mem _ hy)]
    cases hg : g x <;> simp [hg]
theorem lcG_some {α β : Type} {f : α → Option (Option β)} (g : α → Option β) {xs : List α} (hl : xs.length < sizeLine) (h : ∀ x ∈ xs, f x = some (g x)) : lcG f xs = some (xs.filterMap g) := by
  unfold lcG
  rw [if_pos hl]
  exact mapG_some h
theorem rngAt {a b x : Int} {i : Nat} (h : (range' a b)[i]? = some x) : x = a + i ∧ i < (b - a).toNat := by
  unfold range' at h
  rw [List.getElem?_map] at h
  cases e : (List.range (b - a).toNat)[i]? with
  | none => rw [e] at h; cases h
  | some y =>
    rw [e] at h
    obtain ⟨h1, h2⟩ := List.getElem?_eq_some_iff.mp e
    rw [List.getElem_range] at h2
    rw [List.length_range] at h1
    subst h2
    cases h
    exact ⟨rfl, h1⟩
end Z
namespace Z
open PySem PySem.Spec L2
theorem small_of {d : List (Int × Int)} (hn : (d.map Prod.fst).Nodup) (h : ∀ k v, dGet d k = some v → Sok 4 k) : d.length ≤ 8 := by
  have := nodup_le (d.map Prod.fst) [1, -1, 2, -2, 3, -3, 4, (-4 : Int)] hn fun k hk => by
    obtain ⟨v, hv⟩ := Option.isSome_iff_exists.mp (dGet_key_mem.mpr hk)
    exact eightL _ (h k v hv)
  rw [List.length_map] at this
  exact this
theorem go_set {D : Dd} {a x t : Int} {d : List (Int × Int)} (a0 : 0 ≤ a) (a1 : a < D.length) (hx : 0 ≤ x) : go (setI D a d) x t = if a = x then dGet d t else go D x t := by
  unfold go
  rw [row_set a0 a1 hx]
  split <;> rfl
/-- ways laid there and back -/
def WyR (L c : Int) (W : List (Tri Int Int Int)) : Prop := ∀ t ∈ W, 0 ≤ t.a ∧ t.a < c ∧ 0 ≤ t.c ∧ t.c < c ∧ Sok L t.b ∧ Tri.mk t.c (-t.b) t.a ∈ W
theorem WyR.mono {L c d : Int} {W : List (Tri Int Int Int)} (h : WyR L c W) (hc : c ≤ d) : WyR L d W := fun t ht => by
  obtain ⟨a, b, e, f, g, i⟩ := h t ht
  exact ⟨a, by omega, e, by omega, g, i⟩
theorem mm {z y : Int} : (maxI z y = z ∧ minI z y = y ∧ y ≤ z) ∨ (maxI z y = y ∧ minI z y = z ∧ z ≤ y) := by
  unfold maxI minI
  by_cases h : z < y
  · right
    refine ⟨?_, ?_, by omega⟩ <;> (repeat' split) <;> omega
  · left
    refine ⟨?_, ?_, by omega⟩ <;> (repeat' split) <;> omega
end Z
namespace Z
open PySem PySem.Spec L2
def vis (o : List Int) (g : Int) : List Int := if g ∈ o then o else o ++ [g]
end Z
namespace Z
open PySem PySem.Spec L2
def cell (rows : List (List Int)) (a l : Int) : Int := (rows.getD a.toNat []).getD l.toNat (-1)
theorem cell_out {rows : List (List Int)} {a l : Int} (h : rows.length ≤ a.toNat ∨ ∀ r, rows[a.toNat]? = some r → r.length ≤ l.toNat) : cell rows a l = -1 := by
  unfold cell
  rw [List.getD_eq_getElem?_getD, List.getD_eq_getElem?_getD]
  rcases h with h | h
  · rw [List.getElem?_eq_none_iff.mpr h]
    rfl
  · cases e : rows[a.toNat]? with
    | none => rfl
    | some r =>
      show (r[l.toNat]?).getD (-1) = -1
      rw [List.getElem?_eq_none_iff.mpr (h r e)]
      rfl
/-- rows in their bounds -/
structure Reg (L : Int) (rows : List (List Int)) : Prop where
  l1 : 1 ≤ L
  l4 : L ≤ 4
  rl : ∀ r ∈ rows, r.length = L.toNat
  rb : ∀ r ∈ rows, ∀ x ∈ r, -1 ≤ x ∧ x < rows.length
  one : ∀ a b l k : Int, 0 ≤ a → 0 ≤ b → 0 ≤ k → cell rows a l = k → cell rows b l = k → a = b
theorem Reg.bd {L : Int} {rows : List (List Int)} (h : Reg L rows) (a l : Int) : cell rows a l < rows.length ∨ cell rows a l = -1 := by
  cases e : rows[a.toNat]? with
  | none => exact .inr (cell_out (.inl (List.getElem?_eq_none_iff.mp e)))
  | some r =>
    by_cases hl : l.toNat < r.length
    · refine .inl ?_
      have hm := List.mem_of_getElem? e
      have : cell rows a l = r[l.toNat] := by
        unfold cell
        rw [List.getD_eq_getElem?_getD (l := rows), e]
        show r.getD l.toNat (-1) = _
        rw [List.getD_eq_getElem?_getD, List.getElem?_eq_getElem hl]
        rfl
      rw [this]
      exact (h.rb r hm _ (List.getElem_mem hl)).2
    · exact .inr (cell_out (.inr fun r' hr' => by rw [e] at hr'; cases hr'; omega))
structure Lay (L : Int) (rows : List (List Int)) (r c : Nat) (D : Dd) : Prop where
  dr : Dr L rows.length D
  rep : ∀ x l y, 0 ≤ x → 0 < l → (go D x l = some y ↔ 0 ≤ y ∧ cell rows x (l - 1) = y ∧ (x < r ∨ (x = r ∧ l - 1 < c)))
theorem Lay.step {L : Int} {rows : List (List Int)} (R : Reg L rows) {r c : Nat} {D : Dd} (h : Lay L rows r c D) (hr : r < rows.length) (hc : c < L.toNat) {a k k2 g : Int} (ea : a = r) (ek : k = (c : Int) + 1) (ek2 : k2 = -k) (eg : g = cell rows r c) :
    ∃ D', (if (decide (0 ≤ g)) = true then ((idx D a).bind fun t16 => (dPutO t16 k g).bind fun t17 => ((idx (setI D a t17) g).bind fun t18 => (dPutO t18 k2 a).bind fun t19 => some (setI (setI D a t17) g t19))) else some D : Option Dd) = some D' ∧ Lay L rows r (c + 1) D' := by
  subst ea ek
  by_cases hg : 0 ≤ g
  · have g1 : g < rows.length := by
      rcases R.bd (r : Int) (c : Int) with h | h
      · rw [eg]; exact h
      · omega
    have a1 : (r : Int) < rows.length := by omega
    have hs : Sok L ((c : Int) + 1) := ⟨by omega, by omega, by omega⟩
    have f1 : go D r ((c : Int) + 1) = none := by
      cases e : go D r ((c : Int) + 1) with
      | none => rfl
      | some y =>
        have := (h.rep r _ y (by omega) (by omega)).mp e
        omega
    have f2 : go D g (-((c : Int) + 1)) = none := by
      cases e : go D g (-((c : Int) + 1)) with
      | none => rfl
      | some y =>
        obtain ⟨y0, _, _, hb⟩ := h.dr.ok g _ y hg e
        rw [Int.neg_neg] at hb
        obtain ⟨_, h2, h3⟩ := (h.rep y _ g y0 (by omega)).mp hb
        have h2' : cell rows y (c : Int) = g := by rw [← h2]; congr 1; omega
        have := R.one y r c g y0 (by omega) hg h2' eg.symm
        omega
    refine ⟨_, (if_pos (decide_eq_true hg)).trans (put_run h.dr R.l4 (by omega) a1 hg g1 ek2), h.dr.put (by omega) a1 hg g1 hs f1 f2, fun x l y hx hl => ?_⟩
    rw [go_put (by omega) (by rw [h.dr.len]; exact a1) hg (by rw [h.dr.len]; exact g1) hs.1 hx, if_neg (fun z => by omega)]
    by_cases e : x = (r : Int) ∧ l = (c : Int) + 1
    · rw [if_pos e]
      obtain ⟨rfl, rfl⟩ := e
      have ec : (c : Int) + 1 - 1 = c := by omega
      rw [ec, ← eg]
      constructor
      · intro z; cases z; exact ⟨hg, rfl, by omega⟩
      · rintro ⟨_, z, _⟩; rw [z]
    · rw [if_neg e, h.rep x l y hx hl]
      constructor
      · rintro ⟨z1, z2, z3⟩; exact ⟨z1, z2, by omega⟩
      · rintro ⟨z1, z2, z3⟩; exact ⟨z1, z2, by omega⟩
  · refine ⟨D, if_neg (by simpa using hg), h.dr, fun x l y hx hl => ?_⟩
    rw [h.rep x l y hx hl]
    constructor
    · rintro ⟨z1, z2, z3⟩; exact ⟨z1, z2, by omega⟩
    · rintro ⟨z1, z2, z3⟩
      refine ⟨z1, z2, ?_⟩
      by_cases e : x = (r : Int) ∧ l - 1 = c
      · rw [e.1, e.2, ← eg] at z2
        omega
      · omega
theorem Lay.row {L : Int} {rows : List (List Int)} (R : Reg L rows) {r : Nat} {D : Dd} (h : Lay L rows r L.toNat D) : Lay L rows (r + 1) 0 D := by
  refine ⟨h.dr, fun x l y hx hl => ?_⟩
  rw [h.rep x l y hx hl]
  constructor
  · rintro ⟨z1, z2, z3⟩; exact ⟨z1, z2, by omega⟩
  · rintro ⟨z1, z2, z3⟩
    refine ⟨z1, z2, ?_⟩
    by_cases e : l - 1 < L.toNat
    · omega
    · have : cell rows x (l - 1) = -1 := cell_out (.inr fun r' hr' => by rw [R.rl r' (List.mem_of_getElem? hr')]; omega)
      omega
theorem Lay.all {L : Int} {rows : List (List Int)} {D : Dd} (h : Lay L rows rows.length 0 D) (x l y : Int) (hx : 0 ≤ x) (hl : 0 < l) : go D x l = some y ↔ 0 ≤ y ∧ cell rows x (l - 1) = y := by
  rw [h.rep x l y hx hl]
  constructor
  · rintro ⟨z1, z2, _⟩; exact ⟨z1, z2⟩
  · rintro ⟨z1, z2⟩
    refine ⟨z1, z2, ?_⟩
    by_cases e : x < rows.length
    · exact .inl e
    · have : cell rows x (l - 1) = -1 := cell_out (.inl (by omega))
      omega
theorem Lay.nil {L : Int} {rows : List (List Int)} : Lay L rows 0 0 (List.replicate rows.length []) := by
  have hd := Dr.nil L rows.length (D := List.replicate rows.length []) rfl
  refine ⟨hd, fun x l y hx hl => ?_⟩
  have hr : Z.row (List.replicate rows.length []) x = [] := by
    unfold Z.row
    rw [List.getD_eq_getElem?_getD, List.getElem?_replicate]
    split <;> rfl
  unfold go
  rw [hr]
  constructor
  · intro z; cases z
  · rintro ⟨_, _, z⟩; omega
end Z
namespace Z
open PySem PySem.Spec L2
end Z
namespace Z
open PySem PySem.Spec L2
end Z
namespace Z
open PySem PySem.Spec L2
theorem sum_upd {K : List Int} {h h' : Int → Int} {k c : Int} (hn : K.Nodup) (hk : k ∈ K) (he : ∀ t ∈ K, t ≠ k → h t = h' t) (hc : h k = h' k + c) : (K.map h).sum = (K.map h').sum + c := by
  induction K with
  | nil => cases hk
  | cons x K ih =>
    rw [List.nodup_cons] at hn
    rw [List.map_cons, List.map_cons, List.sum_cons, List.sum_cons]
    by_cases e : x = k
    · subst e
      have : K.map h = K.map h' := List.map_congr_left fun t ht => he t (List.mem_cons_of_mem _ ht) fun z => hn.1 (z ▸ ht)
      rw [this, hc]
      omega
    · have hk2 : k ∈ K := (List.mem_cons.mp hk).resolve_left fun z => e z.symm
      rw [ih hn.2 hk2 (fun t ht => he t (List.mem_cons_of_mem _ ht)), he x List.mem_cons_self e]
      omega
theorem sum_row {K : List Int} (hK : K.Nodup) (f : Int → Int → Int) : ∀ {d : List (Int × Int)}, (d.map Prod.fst).Nodup → (∀ k ∈ d.map Prod.fst, k ∈ K) → (d.map fun p => f p.1 p.2).sum = (K.map fun t => match dGet d t with | some b => f t b | none => 0).sum
  | [], _, _ => by
    have : (K.map fun t => match dGet ([] : List (Int × Int)) t with | some b => f t b | none => 0) = K.map fun _ => (0 : Int) := List.map_congr_left fun _ _ => rfl
    rw [this]
    have : ∀ l : List Int, (l.map fun _ => (0 : Int)).sum = 0 := fun l => by induction l with
      | nil => rfl
      | cons x l ih => rw [List.map_cons, List.sum_cons, ih]; rfl
    rw [this]
    rfl
  | p :: d, hn, hs => by
    rw [List.map_cons, List.nodup_cons] at hn
    have hp : p.1 ∈ K := hs p.1 (by rw [List.map_cons]; exact List.mem_cons_self)
    have hnone : dGet d p.1 = none := by
      cases e : dGet d p.1 with
      | none => rfl
      | some v => exact absurd (dGet_key_mem.mp (by rw [e]; rfl)) hn.1
    rw [List.map_cons, List.sum_cons, sum_row hK f hn.2 (fun k hk => hs k (by rw [List.map_cons]; exact List.mem_cons_of_mem _ hk))]
    refine (Int.add_comm _ _).trans (sum_upd hK hp (fun t _ ht => ?_) ?_).symm
    · rw [dGet_cons, if_neg (fun z => ht z.symm)]
    · rw [dGet_cons, if_pos rfl, hnone]
      show f p.1 p.2 = 0 + f p.1 p.2
      omega
/-- one step further: over all steps but the one back -/
def opA (L : Int) (D : Dd) (g : Int → Int → Int) (a s : Int) : Int := ((stL L).map fun t => match go D a t with
  | some b => if t = -s then 0 else g b t
  | none => 0).sum
def iterA (L : Int) (D : Dd) : Nat → (Int → Int → Int) → Int → Int → Int
  | 0, g => g
  | i + 1, g => opA L D (iterA L D i g)
theorem iterA_in (L : Int) (D : Dd) : ∀ (i : Nat) (g : Int → Int → Int), iterA L D i (opA L D g) = opA L D (iterA L D i g)
  | 0, _ => rfl
  | i + 1, g => by
    show opA L D (iterA L D i (opA L D g)) = _
    rw [iterA_in L D i g]
    rfl
def homeF : Int → Int → Int := fun b _ => if b = 0 then 1 else 0
theorem Dr.keys {L : Int} {n : Nat} {D : Dd} (h : Dr L n D) {a : Int} (a0 : 0 ≤ a) : ∀ k ∈ (row D a).map Prod.fst, k ∈ stL L := fun k hk => by
  obtain ⟨v, hv⟩ := Option.isSome_iff_exists.mp (dGet_key_mem.mpr hk)
  exact mem_stL.mpr (h.ok a k v a0 hv).2.2.1
def sumG (w : List ((Int × Int) × Int)) (g : Int → Int → Int) : Int := (w.map fun p => p.2 * g p.1.1 p.1.2).sum
theorem set_id {κ β : Type} [DecidableEq κ] {k : κ} {v : β} : ∀ {w : List (κ × β)}, k ∉ w.map Prod.fst → (w.map fun kv => if kv.1 = k then (kv.1, v) else kv) = w
  | [], _ => rfl
  | p :: w, h => by
    rw [List.map_cons] at h ⊢
    rw [if_neg (fun e => h (by rw [e]; exact List.mem_cons_self)), set_id fun z => h (List.mem_cons_of_mem _ z)]
theorem sumG_set {g : Int → Int → Int} {k : Int × Int} {v : Int} : ∀ {w : List ((Int × Int) × Int)}, (w.map Prod.fst).Nodup → ∀ {o}, dGet w k = some o → sumG (w.map fun kv => if kv.1 = k then (kv.1, v) else kv) g = sumG w g + (v - o) * g k.1 k.2
  | [], _, _, h => by cases h
  | p :: w, hn, o, h => by
    rw [List.map_cons, List.nodup_cons] at hn
    rw [dGet_cons] at h
    unfold sumG
    rw [List.map_cons, List.map_cons, List.map_cons, List.sum_cons, List.sum_cons]
    by_cases e : p.1 = k
    · rw [if_pos e] at h
      cases h
      rw [if_pos e, set_id (fun z => hn.1 (by rw [e]; exact z)), e, Int.sub_mul]
      show v * g k.1 k.2 + _ = _
      omega
    · rw [if_neg e] at h
      have ih := sumG_set (g := g) (v := v) hn.2 h
      unfold sumG at ih
      rw [if_neg e, ih]
      omega
theorem sumG_put {g : Int → Int → Int} {k : Int × Int} {c : Int} {w : List ((Int × Int) × Int)} (hn : (w.map Prod.fst).Nodup) : sumG (dPut w k ((dGet w k).getD 0 + c)) g = sumG w g + c * g k.1 k.2 := by
  unfold dPut
  rw [any_key]
  cases e : dGet w k with
  | none =>
    rw [if_neg (by simp)]
    unfold sumG
    rw [List.map_append, List.sum_append]
    show _ + ((0 + c) * g k.1 k.2 + 0) = _
    rw [Int.zero_add, Int.add_zero]
  | some o =>
    rw [if_pos (by simp), sumG_set hn e]
    show _ + (o + c - o) * g k.1 k.2 = _
    rw [show o + c - o = c by omega]
theorem pairs_len {α β : Type} (E : List β) : ∀ l : List α, (l.flatMap fun b => E.map fun e => (b, e)).length = l.length * E.length
  | [] => by simp
  | x :: l => by
    rw [List.flatMap_cons, List.length_append, List.length_map, pairs_len E l, List.length_cons, Nat.add_mul, Nat.one_mul]
    omega
/-- the places of such a table -/
def PlOk (n : Nat) (w : List ((Int × Int) × Int)) : Prop := (w.map Prod.fst).Nodup ∧ ∀ k ∈ w.map Prod.fst, 0 ≤ k.1 ∧ k.1 < n ∧ -4 ≤ k.2 ∧ k.2 ≤ 4
theorem PlOk.len {n : Nat} {w : List ((Int × Int) × Int)} (h : PlOk n w) : w.length ≤ n * 9 := by
  have := nodup_le (w.map Prod.fst) ((range' 0 (n : Int)).flatMap fun b => [0, 1, -1, 2, -2, 3, -3, 4, (-4 : Int)].map fun e => (b, e)) h.1 fun k hk => by
    obtain ⟨h1, h2, h3, h4⟩ := h.2 k hk
    refine List.mem_flatMap.mpr ⟨k.1, ?_, List.mem_map.mpr ⟨k.2, ?_, rfl⟩⟩
    · unfold range'
      exact List.mem_map.mpr ⟨k.1.toNat, List.mem_range.mpr (by omega), by omega⟩
    · simp only [List.mem_cons, List.not_mem_nil, or_false]
      omega
  rw [List.length_map, pairs_len, rng_len] at this
  simp only [List.length_cons, List.length_nil] at this
  omega
theorem PlOk.put {n : Nat} {w : List ((Int × Int) × Int)} (h : PlOk n w) {k : Int × Int} (v : Int) (hk : 0 ≤ k.1 ∧ k.1 < n ∧ -4 ≤ k.2 ∧ k.2 ≤ 4) : PlOk n (dPut w k v) := by
  refine ⟨dPut_nd h.1 k v, fun x hx => ?_⟩
  rw [dPut_keys] at hx
  split at hx
  · exact h.2 x hx
  · rcases List.mem_append.mp hx with hx | hx
    · exact h.2 x hx
    · rw [List.mem_singleton.mp hx]; exact hk
def P_numbers (doors_here : (List (List (Int × Int)))) (most : Int) : Option (List Int) :=
  ((rngO 0 most).bind fun t2 => ((lp (fun (s3 : ((List ((Int × Int) × Int)) × (List Int))) (length4 : Int) => ((lp (fun (s8 : (List ((Int × Int) × Int))) (x9 : (Int × Int)) => ((idx doors_here x9.1).bind fun t13 => ((lp (fun (s14 : (List ((Int × Int) × Int))) (step15 : Int) => ((if (!decide (step15 = (-x9.2))) = true then ((idx doors_here x9.1).bind fun t19 => (dGet t19 step15).bind fun t20 => ((dGet s3.1 (x9.1, x9.2)).bind fun t21 => (dPutO s14 (t20, step15) (((dGet s14 (t20, step15)).getD 0) + t21)).bind fun t22 => some t22)) else some s14 : Option (List ((Int × Int) × Int))).bind fun s23 => some s23)) (List.map Prod.fst t13) s8).bind fun f16 => some f16))) (List.map Prod.fst s3.1) ([] : (List ((Int × Int) × Int)))).bind fun f10 => ((lcG (β := Int) (fun (place27 : (Int × Int)) => if (decide (place27.1 = 0)) = true then ((dGet f10 place27).bind fun t29 => some (some t29)) else some none) (List.map Prod.fst f10)).bind fun t30 => (appO s3.2 t30.sum).bind fun t31 => some (f10, t31)))) t2 ([((0, 0), 1)], [1])).bind fun f5 => some f5.2))
def numA (L : Int) (D : Dd) (j : Nat) : Int := iterA L D j homeF 0 0
theorem inner_ok {L : Int} {n : Nat} {D : Dd} (h : Dr L n D) (h4 : L ≤ 4) (hn : n ≤ 1000) {T : List ((Int × Int) × Int)} {a s c : Int} (a0 : 0 ≤ a) (a1 : a < n) (hT : dGet T (a, s) = some c) : ∀ (ks : List Int) (w : List ((Int × Int) × Int)), PlOk n w → (∀ t ∈ ks, (go D a t).isSome = true) →
    ∃ w', lp (fun (s14 : (List ((Int × Int) × Int))) (step15 : Int) => ((if (!decide (step15 = (-s))) = true then ((idx D a).bind fun t19 => (dGet t19 step15).bind fun t20 => ((dGet T (a, s)).bind fun t21 => (dPutO s14 (t20, step15) (((dGet s14 (t20, step15)).getD 0) + t21)).bind fun t22 => some t22)) else some s14 : Option (List ((Int × Int) × Int))).bind fun s23 => some s23)) ks w = some w' ∧ PlOk n w' ∧ ∀ g, sumG w' g = sumG w g + c * (ks.map fun t => match go D a t with | some b => if t = -s then 0 else g b t | none => 0).sum
  | [], w, hw, _ => ⟨w, rfl, hw, fun g => by show sumG w g = sumG w g + c * 0; omega⟩
  | t :: ks, w, hw, hk => by
    obtain ⟨b, hb⟩ := Option.isSome_iff_exists.mp (hk t List.mem_cons_self)
    obtain ⟨b0, b1, hs, _⟩ := h.ok a t b a0 hb
    have h4' := hs.mono h4
    unfold lp
    by_cases e : t = -s
    · obtain ⟨w', e1, h1, h2⟩ := inner_ok h h4 hn a0 a1 hT ks w hw (fun u hu => hk u (List.mem_cons_of_mem _ hu))
      refine ⟨w', bindS (bindS (if_neg (by simp [e])) rfl) e1, h1, fun g => ?_⟩
      rw [h2 g, List.map_cons, List.sum_cons, hb]
      show _ = sumG w g + c * ((if t = -s then 0 else g b t) + _)
      rw [if_pos e, Int.zero_add]
    · have hw2 : PlOk n (dPut w (b, t) ((dGet w (b, t)).getD 0 + c)) := hw.put _ ⟨b0, b1, h4'.2.1, h4'.2.2⟩
      obtain ⟨w', e1, h1, h2⟩ := inner_ok h h4 hn a0 a1 hT ks _ hw2 (fun u hu => hk u (List.mem_cons_of_mem _ hu))
      have hl := hw.len
      refine ⟨w', bindS (bindS ((if_pos (by simp [e])).trans (bindS (idx_row a0 (by rw [h.len]; exact a1)) (bindS hb (bindS hT (bindS (putO_ok (by rw [sizeL]; omega)) rfl))))) rfl) e1, h1, fun g => ?_⟩
      rw [h2 g, sumG_put hw.1, List.map_cons, List.sum_cons, hb]
      show sumG w g + c * g b t + _ = sumG w g + c * ((if t = -s then 0 else g b t) + _)
      rw [if_neg e, Int.mul_add]
      omega
theorem opA_keys {L : Int} {n : Nat} {D : Dd} (h : Dr L n D) (h1 : 1 ≤ L) (h4 : L ≤ 4) {a s : Int} (a0 : 0 ≤ a) (g : Int → Int → Int) : (((row D a).map Prod.fst).map fun t => match go D a t with | some b => if t = -s then 0 else g b t | none => 0).sum = opA L D g a s := by
  have hn := h.rowok a0
  unfold opA
  have := sum_row (stL_nd h1 h4) (fun t b => if t = -s then 0 else g b t) hn (h.keys a0)
  rw [List.map_map]
  refine Eq.trans (congrArg List.sum (List.map_congr_left fun p hp => ?_)) this
  show (match go D a p.1 with | some b => if p.1 = -s then 0 else g b p.1 | none => 0) = _
  have : go D a p.1 = some p.2 := mem_dGet hn hp
  rw [this]
theorem home_sum {n : Nat} {w : List ((Int × Int) × Int)} (hw : PlOk n w) : ∀ (v : List ((Int × Int) × Int)), (∀ p ∈ v, p ∈ w) → ∃ u, mapG (fun (place27 : (Int × Int)) => if (decide (place27.1 = 0)) = true then ((dGet w place27).bind fun t29 => some (some t29)) else some none) (List.map Prod.fst v) = some u ∧ u.sum = sumG v homeF
  | [], _ => ⟨[], rfl, rfl⟩
  | p :: v, h => by
    obtain ⟨u, e, q⟩ := home_sum hw v fun x hx => h x (List.mem_cons_of_mem _ hx)
    have hp : dGet w p.1 = some p.2 := mem_dGet hw.1 (h p List.mem_cons_self)
    unfold sumG at q ⊢
    rw [List.map_cons, List.map_cons, List.sum_cons]
    unfold mapG
    by_cases hz : p.1.1 = 0
    · refine ⟨p.2 :: u, bindS (a := some p.2) ((if_pos (decide_eq_true hz)).trans (bindS hp rfl)) (bindS e rfl), ?_⟩
      rw [List.sum_cons, q]
      unfold homeF
      rw [if_pos hz, Int.mul_one]
    · refine ⟨u, bindS (a := none) (if_neg (by simpa using hz)) (bindS e rfl), ?_⟩
      rw [q]
      unfold homeF
      rw [if_neg hz, Int.mul_zero, Int.zero_add]
theorem numbers_ok {L : Int} {n : Nat} {D : Dd} (h : Dr L n D) (h1 : 1 ≤ L) (h4 : L ≤ 4) (n1 : 1 ≤ n) (hn : n ≤ 1000) {most : Int} (m0 : 0 ≤ most) (m1 : most ≤ 100000) : P_numbers D most = some ((List.range (most.toNat + 1)).map (numA L D)) := by
  have key : ∃ r, P_numbers D most = some r ∧ r = (List.range (most.toNat + 1)).map (numA L D) := by
    unfold P_numbers
    have hlr : (range' 0 most).length = most.toNat := by rw [rng_len, Int.sub_zero]
    refine bndX (rngO_ok (by omega)) (lpX (fun i (s : (List ((Int × Int) × Int)) × (List Int)) => PlOk n s.1 ∧ (∀ g, sumG s.1 g = iterA L D i g 0 0) ∧ s.2 = (List.range (i + 1)).map (numA L D)) ⟨⟨by simp, fun k hk => ?_⟩, fun g => ?_, rfl⟩ (fun i x s hx hs => ?_) (fun s hs => ⟨_, rfl, by rw [hs.2.2, hlr]⟩))
    · rw [List.mem_singleton.mp hk]
      exact ⟨by decide, by show (0 : Int) < n; omega, by decide, by decide⟩
    · show 1 * g 0 0 + 0 = g 0 0
      omega
    · have hi : i < most.toNat := by
        have := (List.getElem?_eq_some_iff.mp hx).1
        omega
      obtain ⟨T, f⟩ := s
      obtain ⟨g1, g2, g3⟩ := hs
      have g1 : PlOk n T := g1
      have g2 : ∀ g, sumG T g = iterA L D i g 0 0 := g2
      have g3 : f = (List.range (i + 1)).map (numA L D) := g3
      obtain ⟨w, ew, hw1, hw2⟩ := lp_goN (xs := List.map Prod.fst T) (f := (fun (s8 : (List ((Int × Int) × Int))) (x9 : (Int × Int)) => ((idx D x9.1).bind fun t13 => ((lp (fun (s14 : (List ((Int × Int) × Int))) (step15 : Int) => ((if (!decide (step15 = (-x9.2))) = true then ((idx D x9.1).bind fun t19 => (dGet t19 step15).bind fun t20 => ((dGet T (x9.1, x9.2)).bind fun t21 => (dPutO s14 (t20, step15) (((dGet s14 (t20, step15)).getD 0) + t21)).bind fun t22 => some t22)) else some s14 : Option (List ((Int × Int) × Int))).bind fun s23 => some s23)) (List.map Prod.fst t13) s8).bind fun f16 => some f16)))) (fun j w => PlOk n w ∧ ∀ g, sumG w g = sumG (T.take j) (opA L D g)) (fun j x w hx hw => by
        rw [List.getElem?_map] at hx
        cases hp : T[j]? with
        | none => rw [hp] at hx; cases hx
        | some p =>
          rw [hp] at hx
          have hx : p.1 = x := Option.some.inj hx
          subst hx
          have hm := List.mem_of_getElem? hp
          have hk := g1.2 p.1 (List.mem_map.mpr ⟨p, hm, rfl⟩)
          have hT : dGet T (p.1.1, p.1.2) = some p.2 := mem_dGet g1.1 hm
          obtain ⟨w', e, q1, q2⟩ := inner_ok h h4 hn hk.1 hk.2.1 hT ((row D p.1.1).map Prod.fst) w hw.1 (fun t ht => dGet_key_mem.mpr ht)
          refine ⟨w', bindS (idx_row hk.1 (by rw [h.len]; exact hk.2.1)) (bindS e rfl), q1, fun g => ?_⟩
          rw [q2 g, opA_keys h h1 h4 hk.1, hw.2 g, List.take_succ, hp]
          unfold sumG
          rw [List.map_append, List.sum_append]
          show _ = _ + (p.2 * opA L D g p.1.1 p.1.2 + 0)
          rw [Int.add_zero]) (s0 := []) ⟨⟨List.nodup_nil, fun _ hk => by cases hk⟩, fun g => rfl⟩
      rw [List.length_map, List.take_length] at hw2
      have hl := hw1.len
      obtain ⟨u, eu, qu⟩ := home_sum hw1 w fun _ hp => hp
      refine ⟨_, bindS ew (bindS (show lcG _ _ = some u from (if_pos (by rw [List.length_map, sizeL]; omega)).trans eu) (bindS (app_ok (by show f.length < _; rw [g3, List.length_map, List.length_range, sizeL]; omega)) rfl)), hw1, fun g => ?_, ?_⟩
      · show sumG w g = iterA L D (i + 1) g 0 0
        rw [hw2 g, g2, iterA_in]
        rfl
      · show f ++ [u.sum] = _
        rw [qu, hw2, g2, g3, List.range_succ (n := i + 1), List.map_append]
        refine congrArg (fun z => _ ++ [z]) ?_
        rw [iterA_in]
        rfl
  obtain ⟨r, e, rfl⟩ := key
  exact e
end Z
namespace Z
open PySem PySem.Spec L2
end Z
namespace Z
open PySem PySem.Spec L2
/-- the steps that may be gone, in their order, and whither -/
def ext (L : Int) (D : Dd) (a s : Int) : List (Int × Int) := (stL L).filterMap fun t => if t = -s then none else (go D a t).map fun b => (t, b)
end Z
namespace Z
open PySem PySem.Spec L2
def codeS (t : Int) : Int := if 0 < t then 2 * t - 2 else -2 * t - 1
def keyW (w : List Int) : Int × List Int := ((w.length : Int), w.map codeS)
/-- earlier in the order -/
def klt (u v : List Int) : Bool := ltP2 ltI (ltL ltI) (keyW u) (keyW v)
def clt (u v : List Int) : Bool := ltL ltI (u.map codeS) (v.map codeS)
theorem clt_cons (s t : Int) (u v : List Int) : clt (s :: u) (t :: v) = if codeS s = codeS t then clt u v else decide (codeS s < codeS t) := rfl
theorem klt_same {u v : List Int} (h : u.length = v.length) : klt u v = clt u v := by
  unfold klt ltP2 keyW
  rw [if_pos (by rw [h])]
  rfl
theorem klt_len {u v : List Int} (h : u.length ≠ v.length) : klt u v = decide (u.length < v.length) := by
  unfold klt ltP2 keyW
  rw [if_neg (by show ¬ ((u.length : Int) = (v.length : Int)); omega)]
  unfold ltI
  simp
theorem clt_irr : ∀ u : List Int, clt u u = false
  | [] => rfl
  | s :: u => by rw [clt_cons, if_pos rfl, clt_irr u]
/-- the room behind a walk -/
def goW (D : Dd) : Int → List Int → Option Int
  | a, [] => some a
  | a, t :: w => match go D a t with
    | some b => goW D b w
    | none => none
end Z
namespace Z
open PySem PySem.Spec L2
end Z
namespace Z
open PySem PySem.Spec L2
end Z
namespace Z
open PySem PySem.Spec L2
def rep (w : List Int) (m : Nat) : List Int := (List.replicate m w).flatten
def pr (P : List Int) (i : Int) : Int := P.getD (i % (P.length : Int)).toNat 0
def dn (P : List Int) (b : Int) (n : Nat) : List Int := (List.range n).map fun (i : Nat) => pr P (b + (i : Int))
end Z
namespace Z
open PySem PySem.Spec L2
end Z
namespace Z
open PySem PySem.Spec L2
abbrev Pc := Int × List Int
def stp (D : Dd) (p : Pc) (x : Int) : Pc := match p.2 with
  | y :: s => if y = -x then (p.1, s) else (p.1, x :: y :: s)
  | [] => match go D p.1 x with
    | some b => (b, [])
    | none => (p.1, [x])
def act (D : Dd) (p : Pc) (w : List Int) : Pc := w.foldl (stp D) p
end Z
namespace Z
open PySem PySem.Spec L2
end Z
namespace Z
open PySem PySem.Spec L2
def pk (p : Pc) : Int × List Int := (p.1, p.2.reverse)
end Z
namespace Z
open PySem PySem.Spec L2
end Z
namespace Z
open PySem PySem.Spec L2
end Z
namespace Z
open PySem PySem.Spec L2
def hel (P : Int → Bool) (most : Int) : List Int := (range' (-most) (most + 1)).filterMap fun t => if P t = true then some t else none
theorem mem_rng' {a b x : Int} : x ∈ range' a b ↔ a ≤ x ∧ x < b := by
  refine ⟨mem_rng, fun h => ?_⟩
  unfold range'
  exact List.mem_map.mpr ⟨(x - a).toNat, List.mem_range.mpr (by omega), by omega⟩
def Fw (L : Int) (n : Nat) (ws : List (Int × List Int)) (o : List Int) : Prop := (∀ g, (dGet ws g).isSome = true ↔ g ∈ o) ∧ ws.length ≤ o.length ∧ ∀ g w, dGet ws g = some w → (∀ x ∈ w, Sok L x) ∧ w.length ≤ n
theorem Fw.mono {L : Int} {n m : Nat} {ws : List (Int × List Int)} {o : List Int} (h : Fw L n ws o) (k : n ≤ m) : Fw L m ws o := ⟨h.1, h.2.1, fun g w e => ⟨(h.2.2 g w e).1, Nat.le_trans (h.2.2 g w e).2 k⟩⟩
end Z
namespace Z
open PySem PySem.Spec L2
def Q_head_of (w_heads : (List Int)) (room : Int) : Option (Int × (List Int)) :=
  ((wh (fun (s1 : Int) => ((idx w_heads s1).bind fun t3 => some (!decide (t3 = s1)))) (fun (s1 : Int) => (((idx w_heads s1).bind fun t6 => some (Step.go t6)) : Option (Step (Int × (List Int)) Int))) 10000 room).bind fun f2o => Sum.elim (fun r7 => none) (fun f2 => some (f2, w_heads)) f2o)
def Q_laid (w_doors : (List (List (Int × Int)))) (w_joins : (List (Int × Int))) (room : Int) (step : Int) (goal : Int) : Option (Unit × (List (List (Int × Int))) × (List (Int × Int))) :=
  ((idx w_doors room).bind fun t2 => ((if (dGet t2 step).isSome = true then ((idx w_doors room).bind fun t3 => (dGet t3 step).bind fun t4 => (appO w_joins (t4, goal)).bind fun t5 => some (w_doors, t5)) else ((idx w_doors room).bind fun t6 => (dPutO t6 step goal).bind fun t7 => some ((setI w_doors room t7), w_joins)) : Option ((List (List (Int × Int))) × (List (Int × Int)))).bind fun s8 => some ((), s8.1, s8.2)))
def Q_settled (w_heads : (List Int)) (w_doors : (List (List (Int × Int)))) (w_joins : (List (Int × Int))) : Option (Unit × (List Int) × (List (List (Int × Int))) × (List (Int × Int))) :=
  ((wh (fun (s2 : ((List Int) × (List (List (Int × Int))) × (List (Int × Int)))) => some (decide (0 < (s2.2.2.length : Int)))) (fun (s2 : ((List Int) × (List (List (Int × Int))) × (List (Int × Int)))) => (((popO s2.2.2).bind fun t7 => ((Q_head_of s2.1 t7.1.1).bind fun t8 => (Q_head_of t8.2 t7.1.2).bind fun t9 => ((if (!decide (t8.1 = t9.1)) = true then ((setO t9.2 (maxI t8.1 t9.1) (minI t8.1 t9.1)).bind fun t10 => ((idx s2.2.1 (maxI t8.1 t9.1)).bind fun t11 => (idx s2.2.1 (maxI t8.1 t9.1)).bind fun t12 => ((lp (fun (s13 : ((List (List (Int × Int))) × (List (Int × Int)))) (x14 : (Int × Int)) => ((Q_laid s13.1 s13.2 (minI t8.1 t9.1) x14.1 x14.2).bind fun t19 => some (t19.2.1, t19.2.2))) t12 ((setI s2.2.1 (maxI t8.1 t9.1) ([] : (List (Int × Int)))), t7.2)).bind fun f15 => some (t10, f15.1, f15.2)))) else some (t9.2, s2.2.1, t7.2) : Option ((List Int) × (List (List (Int × Int))) × (List (Int × Int)))).bind fun s22 => some (Step.go (s22.1, s22.2.1, s22.2.2))))) : Option (Step (Unit × (List Int) × (List (List (Int × Int))) × (List (Int × Int))) ((List Int) × (List (List (Int × Int))) × (List (Int × Int)))))) 100000 (w_heads, w_doors, w_joins)).bind fun f3o => Sum.elim (fun r23 => none) (fun f3 => some ((), f3.1, f3.2.1, f3.2.2)) f3o)
def upH (h : List Int) (a : Int) : Int := h.getD a.toNat 0
structure Hd (m : Nat) (h : List Int) : Prop where
  len : h.length = m
  le : ∀ a : Int, 0 ≤ a → a < m → 0 ≤ upH h a ∧ upH h a ≤ a
def hdN (h : List Int) : Nat → Int → Int
  | 0, a => a
  | n + 1, a => if upH h a = a then a else hdN h n (upH h a)
def hd (h : List Int) (a : Int) : Int := hdN h (a.toNat + 1) a
theorem hdN_eq {m : Nat} {h : List Int} (H : Hd m h) : ∀ (n k : Nat) (a : Int), 0 ≤ a → a < m → a.toNat < n → a.toNat < k → hdN h n a = hdN h k a
  | 0, _, a, _, _, z, _ => absurd z (Nat.not_lt_zero _)
  | _ + 1, 0, a, _, _, _, z => absurd z (Nat.not_lt_zero _)
  | n + 1, k + 1, a, a0, a1, hn, hk => by
    unfold hdN
    by_cases e : upH h a = a
    · rw [if_pos e, if_pos e]
    · rw [if_neg e, if_neg e]
      obtain ⟨u0, u1⟩ := H.le a a0 a1
      exact hdN_eq H n k _ u0 (by omega) (by omega) (by omega)
section
variable {m : Nat} {h : List Int} (H : Hd m h)
include H
theorem hd_root {a : Int} (e : upH h a = a) : hd h a = a := by
  unfold hd hdN
  rw [if_pos e]
theorem hd_up {a : Int} (a0 : 0 ≤ a) (a1 : a < m) : hd h (upH h a) = hd h a := by
  by_cases e : upH h a = a
  · rw [e]
  · obtain ⟨u0, u1⟩ := H.le a a0 a1
    have : hd h a = hdN h a.toNat (upH h a) := by
      show (if upH h a = a then a else hdN h a.toNat (upH h a)) = _
      rw [if_neg e]
    rw [this]
    exact hdN_eq H _ _ _ u0 (by omega) (by omega) (by omega)
theorem hd_in : ∀ (n : Nat) {a : Int}, a.toNat < n → 0 ≤ a → a < m → 0 ≤ hd h a ∧ hd h a ≤ a ∧ upH h (hd h a) = hd h a
  | 0, a, z, _, _ => absurd z (Nat.not_lt_zero _)
  | n + 1, a, hn, a0, a1 => by
    by_cases e : upH h a = a
    · rw [hd_root H e]
      exact ⟨a0, Int.le_refl _, e⟩
    · obtain ⟨u0, u1⟩ := H.le a a0 a1
      obtain ⟨i0, i1, i2⟩ := hd_in n (a := upH h a) (by omega) u0 (by omega)
      rw [hd_up H a0 a1] at i0 i1 i2
      exact ⟨i0, by omega, i2⟩
theorem hd_le {a : Int} (a0 : 0 ≤ a) (a1 : a < m) : 0 ≤ hd h a ∧ hd h a ≤ a := ⟨(hd_in H _ (Nat.lt_succ_self _) a0 a1).1, (hd_in H _ (Nat.lt_succ_self _) a0 a1).2.1⟩
theorem hd_fix {a : Int} (a0 : 0 ≤ a) (a1 : a < m) : upH h (hd h a) = hd h a := (hd_in H _ (Nat.lt_succ_self _) a0 a1).2.2
theorem hd_hd {a : Int} (a0 : 0 ≤ a) (a1 : a < m) : hd h (hd h a) = hd h a := hd_root H (hd_fix H a0 a1)
theorem up_idx {a : Int} (a0 : 0 ≤ a) (a1 : a < m) : idx h a = some (upH h a) := by
  refine idx_of a0 ?_
  have : a.toNat < h.length := by rw [H.len]; omega
  unfold upH
  rw [List.getD_eq_getElem?_getD, List.getElem?_eq_getElem this]
  rfl
theorem head_of_ok (hm : m ≤ 3999) {a : Int} (a0 : 0 ≤ a) (a1 : a < m) : Q_head_of h a = some (hd h a, h) := by
  unfold Q_head_of
  obtain ⟨r, e, hr⟩ := whX (R := Int × List Int) (S := Int) (c := fun (s1 : Int) => ((idx h s1).bind fun t3 => some (!decide (t3 = s1)))) (f := fun (s1 : Int) => (((idx h s1).bind fun t6 => some (Step.go t6)) : Option (Step (Int × (List Int)) Int)))
    (k := fun f2o => Sum.elim (fun r7 => none) (fun f2 => some (f2, h)) f2o) (Q := fun r => r = (hd h a, h)) (n := 10000) (s0 := a) (fun s => 0 ≤ s ∧ s < m ∧ hd h s = hd h a) (fun s => s.toNat) ⟨a0, a1, rfl⟩ (by omega) (fun s ⟨s0, s1, e⟩ => by
      show ((idx h s).bind fun t3 => some (!decide (t3 = s))) = some false ∨ ((idx h s).bind fun t3 => some (!decide (t3 = s))) = some true ∧ ∃ s', ((idx h s).bind fun t6 => some (Step.go t6)) = some (Step.go s') ∧ _
      rw [up_idx H s0 s1]
      show some (!decide (upH h s = s)) = some false ∨ some (!decide (upH h s = s)) = some true ∧ ∃ s', some (Step.go (upH h s)) = some (Step.go s') ∧ _
      by_cases z : upH h s = s
      · exact .inl (by simp [z])
      · obtain ⟨u0, u1⟩ := H.le s s0 s1
        exact .inr ⟨by simp [z], _, rfl, ⟨u0, by omega, (hd_up H s0 s1).trans e⟩, by omega⟩) (fun s ⟨s0, s1, e⟩ hc => by
      replace hc : ((idx h s).bind fun t3 => some (!decide (t3 = s))) = some false := hc
      rw [up_idx H s0 s1] at hc
      have hc : some (!decide (upH h s = s)) = some false := hc
      have z : upH h s = s := by simpa using hc
      exact ⟨_, rfl, by rw [← e, hd_root H z]⟩)
  rw [e, hr]
end
section
variable {m : Nat} {h : List Int} (H : Hd m h) {g k : Int} (g0 : 0 ≤ g) (g1 : g < m) (k0 : 0 ≤ k) (kg : k < g) (eg : upH h g = g) (ek : upH h k = k)
include H g0 g1 k0 kg
theorem up_set {a : Int} (a0 : 0 ≤ a) : upH (h.set g.toNat k) a = if a = g then k else upH h a := by
  unfold upH
  rw [getD_set' h g.toNat a.toNat k 0 (by rw [H.len]; omega)]
  by_cases e : a = g
  · rw [if_pos (by omega), if_pos e]
  · rw [if_neg (by omega), if_neg e]
theorem Hd.set : Hd m (h.set g.toNat k) := ⟨by rw [List.length_set]; exact H.len, fun a a0 a1 => by
  rw [up_set H g0 g1 k0 kg a0]
  split
  · omega
  · exact H.le a a0 a1⟩
include eg ek
theorem hd_set : ∀ (n : Nat) {a : Int}, a.toNat < n → 0 ≤ a → a < m → hd (h.set g.toNat k) a = if hd h a = g then k else hd h a
  | 0, a, z, _, _ => absurd z (Nat.not_lt_zero _)
  | n + 1, a, hn, a0, a1 => by
    have H2 := Hd.set H g0 g1 k0 kg
    have hk : hd (h.set g.toNat k) k = k := hd_root H2 (by rw [up_set H g0 g1 k0 kg k0, if_neg (by omega), ek])
    by_cases e : a = g
    · subst e
      have := hd_up H2 a0 a1
      rw [up_set H g0 g1 k0 kg a0, if_pos rfl, hk] at this
      rw [← this, hd_root H eg, if_pos rfl]
    · have u2 : upH (h.set g.toNat k) a = upH h a := by rw [up_set H g0 g1 k0 kg a0, if_neg e]
      by_cases z : upH h a = a
      · rw [hd_root H2 (u2.trans z), hd_root H z, if_neg e]
      · obtain ⟨w0, w1⟩ := H.le a a0 a1
        have := hd_set n (a := upH h a) (by omega) w0 (by omega)
        rw [hd_up H a0 a1] at this
        rw [← this, ← u2, hd_up H2 a0 a1]
theorem hd_merge {a : Int} (a0 : 0 ≤ a) (a1 : a < m) : hd (h.set g.toNat k) a = if hd h a = g then k else hd h a := hd_set H g0 g1 k0 kg eg ek _ (Nat.lt_succ_self _) a0 a1
end
/-- one and the same behind all joinings that are noted -/
def Cl2 (m : Nat) (h : List Int) (J : List (Int × Int)) (x y : Int) : Prop := ∀ E : Int → Int → Prop, Equivalence E → (∀ a : Int, 0 ≤ a → a < m → E a (hd h a)) → (∀ p ∈ J, E p.1 p.2) → E x y
theorem Cl2.refl {m : Nat} {h : List Int} {J : List (Int × Int)} (x : Int) : Cl2 m h J x x := fun E e _ _ => e.refl x
theorem Cl2.trans {m : Nat} {h : List Int} {J : List (Int × Int)} {x y z : Int} (a : Cl2 m h J x y) (b : Cl2 m h J y z) : Cl2 m h J x z := fun E e u v => e.trans (a E e u v) (b E e u v)
theorem Cl2.mono {m : Nat} {h : List Int} {J J' : List (Int × Int)} {x y : Int} (a : Cl2 m h J x y) (hj : ∀ p ∈ J, p ∈ J') : Cl2 m h J' x y := fun E e u v => a E e u fun p hp => v p (hj p hp)
/-- folding by equivalence classes -/
def Closed (Wy : Int → Int → Int → Prop) (E : Int → Int → Prop) : Prop := ∀ a a' s b b', Wy a s b → Wy a' s b' → E a a' → E b b'
structure Fo (L : Int) (m : Nat) (Wy dn : Int → Int → Int → Prop) (h : List Int) (D : Dd) (J : List (Int × Int)) (P : List (Int × Int × Int)) : Prop where
  hh : Hd m h
  len : D.length = m
  nd : ∀ d ∈ D, (d.map Prod.fst).Nodup
  sd : ∀ r s g, 0 ≤ r → go D r s = some g → ∃ a, Wy a s g ∧ hd h a = r
  sp : ∀ q ∈ P, ∃ a, Wy a q.2.1 q.2.2 ∧ hd h a = q.1
  rt : ∀ a s b, dn a s b → (∃ x, go D (hd h a) s = some x ∧ Cl2 m h J x b) ∨ ∃ x, (hd h a, s, x) ∈ P ∧ Cl2 m h J x b
  ej : ∀ p ∈ J, 0 ≤ p.1 ∧ p.1 < m ∧ 0 ≤ p.2 ∧ p.2 < m
  le : ∀ E : Int → Int → Prop, Equivalence E → Closed Wy E → (∀ a : Int, 0 ≤ a → a < m → E a (hd h a)) ∧ ∀ p ∈ J, E p.1 p.2
  dw : ∀ a s b, dn a s b → Wy a s b
structure WyB (L : Int) (m : Nat) (Wy : Int → Int → Int → Prop) : Prop where
  bd : ∀ a s b, Wy a s b → 0 ≤ a ∧ a < m ∧ 0 ≤ b ∧ b < m ∧ Sok L s
  sy : ∀ a s b, Wy a s b → Wy b (-s) a
section
variable {L : Int} {m : Nat} {Wy dn : Int → Int → Int → Prop} (B : WyB L m Wy) (h4 : L ≤ 4) (hm : m ≤ 3999)
include B h4
theorem Fo.small {h : List Int} {D : Dd} {J : List (Int × Int)} {P : List (Int × Int × Int)} (I : Fo L m Wy dn h D J P) {a : Int} (a0 : 0 ≤ a) : (row D a).length ≤ 8 := by
  by_cases a1 : a < D.length
  · refine small_of (I.nd _ (row_mem a0 a1)) fun k v e => ?_
    obtain ⟨b, w, _⟩ := I.sd a k v a0 e
    have := (B.bd b k v w).2.2.2.2
    unfold Sok at this ⊢
    omega
  · have : row D a = [] := by
      unfold row
      rw [List.getD_eq_getElem?_getD, List.getElem?_eq_none (by omega)]
      rfl
    rw [this]
    decide
/-- one door is laid -/
theorem lay_ok {h : List Int} {D : Dd} {J : List (Int × Int)} {q : Int × Int × Int} {P : List (Int × Int × Int)} (I : Fo L m Wy dn h D J (q :: P)) (hJ : J.length < 10000000) :
    ∃ D' J', Q_laid D J q.1 q.2.1 q.2.2 = some ((), D', J') ∧ Fo L m Wy dn h D' J' P ∧ J'.length ≤ J.length + 1 := by
  obtain ⟨r, s, g⟩ := q
  obtain ⟨a, wa, ea⟩ := I.sp (r, s, g) List.mem_cons_self
  have wa : Wy a s g := wa
  have ea : hd h a = r := ea
  obtain ⟨a0, a1, g0, g1, ks⟩ := B.bd a s g wa
  have hr := hd_le I.hh a0 a1
  rw [ea] at hr
  have r0 : 0 ≤ r := hr.1
  have r1 : r < m := by omega
  have r2 : r < D.length := by rw [I.len]; exact r1
  have hz := I.small B h4 r0
  unfold Q_laid
  show ∃ D' J', ((idx D r).bind _) = _ ∧ _
  rw [idx_row r0 r2]
  show ∃ D' J', ((if (dGet (row D r) s).isSome = true then _ else _ : Option (Dd × List (Int × Int))).bind _) = _ ∧ _
  cases e : dGet (row D r) s with
  | some x =>
    have hx : go D r s = some x := e
    obtain ⟨b, wb, eb⟩ := I.sd r s x r0 hx
    obtain ⟨b0, b1, x0, x1, _⟩ := B.bd b s x wb
    refine ⟨D, J ++ [(x, g)], ?_, ⟨I.hh, I.len, I.nd, I.sd, fun q hq => I.sp q (List.mem_cons_of_mem _ hq), fun a' s' b' hd' => ?_, fun p hp => ?_, fun E eq cl => ?_, I.dw⟩, by rw [List.length_append]; exact Nat.le_refl _⟩
    · exact bindS (a := (D, J ++ [(x, g)])) ((if_pos rfl).trans (bindS rfl (bindS e (bindS (if_pos (by rw [sizeL]; omega)) rfl)))) rfl
    · rcases I.rt a' s' b' hd' with ⟨y, h1, h2⟩ | ⟨y, h1, h2⟩
      · exact .inl ⟨y, h1, h2.mono fun p hp => List.mem_append_left _ hp⟩
      · rcases List.mem_cons.mp h1 with h1 | h1
        · cases h1
          refine .inl ⟨x, hx, Cl2.trans (fun E _ _ v => v (x, _) (List.mem_append_right _ List.mem_cons_self)) (h2.mono fun p hp => List.mem_append_left _ hp)⟩
        · exact .inr ⟨y, h1, h2.mono fun p hp => List.mem_append_left _ hp⟩
    · rcases List.mem_append.mp hp with hp | hp
      · exact I.ej p hp
      · rw [List.mem_singleton.mp hp]
        exact ⟨x0, x1, g0, g1⟩
    · obtain ⟨l1, l2⟩ := I.le E eq cl
      refine ⟨l1, fun p hp => ?_⟩
      rcases List.mem_append.mp hp with hp | hp
      · exact l2 p hp
      · rw [List.mem_singleton.mp hp]
        have e1 := l1 a a0 a1
        have e2 := l1 b b0 b1
        rw [ea] at e1
        rw [eb] at e2
        exact cl b a s x g wb wa (eq.trans e2 (eq.symm e1))
  | none =>
    have hx : go D r s = none := e
    have gp : ∀ x t, 0 ≤ x → go (setI D r (dPut (row D r) s g)) x t = if r = x ∧ s = t then some g else go D x t := fun x t x0 => by
      rw [go_set r0 r2 x0, dGet_put]
      by_cases h1 : r = x
      · subst h1
        by_cases h2 : s = t
        · rw [if_pos rfl, if_pos h2, if_pos ⟨rfl, h2⟩]
        · rw [if_pos rfl, if_neg h2, if_neg (fun z => h2 z.2)]
          rfl
      · rw [if_neg h1, if_neg (fun z => h1 z.1)]
    refine ⟨setI D r (dPut (row D r) s g), J, ?_, ⟨I.hh, (setI_len _ _ _).trans I.len, ?_, fun x t y x0 hy => ?_, fun q hq => I.sp q (List.mem_cons_of_mem _ hq), fun a' s' b' hd' => ?_, I.ej, I.le, I.dw⟩, Nat.le_succ _⟩
    · exact bindS (a := (setI D r (dPut (row D r) s g), J)) ((if_neg (by simp)).trans (bindS rfl (bindS (putO_ok (by rw [sizeL]; omega)) rfl))) rfl
    · intro d hd
      rw [setI_nn r0 r2] at hd
      rcases List.mem_or_eq_of_mem_set hd with hd | hd
      · exact I.nd d hd
      · rw [hd]
        exact dPut_nd (I.nd _ (row_mem r0 r2)) s g
    · rw [gp x t x0] at hy
      split at hy
      · rename_i hh
        cases hy
        obtain ⟨rfl, rfl⟩ := hh
        exact ⟨a, wa, ea⟩
      · exact I.sd x t y x0 hy
    · rcases I.rt a' s' b' hd' with ⟨y, h1, h2⟩ | ⟨y, h1, h2⟩
      · refine .inl ⟨y, ?_, h2⟩
        obtain ⟨q0, q1, _⟩ := B.bd a' s' b' (I.dw a' s' b' hd')
        rw [gp _ _ (hd_le I.hh q0 q1).1, if_neg (fun z => by rw [← z.1, ← z.2, hx] at h1; cases h1)]
        exact h1
      · rcases List.mem_cons.mp h1 with h1 | h1
        · cases h1
          exact .inl ⟨_, by rw [gp _ _ r0, if_pos ⟨rfl, rfl⟩], h2⟩
        · exact .inr ⟨y, h1, h2⟩
end
def rcH (m : Nat) (h : List Int) : Nat := ((range' 0 (m : Int)).filter fun a => decide (upH h a = a)).length
theorem flt_le {α : Type} {p q : α → Bool} : ∀ {l : List α}, (∀ x ∈ l, p x = true → q x = true) → (l.filter p).length ≤ (l.filter q).length
  | [], _ => Nat.le_refl _
  | x :: l, h => by
    have ih := flt_le (p := p) (q := q) (l := l) fun y hy => h y (List.mem_cons_of_mem _ hy)
    rw [List.filter_cons, List.filter_cons]
    cases e : p x with
    | true =>
      rw [h x List.mem_cons_self e]
      simp only [if_true, List.length_cons]
      omega
    | false =>
      cases e2 : q x <;> simp only [Bool.false_eq_true, if_false, if_true, List.length_cons] <;> omega
theorem flt_lt {α : Type} {p q : α → Bool} {g : α} : ∀ {l : List α}, (∀ x ∈ l, p x = true → q x = true) → g ∈ l → p g = false → q g = true → (l.filter p).length < (l.filter q).length
  | [], _, hg, _, _ => nomatch hg
  | x :: l, h, hg, hp, hq => by
    have ih := fun hg => flt_lt (p := p) (q := q) (g := g) (l := l) (fun y hy => h y (List.mem_cons_of_mem _ hy)) hg hp hq
    have il := flt_le (p := p) (q := q) (l := l) fun y hy => h y (List.mem_cons_of_mem _ hy)
    rw [List.filter_cons, List.filter_cons]
    rcases List.mem_cons.mp hg with e | hg
    · rw [← e, hp, hq]
      simp only [Bool.false_eq_true, if_false, if_true, List.length_cons]
      omega
    · have := ih hg
      cases e : p x with
      | true =>
        rw [h x List.mem_cons_self e]
        simp only [if_true, List.length_cons]
        omega
      | false => cases e2 : q x <;> simp only [Bool.false_eq_true, if_false, if_true, List.length_cons] <;> omega
theorem rcH_set {m : Nat} {h : List Int} (H : Hd m h) {g k : Int} (g0 : 0 ≤ g) (g1 : g < m) (k0 : 0 ≤ k) (kg : k < g) (eg : upH h g = g) : rcH m (h.set g.toNat k) < rcH m h := by
  refine flt_lt (g := g) (fun x hx hp => ?_) (mem_rng'.mpr ⟨g0, g1⟩) ?_ (by simp [eg])
  · obtain ⟨x0, x1⟩ := mem_rng hx
    rw [up_set H g0 g1 k0 kg x0] at hp
    by_cases e : x = g
    · rw [e]; simp [eg]
    · rw [if_neg e] at hp
      exact hp
  · rw [up_set H g0 g1 k0 kg g0, if_pos rfl]
    simp
    omega
theorem Cl2.via {m : Nat} {h h' : List Int} {J J' : List (Int × Int)} {x y : Int} (a : Cl2 m h J x y) (ha : ∀ a : Int, 0 ≤ a → a < m → Cl2 m h' J' a (hd h a)) (hj : ∀ p ∈ J, Cl2 m h' J' p.1 p.2) : Cl2 m h' J' x y := fun E eq u v =>
  a E eq (fun b b0 b1 => ha b b0 b1 E eq u v) fun p hp => hj p hp E eq u v
theorem popO_snoc {α : Type} (xs : List α) (x : α) : popO (xs ++ [x]) = some (x, xs) := by
  unfold popO
  rw [List.getLast?_concat, List.dropLast_concat]
def stF (s2 : List Int × Dd × List (Int × Int)) : Option (Step (Unit × List Int × Dd × List (Int × Int)) (List Int × Dd × List (Int × Int))) := (((popO s2.2.2).bind fun t7 => ((Q_head_of s2.1 t7.1.1).bind fun t8 => (Q_head_of t8.2 t7.1.2).bind fun t9 => ((if (!decide (t8.1 = t9.1)) = true then ((setO t9.2 (maxI t8.1 t9.1) (minI t8.1 t9.1)).bind fun t10 => ((idx s2.2.1 (maxI t8.1 t9.1)).bind fun t11 => (idx s2.2.1 (maxI t8.1 t9.1)).bind fun t12 => ((lp (fun (s13 : ((List (List (Int × Int))) × (List (Int × Int)))) (x14 : (Int × Int)) => ((Q_laid s13.1 s13.2 (minI t8.1 t9.1) x14.1 x14.2).bind fun t19 => some (t19.2.1, t19.2.2))) t12 ((setI s2.2.1 (maxI t8.1 t9.1) ([] : (List (Int × Int)))), t7.2)).bind fun f15 => some (t10, f15.1, f15.2)))) else some (t9.2, s2.2.1, t7.2) : Option ((List Int) × (List (List (Int × Int))) × (List (Int × Int)))).bind fun s22 => some (Step.go (s22.1, s22.2.1, s22.2.2))))))
section
variable {L : Int} {m : Nat} {Wy dn : Int → Int → Int → Prop} (B : WyB L m Wy) (h4 : L ≤ 4) (hm : m ≤ 3999)
include B h4 hm
theorem stF_ok {h : List Int} {D : Dd} {J0 : List (Int × Int)} {f s : Int} (I : Fo L m Wy dn h D (J0 ++ [(f, s)]) []) (hJ : J0.length ≤ 1000000) :
    ∃ h' D' J', stF (h, D, J0 ++ [(f, s)]) = some (Step.go (h', D', J')) ∧ Fo L m Wy dn h' D' J' [] ∧ J'.length + 9 * rcH m h' < (J0.length + 1) + 9 * rcH m h := by
  obtain ⟨f0, f1, s0, s1⟩ := I.ej (f, s) (List.mem_append_right _ List.mem_cons_self)
  have f0 : 0 ≤ f := f0
  have f1 : f < m := f1
  have s0 : 0 ≤ s := s0
  have s1 : s < m := s1
  obtain ⟨x0, x1⟩ := hd_le I.hh f0 f1
  obtain ⟨y0, y1⟩ := hd_le I.hh s0 s1
  have xr := hd_fix I.hh f0 f1
  have yr := hd_fix I.hh s0 s1
  have hf := head_of_ok I.hh hm f0 f1
  have hs := head_of_ok I.hh hm s0 s1
  unfold stF
  by_cases e : hd h f = hd h s
  · refine ⟨h, D, J0, bindS (popO_snoc _ _) (bindS hf (bindS hs (bindS (a := (h, D, J0)) (if_neg (by simp [e])) rfl))), ⟨I.hh, I.len, I.nd, I.sd, I.sp, fun a t b hd' => ?_, fun p hp => I.ej p (List.mem_append_left _ hp), fun E eq cl => ?_, I.dw⟩, by omega⟩
    · rcases I.rt a t b hd' with ⟨x, h1, h2⟩ | ⟨x, h1, _⟩
      · refine .inl ⟨x, h1, h2.via (fun b b0 b1 E eq u v => u b b0 b1) fun p hp => ?_⟩
        rcases List.mem_append.mp hp with hp | hp
        · exact fun E eq u v => v p hp
        · rw [List.mem_singleton.mp hp]
          exact fun E eq u v => eq.trans (u f f0 f1) (by rw [e]; exact eq.symm (u s s0 s1))
      · cases h1
    · exact ⟨(I.le E eq cl).1, fun p hp => (I.le E eq cl).2 p (List.mem_append_left _ hp)⟩
  · -- two heads: the greater one becomes a room of the lesser one
    obtain ⟨g, k, eg, ek, g1, k0, kg, rg, rk, ef, es⟩ : ∃ g k, maxI (hd h f) (hd h s) = g ∧ minI (hd h f) (hd h s) = k ∧ g < m ∧ 0 ≤ k ∧ k < g ∧ upH h g = g ∧ upH h k = k ∧ (hd h f = g ∨ hd h f = k) ∧ (hd h s = g ∨ hd h s = k) := by
      rcases mm (z := hd h f) (y := hd h s) with ⟨e1, e2, e3⟩ | ⟨e1, e2, e3⟩
      · exact ⟨_, _, e1, e2, by omega, y0, by omega, xr, yr, .inl rfl, .inr rfl⟩
      · exact ⟨_, _, e1, e2, by omega, x0, by omega, yr, xr, .inr rfl, .inl rfl⟩
    have g0 : 0 ≤ g := by omega
    have gl : g < D.length := by rw [I.len]; exact g1
    have H2 := Hd.set I.hh g0 g1 k0 kg
    have hmg : ∀ a : Int, 0 ≤ a → a < m → hd (h.set g.toNat k) a = if hd h a = g then k else hd h a := fun a a0 a1 => hd_merge I.hh g0 g1 k0 kg rg rk a0 a1
    have hgg : hd (h.set g.toNat k) g = k := by rw [hmg g g0 g1, hd_root I.hh rg, if_pos rfl]
    have hfk : hd (h.set g.toNat k) f = k := by
      rw [hmg f f0 f1]
      rcases ef with z | z
      · rw [if_pos z]
      · rw [if_neg (by omega), z]
    have hsk : hd (h.set g.toNat k) s = k := by
      rw [hmg s s0 s1]
      rcases es with z | z
      · rw [if_pos z]
      · rw [if_neg (by omega), z]
    have via : ∀ {x y : Int}, Cl2 m h (J0 ++ [(f, s)]) x y → Cl2 m (h.set g.toNat k) J0 x y := fun {x y} hc => hc.via (fun a a0 a1 E eq u v => by
        have ua := u a a0 a1
        rw [hmg a a0 a1] at ua
        by_cases z : hd h a = g
        · rw [if_pos z] at ua
          have ug := u g g0 g1
          rw [hgg] at ug
          rw [z]
          exact eq.trans ua (eq.symm ug)
        · rw [if_neg z] at ua
          exact ua) fun p hp => by
        rcases List.mem_append.mp hp with hp | hp
        · exact fun E eq u v => v p hp
        · rw [List.mem_singleton.mp hp]
          exact fun E eq u v => by
            have uf := u f f0 f1
            have us := u s s0 s1
            rw [hfk] at uf
            rw [hsk] at us
            exact eq.trans uf (eq.symm us)
    have I1 : Fo L m Wy dn (h.set g.toNat k) (setI D g []) J0 ((row D g).map fun p => (k, p.1, p.2)) := by
      refine ⟨H2, (setI_len _ _ _).trans I.len, fun d hd => ?_, fun r t x r0 hx => ?_, fun q hq => ?_, fun a t b hd' => ?_, fun p hp => I.ej p (List.mem_append_left _ hp), fun E eq cl => ?_, I.dw⟩
      · rw [setI_nn g0 gl] at hd
        rcases List.mem_or_eq_of_mem_set hd with hd | hd
        · exact I.nd d hd
        · rw [hd]
          exact List.nodup_nil
      · rw [go_set g0 gl r0] at hx
        split at hx
        · cases hx
        · rename_i hne
          obtain ⟨a, wa, ea⟩ := I.sd r t x r0 hx
          obtain ⟨a0, a1, _⟩ := B.bd _ _ _ wa
          exact ⟨a, wa, by rw [hmg a a0 a1, if_neg (fun z => hne (z.symm.trans ea)), ea]⟩
      · obtain ⟨p, hp, rfl⟩ := List.mem_map.mp hq
        obtain ⟨a, wa, ea⟩ := I.sd g p.1 p.2 g0 (mem_dGet (I.nd _ (row_mem g0 gl)) hp)
        obtain ⟨a0, a1, _⟩ := B.bd _ _ _ wa
        exact ⟨a, wa, by rw [hmg a a0 a1, if_pos ea]⟩
      · obtain ⟨a0, a1, _⟩ := B.bd _ _ _ (I.dw a t b hd')
        rcases I.rt a t b hd' with ⟨x, h1, h2⟩ | ⟨x, h1, _⟩
        · rw [hmg a a0 a1]
          by_cases z : hd h a = g
          · rw [if_pos z]
            rw [z] at h1
            exact .inr ⟨x, List.mem_map.mpr ⟨(t, x), dGet_mem h1, rfl⟩, via h2⟩
          · rw [if_neg z]
            refine .inl ⟨x, ?_, via h2⟩
            rw [go_set g0 gl (hd_le I.hh a0 a1).1, if_neg (fun y => z y.symm)]
            exact h1
        · cases h1
      · obtain ⟨l1, l2⟩ := I.le E eq cl
        refine ⟨fun a a0 a1 => ?_, fun p hp => l2 p (List.mem_append_left _ hp)⟩
        rw [hmg a a0 a1]
        by_cases z : hd h a = g
        · rw [if_pos z]
          have ea := l1 a a0 a1
          rw [z] at ea
          have efs := l2 (f, s) (List.mem_append_right _ List.mem_cons_self)
          have e1 := l1 f f0 f1
          have e2 := l1 s s0 s1
          have e3 : E (hd h f) (hd h s) := eq.trans (eq.symm e1) (eq.trans efs e2)
          rcases ef with zf | zf
          · rcases es with zs | zs
            · exact absurd (zf.trans zs.symm) e
            · rw [zf, zs] at e3
              exact eq.trans ea e3
          · rcases es with zs | zs
            · rw [zf, zs] at e3
              exact eq.trans ea (eq.symm e3)
            · exact absurd (zf.trans zs.symm) e
        · rw [if_neg z]
          exact l1 a a0 a1
    have h8 := I.small B h4 g0
    obtain ⟨⟨D', J'⟩, e3, I3, hl⟩ := lp_goN (f := fun (s13 : ((List (List (Int × Int))) × (List (Int × Int)))) (x14 : (Int × Int)) => ((Q_laid s13.1 s13.2 k x14.1 x14.2).bind fun t19 => some (t19.2.1, t19.2.2))) (xs := row D g)
      (fun i st => Fo L m Wy dn (h.set g.toNat k) st.1 st.2 (((row D g).drop i).map fun p => (k, p.1, p.2)) ∧ st.2.length ≤ J0.length + i) (fun i x st hx ⟨Is, hl⟩ => by
        rw [drop_cons' hx, List.map_cons] at Is
        have hi : i < (row D g).length := (List.getElem?_eq_some_iff.mp hx).1
        obtain ⟨D1, J1, e1, I1, l1⟩ := lay_ok B h4 Is (by omega)
        exact ⟨(D1, J1), bindS e1 rfl, I1, show J1.length ≤ _ by omega⟩) (s0 := (setI D g [], J0)) ⟨I1, Nat.le_refl _⟩
    rw [List.drop_length, List.map_nil] at I3
    have lt := rcH_set I.hh g0 g1 k0 kg rg
    have hl : J'.length ≤ J0.length + (row D g).length := hl
    refine ⟨h.set g.toNat k, D', J', bindS (popO_snoc _ _) (bindS hf (bindS hs (bindS (a := (h.set g.toNat k, D', J')) ((if_pos (by simp [e])).trans ?_) rfl))), I3, by omega⟩
    show ((setO h (maxI (hd h f) (hd h s)) (minI (hd h f) (hd h s))).bind _) = _
    rw [eg, ek]
    refine bindS (a := h.set g.toNat k) ?_ (bindS (idx_row g0 gl) (bindS (idx_row g0 gl) (bindS e3 rfl)))
    unfold setO
    have : ixN h.length g = some g.toNat := by
      rw [I.hh.len]
      unfold ixN
      rw [if_pos (by omega), if_pos (by omega)]
    rw [this]
    rfl
end
section
variable {L : Int} {m : Nat} {Wy dn : Int → Int → Int → Prop} (B : WyB L m Wy) (h4 : L ≤ 4) (hm : m ≤ 3999)
include B h4 hm
theorem settled_ok {h : List Int} {D : Dd} {J : List (Int × Int)} (I : Fo L m Wy dn h D J []) (hJ : J.length ≤ 100) : ∃ h' D', Q_settled h D J = some ((), h', D', []) ∧ Fo L m Wy dn h' D' [] [] := by
  have hr : rcH m h ≤ m := by
    unfold rcH
    refine Nat.le_trans (List.length_filter_le _ _) ?_
    rw [rng_len]
    omega
  obtain ⟨r, e, h', D', e2, I2⟩ := whX (c := fun (s2 : ((List Int) × (List (List (Int × Int))) × (List (Int × Int)))) => some (decide (0 < (s2.2.2.length : Int)))) (f := stF) (k := fun f3o => Sum.elim (fun r23 => none) (fun f3 => some ((), f3.1, f3.2.1, f3.2.2)) f3o) (n := 100000) (s0 := (h, D, J))
    (Q := fun r => ∃ h' D', r = ((), h', D', []) ∧ Fo L m Wy dn h' D' [] []) (fun st => Fo L m Wy dn st.1 st.2.1 st.2.2 [] ∧ st.2.2.length + 9 * rcH m st.1 ≤ 100 + 9 * m) (fun st => st.2.2.length + 9 * rcH m st.1) ⟨I, by show J.length + 9 * rcH m h ≤ _; omega⟩ (by show J.length + 9 * rcH m h < _; omega) (fun st ⟨Is, hl⟩ => by
      obtain ⟨h1, D1, J1⟩ := st
      have hl : J1.length + 9 * rcH m h1 ≤ 100 + 9 * m := hl
      rcases List.eq_nil_or_concat J1 with rfl | ⟨J0, ⟨f, s⟩, rfl⟩
      · exact .inl rfl
      · rw [List.concat_eq_append] at Is hl ⊢
        rw [List.length_append, List.length_singleton] at hl
        obtain ⟨h2, D2, J2, e2, I2, l2⟩ := stF_ok B h4 hm Is (by omega)
        have l2 : J2.length + 9 * rcH m h2 < (J0.length + 1) + 9 * rcH m h1 := l2
        refine .inr ⟨?_, (h2, D2, J2), e2, ⟨I2, ?_⟩, ?_⟩
        · show some (decide (0 < (((J0 ++ [(f, s)]).length : Nat) : Int))) = some true
          rw [List.length_append, List.length_singleton]
          exact congrArg some (decide_eq_true (by omega))
        · show J2.length + 9 * rcH m h2 ≤ _
          omega
        · show J2.length + 9 * rcH m h2 < (J0 ++ [(f, s)]).length + 9 * rcH m h1
          rw [List.length_append, List.length_singleton]
          exact l2) (fun st ⟨Is, hl⟩ hc => by
      obtain ⟨h1, D1, J1⟩ := st
      have hc : some (decide (0 < (J1.length : Int))) = some false := hc
      have : J1 = [] := by
        cases J1 with
        | nil => rfl
        | cons x l => simp at hc
      subst this
      exact ⟨_, rfl, h1, D1, rfl, Is⟩)
  refine ⟨h', D', ?_, I2⟩
  rw [← e2]
  exact e
end
theorem Cl2.eq {m : Nat} {h : List Int} (H : Hd m h) {x y : Int} (a : Cl2 m h [] x y) : hd h x = hd h y :=
  a (fun u v => hd h u = hd h v) ⟨fun _ => rfl, fun e => e.symm, fun e f => e.trans f⟩ (fun b b0 b1 => (hd_hd H b0 b1).symm) fun _ z => nomatch z
theorem up_rng {m : Nat} {a : Int} (a0 : 0 ≤ a) (a1 : a < m) : upH (range' 0 (m : Int)) a = a := by
  unfold upH range'
  rw [List.getD_eq_getElem?_getD, List.getElem?_map, List.getElem?_range (by omega)]
  show 0 + ((a.toNat : Nat) : Int) = a
  omega
end Z
namespace Z
open PySem PySem.Spec L2
end Z
namespace Z
open PySem PySem.Spec L2
theorem unH_some {γ : Type} : ∀ l : List γ, unH (l.map some) = some l
  | [] => rfl
  | x :: l => by
    rw [List.map_cons]
    unfold unH
    rw [unH_some l]
    rfl
theorem setI_map {α β : Type} (f : α → β) (xs : List α) (z : Int) (x : α) : (setI xs z x).map f = setI (xs.map f) z (f x) := by
  unfold setI
  rw [List.map_set, List.length_map]
theorem setI_setI {α : Type} (xs : List α) (z : Int) (x y : α) : setI (setI xs z x) z y = setI xs z y := by
  unfold setI
  rw [List.length_set, List.set_set]
theorem setI_comm {α : Type} {xs : List α} {a b : Int} (a0 : 0 ≤ a) (a1 : a < xs.length) (b0 : 0 ≤ b) (b1 : b < xs.length) (hab : a ≠ b) (x y : α) : setI (setI xs a x) b y = setI (setI xs b y) a x := by
  rw [setI_nn a0 a1, setI_nn b0 b1, setI_nn b0 (by rw [List.length_set]; exact b1), setI_nn a0 (by rw [List.length_set]; exact a1)]
  exact List.set_comm _ _ (by omega)
theorem setI_rowB {D : Dd} {a : Int} (a0 : 0 ≤ a) (a1 : a < D.length) : setI D a (row D a) = D := by
  rw [setI_nn a0 a1]
  refine List.ext_getElem? fun i => ?_
  rw [List.getElem?_set]
  by_cases h : a.toNat = i
  · subst h
    have : a.toNat < D.length := by omega
    rw [if_pos rfl, if_pos this, List.getElem?_eq_getElem this]
    unfold row
    rw [List.getD_eq_getElem?_getD, List.getElem?_eq_getElem this]
    rfl
  · rw [if_neg h]
theorem idx_setI {α : Type} {xs : List α} {a b : Int} (a0 : 0 ≤ a) (a1 : a < xs.length) (b0 : 0 ≤ b) (x : α) : idx (setI xs a x) b = if a = b then some x else idx xs b := by
  by_cases b1 : b < xs.length
  · have h1 : (setI xs a x)[b.toNat]? = if a = b then some x else xs[b.toNat]? := by
      rw [setI_nn a0 a1, List.getElem?_set]
      by_cases e : a = b
      · rw [if_pos (by omega), if_pos e, if_pos (by omega)]
      · rw [if_neg (by omega), if_neg e]
    have h2 : ∀ {ys : List α}, idx ys b = ys[b.toNat]? := fun {ys} => by
      unfold idx atI ixN
      rw [if_pos b0]
      by_cases h : b < (ys.length : Int)
      · rw [if_pos h]
        rfl
      · rw [if_neg h]
        exact (List.getElem?_eq_none (by omega)).symm
    rw [h2, h1, h2]
  · have h2 : ∀ {ys : List α}, ys.length = xs.length → idx ys b = none := fun {ys} e => by
      unfold idx atI ixN
      rw [if_pos b0, if_neg (by omega)]
      rfl
    rw [h2 (setI_len _ _ _), h2 rfl, if_neg (by omega)]
/-- loops that are straight are kept -/
theorem loops_del {L : Int} {n : Nat} {D : Dd} (h : Dr L n D) {c r k g : Int} (r0 : 0 ≤ r) (hrc : r ≠ c) (hr : row D r = [(k, g)]) : ∀ (w : List Int) (a : Int), 0 ≤ a → a ≠ r → Gd w → goW D a w = some c → goW (delD D r k g) a w = some c
  | [], a, _, _, _, e => e
  | t :: w, a, a0, har, gw, e => by
    have hg0 : go D r k = some g := by
      unfold go
      rw [hr, dGet_cons, if_pos rfl]
    unfold goW at e ⊢
    cases hb : go D a t with
    | none => rw [hb] at e; cases e
    | some b =>
      rw [hb] at e
      obtain ⟨b0, _, _, hback⟩ := h.ok a t b a0 hb
      by_cases hbr : b = r
      · subst hbr
        exfalso
        have hk : k = -t := by
          unfold go at hback
          rw [hr, dGet_cons] at hback
          by_cases z : k = -t
          · exact z
          · rw [if_neg z] at hback
            cases hback
        cases w with
        | nil =>
          have e : some b = some c := e
          cases e
          exact hrc rfl
        | cons u w =>
          have e : (match go D b u with | some b => goW D b w | none => none) = some c := e
          have hu : u = k := by
            unfold go at e
            rw [hr, dGet_cons] at e
            by_cases z : k = u
            · exact z.symm
            · rw [if_neg z] at e
              cases e
          exact gw.1 (by rw [hu, hk])
      · have hd : go (delD D r k g) a t = some b := by
          rw [go_del r0 (go_lt r0 hg0) (h.ok r k g r0 hg0).1 (by rw [h.len]; exact (h.ok r k g r0 hg0).2.1) (h.ok r k g r0 hg0).2.2.1.1 a0, if_neg]
          · exact hb
          · rintro (⟨rfl, rfl⟩ | ⟨rfl, _⟩)
            · have := (h.ok r k a r0 hg0).2.2.2
              rw [this] at hb
              cases hb
              exact hbr rfl
            · exact har rfl
        rw [hd]
        exact loops_del h r0 hrc hr w b b0 hbr (gd_tail gw) e
def tmF (home : Int) (s11 : List Int × Dd) : Option (Step Dd (List Int × Dd)) :=
  (((popO s11.1).bind fun t16 => ((idx s11.2 t16.1).bind fun t17 => ((lp (fun (s18 : ((List Int) × (List (Option (List (Int × Int)))))) (x19 : (Int × Int)) => ((idxH s18.2 x19.2).bind fun t23 => (dPopO t23 (-x19.1)).bind fun t24 => ((if (!decide (x19.2 = home)) = true then ((idxH (setI s18.2 x19.2 (some t24.2)) x19.2).bind fun t25 => some (decide ((t25.length : Int) = 1))) else some false).bind fun t26 => ((if t26 = true then ((appO s18.1 x19.2).bind fun t27 => some t27) else some s18.1 : Option (List Int)).bind fun s28 => some (s28, (setI s18.2 x19.2 (some t24.2))))))) t17 (t16.2, (setI (List.map some s11.2) t16.1 none))).bind fun f20 => ((idx f20.2 t16.1).bind fun t30 => (unH (setI f20.2 t16.1 (some ([] : (List (Int × Int)))))).bind fun t31 => some (Step.go (f20.1, t31)))))))
theorem tmF_ok {L : Int} {n : Nat} {D : Dd} (h : Dr L n D) {home r : Int} {idle : List Int} (r0 : 0 ≤ r) (r1 : r < n) (hl : (row D r).length ≤ 1) (hi : idle.length < 10000000) :
    ∃ idle' D', tmF home (idle ++ [r], D) = some (Step.go (idle', D')) ∧ ((row D r = [] ∧ D' = D ∧ idle' = idle) ∨ ∃ k g, row D r = [(k, g)] ∧ g ≠ r ∧ D' = delD D r k g ∧ idle' = if g ≠ home ∧ (row D' g).length = 1 then idle ++ [g] else idle) := by
  have r2 : r < D.length := by rw [h.len]; exact r1
  have r3 : r < (D.map some).length := by rw [List.length_map]; exact r2
  unfold tmF
  rcases e : row D r with _ | ⟨⟨k, g⟩, t⟩
  · refine ⟨idle, D, ?_, .inl ⟨rfl, rfl, rfl⟩⟩
    refine bindS (popO_snoc _ _) (bindS (idx_row r0 r2) ?_)
    show ((lp _ (row D r) _).bind _) = _
    rw [e]
    refine bindS (a := (idle, setI (D.map some) r none)) rfl (bindS (a := none) ?_ (bindS (a := D) ?_ rfl))
    · rw [idx_setI r0 r3 r0, if_pos rfl]
    · show unH (setI (setI (D.map some) r none) r (some [])) = some D
      rw [setI_setI, ← e, ← setI_map, setI_rowB r0 r2]
      exact unH_some D
  · have ht : t = [] := by
      rw [e, List.length_cons] at hl
      exact List.eq_nil_of_length_eq_zero (by omega)
    subst ht
    have hg : go D r k = some g := by
      unfold go
      rw [e, dGet_cons, if_pos rfl]
    obtain ⟨g0, g1, sk, hb⟩ := h.ok r k g r0 hg
    have g2 : g < D.length := by rw [h.len]; exact g1
    have g3 : g < (D.map some).length := by rw [List.length_map]; exact g2
    have hgr : g ≠ r := fun z => by
      subst z
      unfold go at hb
      rw [e, dGet_cons] at hb
      have := sk.1
      rw [if_neg (by omega)] at hb
      cases hb
    have hD : delD D r k g = setI (setI D g (dDel (row D g) (-k))) r [] := by
      unfold delD
      rw [row_set r0 r2 g0, if_neg (Ne.symm hgr), e]
      rw [show dDel [(k, g)] k = [] from by simp [dDel]]
      exact setI_comm r0 r2 g0 g2 (Ne.symm hgr) _ _
    have hrow : row (delD D r k g) g = dDel (row D g) (-k) := by
      rw [hD, row_set r0 (by rw [setI_len]; exact r2) g0, if_neg (Ne.symm hgr), row_set g0 g2 g0, if_pos rfl]
    -- the walk over one door
    have i1 : idxH (setI (D.map some) r none) g = some (row D g) := by
      unfold idxH
      rw [idx_setI r0 r3 g0, if_neg (Ne.symm hgr), idx_mapS (idx_row g0 g2)]
      rfl
    have i2 : dPopO (row D g) (-k) = some (r, dDel (row D g) (-k)) := by
      unfold dPopO
      rw [show dGet (row D g) (-k) = some r from hb]
      rfl
    have i3 : idxH (setI (setI (D.map some) r none) g (some (dDel (row D g) (-k)))) g = some (dDel (row D g) (-k)) := by
      unfold idxH
      rw [idx_setI g0 (by rw [setI_len]; exact g3) g0, if_pos rfl]
      rfl
    have i4 : idx (setI (setI (D.map some) r none) g (some (dDel (row D g) (-k)))) r = some none := by
      rw [idx_setI g0 (by rw [setI_len]; exact g3) r0, if_neg hgr, idx_setI r0 r3 r0, if_pos rfl]
    have i5 : unH (setI (setI (setI (D.map some) r none) g (some (dDel (row D g) (-k)))) r (some [])) = some (delD D r k g) := by
      rw [setI_comm r0 r3 g0 g3 (Ne.symm hgr), setI_setI, hD, ← setI_map, ← setI_map]
      exact unH_some _
    refine ⟨if g ≠ home ∧ (row (delD D r k g) g).length = 1 then idle ++ [g] else idle, delD D r k g, ?_, .inr ⟨k, g, rfl, hgr, rfl, rfl⟩⟩
    refine bindS (popO_snoc _ _) (bindS (idx_row r0 r2) ?_)
    show ((lp _ (row D r) _).bind _) = _
    rw [e]
    refine bindS (a := (if g ≠ home ∧ (row (delD D r k g) g).length = 1 then idle ++ [g] else idle, setI (setI (D.map some) r none) g (some (dDel (row D g) (-k))))) ?_ (bindS i4 (bindS i5 rfl))
    unfold lp
    refine bindS (bindS i1 (bindS i2 (bindS (a := decide (g ≠ home ∧ (row (delD D r k g) g).length = 1)) ?_ (bindS (a := if g ≠ home ∧ (row (delD D r k g) g).length = 1 then idle ++ [g] else idle) ?_ rfl)))) rfl
    · rw [hrow]
      by_cases z : g = home
      · exact (if_neg (by simp [z])).trans (by simp [z])
      · refine (if_pos (by simp [z])).trans (bindS i3 ?_)
        simp [z]
        omega
    · by_cases z : g ≠ home ∧ (row (delD D r k g) g).length = 1
      · rw [if_pos z]
        exact (if_pos (decide_eq_true z)).trans (bindS (app_ok (by show idle.length < _; rw [sizeL]; omega)) rfl)
      · rw [if_neg z]
        exact if_neg (by simpa using z)
structure Trm (L : Int) (n : Nat) (home : Int) (D0 D : Dd) (idle : List Int) : Prop where
  dr : Dr L n D
  sub : ∀ a s b, 0 ≤ a → go D a s = some b → go D0 a s = some b
  lo : ∀ w, Gd w → goW D0 home w = some home → goW D home w = some home
  id1 : ∀ r ∈ idle, 0 ≤ r ∧ r < n ∧ r ≠ home ∧ (row D r).length ≤ 1
  id2 : ∀ a : Int, 0 ≤ a → a < n → a ≠ home → (row D a).length = 1 → a ∈ idle
def neR (n : Nat) (D : Dd) : Nat := ((range' 0 (n : Int)).filter fun a => decide (row D a ≠ [])).length
theorem Trm.step {L : Int} {n : Nat} {home : Int} (hh : 0 ≤ home) {D0 D : Dd} {idle : List Int} {r : Int} (T : Trm L n home D0 D (idle ++ [r])) (hi : idle.length < 10000000) :
    ∃ idle' D', tmF home (idle ++ [r], D) = some (Step.go (idle', D')) ∧ Trm L n home D0 D' idle' ∧ idle'.length + neR n D' < (idle.length + 1) + neR n D := by
  obtain ⟨r0, r1, rh, rl⟩ := T.id1 r (List.mem_append_right _ List.mem_cons_self)
  obtain ⟨idle', D', e, hc⟩ := tmF_ok (home := home) T.dr r0 r1 rl hi
  refine ⟨idle', D', e, ?_⟩
  rcases hc with ⟨hr, rfl, rfl⟩ | ⟨k, g, hr, hgr, rfl, rfl⟩
  · refine ⟨⟨T.dr, T.sub, T.lo, fun x hx => T.id1 x (List.mem_append_left _ hx), fun a a0 a1 ah al => ?_⟩, by omega⟩
    rcases List.mem_append.mp (T.id2 a a0 a1 ah al) with z | z
    · exact z
    · rw [List.mem_singleton.mp z, hr] at al
      cases al
  · have hg : go D r k = some g := by
      unfold go
      rw [hr, dGet_cons, if_pos rfl]
    obtain ⟨g0, g1, sk, hb⟩ := T.dr.ok r k g r0 hg
    have rl' : r < D.length := by rw [T.dr.len]; exact r1
    have gl' : g < D.length := by rw [T.dr.len]; exact g1
    have d2 := T.dr.del r0 hg
    have rw1 : ∀ x : Int, 0 ≤ x → row (delD D r k g) x = if x = g then dDel (row D g) (-k) else if x = r then [] else row D x := fun x x0 => by
      unfold delD
      rw [row_set g0 (by rw [setI_len]; exact gl') x0, row_set r0 rl' g0, if_neg (Ne.symm hgr), row_set r0 rl' x0, hr]
      by_cases e1 : x = g
      · rw [if_pos e1.symm, if_pos e1]
      · rw [if_neg (fun z => e1 z.symm), if_neg e1]
        by_cases e2 : x = r
        · rw [if_pos e2.symm, if_pos e2]
          simp [dDel]
        · rw [if_neg (fun z => e2 z.symm), if_neg e2]
    refine ⟨⟨d2, fun a s b a0 hx => ?_, fun w gw hw => ?_, fun x hx => ?_, fun a a0 a1 ah al => ?_⟩, ?_⟩
    · rw [go_del r0 rl' g0 gl' sk.1 a0] at hx
      split at hx
      · cases hx
      · exact T.sub a s b a0 hx
    · exact loops_del T.dr r0 rh hr w home hh (Ne.symm rh) gw (T.lo w gw hw)
    · have old : ∀ y ∈ idle, 0 ≤ y ∧ y < n ∧ y ≠ home ∧ (row (delD D r k g) y).length ≤ 1 := fun y hy => by
        obtain ⟨y0, y1, yh, yl⟩ := T.id1 y (List.mem_append_left _ hy)
        refine ⟨y0, y1, yh, ?_⟩
        rw [rw1 y y0]
        split
        · rename_i e1
          rw [e1] at yl
          have : (dDel (row D g) (-k)).length ≤ (row D g).length := List.length_filter_le _ _
          omega
        · split
          · exact Nat.zero_le _
          · exact yl
      split at hx
      · rename_i z
        rcases List.mem_append.mp hx with hx | hx
        · exact old x hx
        · rw [List.mem_singleton.mp hx]
          exact ⟨g0, g1, z.1, by rw [z.2]; exact Nat.le_refl _⟩
      · exact old x hx
    · by_cases e1 : a = g
      · subst e1
        rw [if_pos ⟨ah, al⟩]
        exact List.mem_append_right _ List.mem_cons_self
      · have ra : row (delD D r k g) a = if a = r then [] else row D a := by rw [rw1 a a0, if_neg e1]
        by_cases e2 : a = r
        · rw [ra, if_pos e2] at al
          cases al
        · rw [ra, if_neg e2] at al
          have : a ∈ idle := by
            rcases List.mem_append.mp (T.id2 a a0 a1 ah al) with z | z
            · exact z
            · exact absurd (List.mem_singleton.mp z) e2
          split
          · exact List.mem_append_left _ this
          · exact this
    · have lt : neR n (delD D r k g) < neR n D := by
        refine flt_lt (g := r) (fun x hx hp => ?_) (mem_rng'.mpr ⟨r0, r1⟩) ?_ (by simp [hr])
        · have x0 := (mem_rng hx).1
          rw [rw1 x x0] at hp
          refine decide_eq_true fun z => ?_
          have hp := of_decide_eq_true hp
          split at hp
          · rename_i e1
            rw [e1] at z
            rw [z] at hp
            exact hp rfl
          · split at hp
            · exact hp rfl
            · exact hp z
        · rw [rw1 r r0, if_neg (Ne.symm hgr), if_pos rfl]
          simp
      have : (if g ≠ home ∧ (row (delD D r k g) g).length = 1 then idle ++ [g] else idle).length ≤ idle.length + 1 := by
        split
        · rw [List.length_append]
          exact Nat.le_refl _
        · omega
      omega
end Z
namespace Z
open PySem PySem.Spec L2
end Z
namespace Z
open PySem PySem.Spec L2
theorem goW_app {D : Dd} : ∀ (u v : List Int) (a : Int), goW D a (u ++ v) = (goW D a u).bind fun b => goW D b v
  | [], v, a => rfl
  | x :: u, v, a => by
    show (match go D a x with | some b => goW D b (u ++ v) | none => none) = ((match go D a x with | some b => goW D b u | none => none) : Option Int).bind _
    cases go D a x with
    | none => rfl
    | some b => exact goW_app u v b
end Z
namespace Z
open PySem PySem.Spec L2
def Q_petals_of (walks : (List (List Int))) : Option (Int × (List (Tri Int Int Int))) :=
  ((lp (fun (s2 : (Int × (List (Tri Int Int Int)))) (walk3 : (List Int)) => ((lp (fun (s7 : (Int × Int × (List (Tri Int Int Int)))) (x8 : (Int × Int)) => ((if (decide (x8.1 < ((walk3.length : Int) - 1))) = true then some ((s7.1 + 1), s7.1) else some (s7.1, 0) : Option (Int × Int)).bind fun s12 => ((appO s7.2.2 (if (decide (0 < x8.2)) = true then (Tri.mk s7.2.1 x8.2 s12.2) else (Tri.mk s12.2 (-x8.2) s7.2.1))).bind fun t13 => some (s12.1, s12.2, t13)))) (enum walk3) (s2.1, 0, s2.2)).bind fun f9 => some (f9.1, f9.2.2))) walks (1, ([] : (List (Tri Int Int Int))))).bind fun f4 => some (f4.1, f4.2))
def ori (a s b : Int) : Tri Int Int Int := if 0 < s then Tri.mk a s b else Tri.mk b (-s) a
/-- the room behind so many steps of a ring of n steps, its new rooms numbered from c on -/
def rmP (c : Int) (n i : Nat) : Int := if i = 0 ∨ i = n then 0 else c + (i : Int) - 1
def petal (c : Int) (u : List Int) : List (Tri Int Int Int) := (List.range u.length).map fun i => ori (rmP c u.length i) (u.getD i 0) (rmP c u.length (i + 1))
def pets : Int → List (List Int) → List (Tri Int Int Int)
  | _, [] => []
  | c, u :: us => petal c u ++ pets (c + ((u.length - 1 : Nat) : Int)) us
def cnt1 : Int → List (List Int) → Int
  | c, [] => c
  | c, u :: us => cnt1 (c + ((u.length - 1 : Nat) : Int)) us
def stepsN (us : List (List Int)) : Nat := (us.map List.length).sum
theorem stepsN_cons (u : List Int) (us : List (List Int)) : stepsN (u :: us) = u.length + stepsN us := by simp [stepsN]
theorem petal_len (c : Int) (u : List Int) : (petal c u).length = u.length := by
  unfold petal
  rw [List.length_map, List.length_range]
theorem petal_at {c : Int} {u : List Int} {i : Nat} {s : Int} (h : u[i]? = some s) : (petal c u)[i]? = some (ori (rmP c u.length i) s (rmP c u.length (i + 1))) := by
  have hi := (List.getElem?_eq_some_iff.mp h).1
  unfold petal
  rw [List.getElem?_map, List.getElem?_range hi]
  show some (ori _ (u.getD i 0) _) = _
  rw [List.getD_eq_getElem?_getD, h]
  rfl
def petF (u : List Int) (s7 : Int × Int × List (Tri Int Int Int)) (x8 : Int × Int) : Option (Int × Int × List (Tri Int Int Int)) := ((if (decide (x8.1 < ((u.length : Int) - 1))) = true then some ((s7.1 + 1), s7.1) else some (s7.1, 0) : Option (Int × Int)).bind fun s12 => ((appO s7.2.2 (if (decide (0 < x8.2)) = true then (Tri.mk s7.2.1 x8.2 s12.2) else (Tri.mk s12.2 (-x8.2) s7.2.1))).bind fun t13 => some (s12.1, s12.2, t13)))
theorem petal_ok {u : List Int} {c : Int} {W : List (Tri Int Int Int)} (hl : W.length + u.length ≤ 1000000) : ∃ h', lp (petF u) (enum u) (c, 0, W) = some (c + ((u.length - 1 : Nat) : Int), h', W ++ petal c u) := by
  obtain ⟨⟨c', h', W'⟩, e, h⟩ := lp_goN (f := petF u) (xs := enum u) (fun i st => st.1 = c + (min i (u.length - 1) : Nat) ∧ st.2.1 = rmP c u.length i ∧ st.2.2 = W ++ (petal c u).take i) (fun i x st hx ⟨h1, h2, h3⟩ => by
    obtain ⟨cc, hh, WW⟩ := st
    have h1 : cc = c + (min i (u.length - 1) : Nat) := h1
    have h2 : hh = rmP c u.length i := h2
    have h3 : WW = W ++ (petal c u).take i := h3
    obtain ⟨e1, e2⟩ := zipIdx_get hx
    have hi := (List.getElem?_eq_some_iff.mp e2).1
    obtain ⟨x1, x2⟩ := x
    have e1 : x1 = (i : Int) := e1
    have e2 : u[i]? = some x2 := e2
    subst e1
    have hw : WW.length < sizeLine := by
      rw [h3, List.length_append, List.length_take, petal_len, sizeL]
      omega
    have hp : (petal c u).take (i + 1) = (petal c u).take i ++ [ori (rmP c u.length i) x2 (rmP c u.length (i + 1))] := by
      rw [List.take_add_one, petal_at e2]
      rfl
    by_cases z : i < u.length - 1
    · refine ⟨(cc + 1, cc, WW ++ [ori hh x2 cc]), ?_, ?_, ?_, ?_⟩
      · unfold petF
        refine bindS (a := (cc + 1, cc)) (if_pos (decide_eq_true (by show (i : Int) < _; omega))) (bindS (a := WW ++ [ori hh x2 cc]) ?_ rfl)
        refine (if_pos hw).trans (congrArg (fun q => some (WW ++ [q])) ?_)
        unfold ori
        by_cases p : 0 < x2
        · rw [if_pos p, if_pos (decide_eq_true p)]
        · rw [if_neg p, if_neg (by simpa using p)]
      · show cc + 1 = c + (min (i + 1) (u.length - 1) : Nat)
        omega
      · show cc = rmP c u.length (i + 1)
        unfold rmP
        rw [if_neg (by omega)]
        omega
      · show WW ++ [ori hh x2 cc] = _
        rw [hp, ← List.append_assoc, ← h3, h2]
        congr 3
        unfold rmP
        rw [if_neg (by omega)]
        omega
    · refine ⟨(cc, 0, WW ++ [ori hh x2 0]), ?_, ?_, ?_, ?_⟩
      · unfold petF
        refine bindS (a := (cc, 0)) (if_neg (by simp; omega)) (bindS (a := WW ++ [ori hh x2 0]) ?_ rfl)
        refine (if_pos hw).trans (congrArg (fun q => some (WW ++ [q])) ?_)
        unfold ori
        by_cases p : 0 < x2
        · rw [if_pos p, if_pos (decide_eq_true p)]
        · rw [if_neg p, if_neg (by simpa using p)]
      · show cc = c + (min (i + 1) (u.length - 1) : Nat)
        omega
      · show 0 = rmP c u.length (i + 1)
        unfold rmP
        rw [if_pos (by omega)]
      · show WW ++ [ori hh x2 0] = _
        rw [hp, ← List.append_assoc, ← h3, h2]
        congr 3
        unfold rmP
        rw [if_pos (by omega)]) (s0 := (c, 0, W)) ⟨by show c = c + ((min 0 (u.length - 1) : Nat) : Int); omega, by unfold rmP; rw [if_pos (.inl rfl)], by rw [List.take_zero, List.append_nil]⟩
  obtain ⟨h1, h2, h3⟩ := h
  have h1 : c' = c + (min (enum u).length (u.length - 1) : Nat) := h1
  have h3 : W' = W ++ (petal c u).take (enum u).length := h3
  rw [enum_len] at h1 h3
  refine ⟨h', ?_⟩
  rw [e, h1, h3, List.take_of_length_le (by rw [petal_len]; exact Nat.le_refl _)]
  congr 2
  omega
theorem pets_lp : ∀ (us : List (List Int)) (c : Int) (W : List (Tri Int Int Int)), W.length + stepsN us ≤ 1000000 → lp (fun (s2 : (Int × (List (Tri Int Int Int)))) (walk3 : (List Int)) => ((lp (petF walk3) (enum walk3) (s2.1, 0, s2.2)).bind fun f9 => some (f9.1, f9.2.2))) us (c, W) = some (cnt1 c us, W ++ pets c us)
  | [], c, W, _ => by show some (c, W) = some (c, W ++ []); rw [List.append_nil]
  | u :: us, c, W, hl => by
    rw [stepsN_cons] at hl
    unfold lp
    obtain ⟨h', e⟩ := petal_ok (u := u) (c := c) (W := W) (by omega)
    refine bindS (bindS e rfl) ?_
    refine (pets_lp us _ _ (by rw [List.length_append, petal_len]; omega)).trans ?_
    show some (_, _) = some (_, W ++ (petal c u ++ _))
    rw [List.append_assoc]
    rfl
theorem petals_ok {us : List (List Int)} (hl : stepsN us ≤ 1000000) : Q_petals_of us = some (cnt1 1 us, pets 1 us) := by
  unfold Q_petals_of
  exact bindS (pets_lp us 1 [] (by show 0 + _ ≤ _; omega)) rfl
end Z
namespace Z
open PySem PySem.Spec L2
def Sub (D1 D2 : Dd) (p0 : Pc) : Prop := ∀ w : List Int, (∀ x ∈ w, x ≠ 0) → act D1 (0, []) w = (0, []) → act D2 p0 w = p0
theorem lpRZ {α R S : Type} {f : S → α → Option (Step R S)} (Q : R → Prop) : ∀ {xs : List α} (P : Nat → S → Prop), (∀ (i : Nat) (x : α) (s : S), xs[i]? = some x → P i s → (∃ s', f s x = some (.go s') ∧ P (i + 1) s') ∨ ∃ r, f s x = some (.ret r) ∧ Q r) → ∀ {s0 : S}, P 0 s0 →
    (∃ s', lpR f xs s0 = some (.inr s') ∧ P xs.length s') ∨ ∃ r, lpR f xs s0 = some (.inl r) ∧ Q r
  | [], P, _, s0, h0 => .inl ⟨s0, rfl, h0⟩
  | x :: xs, P, step, s0, h0 => by
    unfold lpR
    rcases step 0 x s0 rfl h0 with ⟨s1, e1, h1⟩ | ⟨r, e1, h1⟩
    · rcases lpRZ Q (xs := xs) (fun i s => P (i + 1) s) (fun i y s hy => step (i + 1) y s hy) (s0 := s1) h1 with ⟨s', e2, h2⟩ | ⟨r, e2, h2⟩
      · exact .inl ⟨s', bindS e1 e2, h2⟩
      · exact .inr ⟨r, bindS e1 e2, h2⟩
    · exact .inr ⟨r, bindS e1 rfl, h1⟩
end Z
namespace Z
open PySem PySem.Spec L2
def C_take (w_well_here : (List Int)) (many : Int) : Option (Int × (List Int)) :=
  ((idx w_well_here 0).bind fun t1 => (if (decide (0 < t1)) = true then ((idx w_well_here 0).bind fun t2 => (modO t2 many).bind fun t3 => ((idx w_well_here 0).bind fun t4 => (fdivO t4 many).bind fun t5 => (setO w_well_here 0 t5).bind fun t6 => some (t3, t6))) else ((idx w_well_here 2).bind fun t7 => (setO w_well_here 2 (t7 + 1)).bind fun t8 => ((idx t8 1).bind fun t9 => (idx t8 2).bind fun t10 => (powO (t9 + (86028121 * t10)) 3).bind fun t11 => ((idx t8 2).bind fun t12 => (powO ((t11 % 10000000000000000000000000000000000000000057) + (6700417 * t12)) 2).bind fun t13 => (some ((t13 + (t11 % 10000000000000000000000000000000000000000057)) % 1000000000000000000000000000000000000000063)).bind fun mixed14 => ((modO (mixed14 / 999983) many).bind fun t16 => some (t16, t8)))))))
def C_steps (letters : Int) : Option (List Int) :=
  ((rngO 1 (letters + 1)).bind fun t1 => ((lp (fun (s2 : (List Int)) (letter3 : Int) => ((catO (α := Int) s2 ([letter3, (0 - letter3)])).bind fun t7 => some t7)) t1 ([] : (List Int))).bind fun f4 => some f4))
def C_walk (w_well_here : (List Int)) (letters : Int) (most : Int) : Option ((List Int) × (List Int)) :=
  ((C_steps letters).bind fun t1 => ((C_take w_well_here 4).bind fun t3 => ((C_take t3.2 (most + 1)).bind fun t4 => (rngO 0 t4.1).bind fun t5 => ((lp (fun (s6 : ((List Int) × (List Int))) (turn7 : Int) => ((C_take s6.1 (t1.length : Int)).bind fun t11 => (idx t1 t11.1).bind fun t12 => ((if (!(decide (t3.1 = 0))) = true then ((if (!decide (s6.2 = ([] : (List Int)))) = true then ((idx s6.2 (-1)).bind fun t13 => some (decide (t13 = (0 - t12)))) else some false).bind fun t14 => some t14) else some false).bind fun t15 => ((if t15 = true then some (0 - t12) else some t12 : Option Int).bind fun s16 => ((appO s6.2 s16).bind fun t17 => some (t11.2, t17)))))) t5 (t4.2, ([] : (List Int)))).bind fun f8 => some (f8.2, f8.1)))))
end Z
namespace Z
open PySem PySem.Spec L2
end Z
namespace Z
open PySem PySem.Spec L2
end Z
namespace Z
open PySem PySem.Spec L2
theorem tkC {k : Nat} (hk : k < 2 ^ 50) {w : List Int} (h : WeC k w) {many : Int} (h0 : 0 < many) (hb : many < 2 ^ 60) : ∃ v w', C_take w many = some (v, w') ∧ 0 ≤ v ∧ v < many ∧ WeC (k + 1) w' := takeC_ok (by omega) h h0 (by omega)
end Z
namespace Z
open PySem PySem.Spec L2
end Z
namespace Z
open PySem PySem.Spec L2
def fwStep (D : Dd) (a : Int) (ws : List (Int × List Int)) (s : Int) : List (Int × List Int) := match go D a s with
  | none => ws
  | some g => if (dGet ws g).isSome = true then ws else dPut ws g ((dGet ws a).getD [] ++ [s])
def visS (D : Dd) (a : Int) (o : List Int) (s : Int) : List Int := match go D a s with
  | none => o
  | some g => vis o g
end Z
namespace Z
open PySem PySem.Spec L2
theorem klt_snoc {u v : List Int} (s t : Int) (h : klt u v = true) : klt (u ++ [s]) (v ++ [t]) = true := by
  have key : ∀ u v : List Int, u.length = v.length → clt u v = true → clt (u ++ [s]) (v ++ [t]) = true := by
    intro u
    induction u with
    | nil =>
      intro v hl hc
      cases v with
      | nil => rw [clt_irr] at hc; cases hc
      | cons _ _ => cases hl
    | cons x u ih =>
      intro v hl hc
      cases v with
      | nil => cases hl
      | cons y v =>
        rw [clt_cons] at hc
        show clt (x :: (u ++ [s])) (y :: (v ++ [t])) = true
        rw [clt_cons]
        by_cases e : codeS x = codeS y
        · rw [if_pos e] at hc ⊢
          exact ih v (Nat.succ.inj hl) hc
        · rw [if_neg e] at hc ⊢
          exact hc
  by_cases hl : u.length = v.length
  · rw [klt_same hl] at h
    rw [klt_same (by rw [List.length_append, List.length_append, hl]; rfl)]
    exact key u v hl h
  · rw [klt_len hl, decide_eq_true_eq] at h
    rw [klt_len (by rw [List.length_append, List.length_append]; show u.length + 1 ≠ v.length + 1; omega), decide_eq_true_eq, List.length_append, List.length_append]
    show u.length + 1 < v.length + 1
    omega
theorem klt_last {s t : Int} (h : codeS s < codeS t) : ∀ u : List Int, klt (u ++ [s]) (u ++ [t]) = true := fun u => by
  rw [klt_same (by rw [List.length_append, List.length_append]; rfl)]
  induction u with
  | nil =>
    show clt [s] [t] = true
    rw [clt_cons, if_neg (by omega)]
    exact decide_eq_true h
  | cons x u ih =>
    show clt (x :: (u ++ [s])) (x :: (u ++ [t])) = true
    rw [clt_cons, if_pos rfl]
    exact ih
theorem klt_nil (u : List Int) (s : Int) : klt [] (u ++ [s]) = true := by
  rw [klt_len (by rw [List.length_append]; show 0 ≠ u.length + 1; omega), decide_eq_true_eq, List.length_append]
  show 0 < u.length + 1
  omega
def wv (ws : List (Int × List Int)) (g : Int) : List Int := (dGet ws g).getD []
/-- what holds while the room a is gone through, the steps pre behind -/
structure Fi (L : Int) (D : Dd) (ws : List (Int × List Int)) (o : List Int) (a : Int) (pre : List Int) : Prop where
  key : ∀ g, (dGet ws g).isSome = true ↔ g ∈ o
  zero : dGet ws 0 = some []
  led : ∀ g ∈ o, goW D 0 (wv ws g) = some g
  asc : ∀ (i j : Nat) (x y : Int), o[i]? = some x → o[j]? = some y → i < j → klt (wv ws x) (wv ws y) = true
  par : ∀ g ∈ o, wv ws g = [] ∨ ∃ v s, wv ws g = v ++ [s] ∧ (klt v (wv ws a) = true ∨ (v = wv ws a ∧ s ∈ pre))
theorem Fi.below {L : Int} {D : Dd} {ws : List (Int × List Int)} {o pre : List Int} {a t : Int} (f : Fi L D ws o a pre) (hp : ∀ s ∈ pre, codeS s < codeS t) {g : Int} (hg : g ∈ o) : klt (wv ws g) (wv ws a ++ [t]) = true := by
  rcases f.par g hg with e | ⟨v, s, e, h | ⟨rfl, h⟩⟩
  · rw [e]; exact klt_nil _ _
  · rw [e]; exact klt_snoc s t h
  · rw [e]; exact klt_last (hp s h) _
theorem Fi.step {L : Int} {n : Nat} {D : Dd} (h : Dr L n D) {ws : List (Int × List Int)} {o pre : List Int} {a t : Int} (a0 : 0 ≤ a) (f : Fi L D ws o a pre) (ha : a ∈ o) (hp : ∀ s ∈ pre, codeS s < codeS t) :
    Fi L D (fwStep D a ws t) (visS D a o t) a (pre ++ [t]) ∧ (∀ g ∈ o, wv (fwStep D a ws t) g = wv ws g) ∧ (∀ g ∈ o, g ∈ visS D a o t) ∧ ∀ g, go D a t = some g → g ∈ visS D a o t ∧ (wv (fwStep D a ws t) g = wv ws a ++ [t] ∨ klt (wv (fwStep D a ws t) g) (wv ws a ++ [t]) = true) := by
  have wid : Fi L D ws o a (pre ++ [t]) := ⟨f.key, f.zero, f.led, f.asc, fun g hg => (f.par g hg).imp id fun ⟨v, s, e, q⟩ => ⟨v, s, e, q.imp id fun q => ⟨q.1, List.mem_append_left _ q.2⟩⟩⟩
  unfold fwStep visS
  cases hgo : go D a t with
  | none => exact ⟨wid, fun _ _ => rfl, fun _ z => z, fun _ z => nomatch z⟩
  | some g =>
    show Fi L D (if (dGet ws g).isSome = true then ws else dPut ws g ((dGet ws a).getD [] ++ [t])) (vis o g) a (pre ++ [t]) ∧ (∀ x ∈ o, wv (if (dGet ws g).isSome = true then ws else dPut ws g ((dGet ws a).getD [] ++ [t])) x = wv ws x) ∧ (∀ x ∈ o, x ∈ vis o g) ∧ ∀ x, some g = some x → x ∈ vis o g ∧ (wv (if (dGet ws g).isSome = true then ws else dPut ws g ((dGet ws a).getD [] ++ [t])) x = wv ws a ++ [t] ∨ klt (wv (if (dGet ws g).isSome = true then ws else dPut ws g ((dGet ws a).getD [] ++ [t])) x) (wv ws a ++ [t]) = true)
    by_cases hm : g ∈ o
    · have hv : vis o g = o := if_pos hm
      rw [hv, if_pos ((f.key g).mpr hm)]
      refine ⟨wid, fun _ _ => rfl, fun _ z => z, fun x e => ?_⟩
      cases e
      exact ⟨hm, .inr (f.below hp hm)⟩
    · have hv : vis o g = o ++ [g] := if_neg hm
      have hnone : ¬ (dGet ws g).isSome = true := fun z => hm ((f.key g).mp z)
      rw [hv, if_neg hnone]
      have new : wv (dPut ws g ((dGet ws a).getD [] ++ [t])) g = wv ws a ++ [t] := by
        unfold wv
        rw [dGet_put, if_pos rfl]
        rfl
      have old : ∀ x ∈ o, wv (dPut ws g ((dGet ws a).getD [] ++ [t])) x = wv ws x := fun x hx => by
        have hgx : g ≠ x := fun e => hm (by rw [e]; exact hx)
        unfold wv
        rw [dGet_put, if_neg hgx]
      have h0 : (0 : Int) ∈ o := (f.key 0).mp (by rw [f.zero]; rfl)
      have hg0 : g ≠ 0 := fun e => hm (e ▸ h0)
      refine ⟨⟨fun x => ?_, by rw [dGet_put, if_neg hg0]; exact f.zero, fun x hx => ?_, fun i j x y hx hy hij => ?_, fun x hx => ?_⟩, old, fun x hx => List.mem_append_left _ hx, fun x e => by cases e; exact ⟨by simp, .inl new⟩⟩
      · rw [dGet_put, List.mem_append, List.mem_singleton]
        by_cases e : g = x
        · subst e; simp
        · rw [if_neg e, f.key x]
          exact ⟨.inl, fun z => z.elim id fun z => absurd z.symm e⟩
      · rcases List.mem_append.mp hx with hx | hx
        · rw [old x hx]
          exact f.led x hx
        · rw [List.mem_singleton.mp hx, new, goW_app, f.led a ha]
          show (match go D a t with | some b => goW D b [] | none => none) = some g
          rw [hgo]
          rfl
      · have hjl := (List.getElem?_eq_some_iff.mp hy).1
        rw [List.length_append] at hjl
        have hjl : j < o.length + 1 := hjl
        have hx' : o[i]? = some x := by rw [List.getElem?_append_left (by omega)] at hx; exact hx
        have mx := List.mem_of_getElem? hx'
        by_cases hj : j < o.length
        · rw [List.getElem?_append_left hj] at hy
          rw [old x mx, old y (List.mem_of_getElem? hy)]
          exact f.asc i j x y hx' hy hij
        · have ej : j = o.length := by omega
          rw [ej, List.getElem?_append_right (Nat.le_refl _), Nat.sub_self] at hy
          have ey : g = y := Option.some.inj hy
          rw [← ey, new, old x mx]
          exact f.below hp mx
      · rcases List.mem_append.mp hx with hx | hx
        · rw [old x hx, old a ha]
          exact wid.par x hx
        · rw [List.mem_singleton.mp hx, new, old a ha]
          exact .inr ⟨wv ws a, t, rfl, .inr ⟨rfl, by simp⟩⟩
/-- what is so of the pairs that are behind -/
def Done (D : Dd) (ws : List (Int × List Int)) (o : List Int) (b s : Int) : Prop := ∀ g, go D b s = some g → g ∈ o ∧ (wv ws g = wv ws b ++ [s] ∨ klt (wv ws g) (wv ws b ++ [s]) = true)
theorem Fi.all {L : Int} {n : Nat} {D : Dd} (h : Dr L n D) {a : Int} (a0 : 0 ≤ a) : ∀ (ss pre : List Int) (ws : List (Int × List Int)) (o : List Int), Fi L D ws o a pre → a ∈ o → (pre ++ ss).Pairwise (fun s t => codeS s < codeS t) →
    Fi L D (ss.foldl (fwStep D a) ws) (ss.foldl (visS D a) o) a (pre ++ ss) ∧ (∀ g ∈ o, wv (ss.foldl (fwStep D a) ws) g = wv ws g) ∧ (∀ g ∈ o, g ∈ ss.foldl (visS D a) o) ∧ (∀ b s, b ∈ o → Done D ws o b s → Done D (ss.foldl (fwStep D a) ws) (ss.foldl (visS D a) o) b s) ∧ ∀ s ∈ ss, Done D (ss.foldl (fwStep D a) ws) (ss.foldl (visS D a) o) a s
  | [], pre, ws, o, f, _, _ => by
    rw [List.append_nil]
    exact ⟨f, fun _ _ => rfl, fun _ z => z, fun _ _ _ z => z, fun _ z => nomatch z⟩
  | s :: ss, pre, ws, o, f, ha, hp => by
    have hp1 : ∀ x ∈ pre, codeS x < codeS s := fun x hx => (List.pairwise_append.mp hp).2.2 x hx s List.mem_cons_self
    obtain ⟨f1, k1, o1, d1⟩ := f.step h a0 ha hp1
    have e : pre ++ s :: ss = (pre ++ [s]) ++ ss := by rw [List.append_assoc]; rfl
    obtain ⟨f2, k2, o2, d2, n2⟩ := Fi.all h a0 ss (pre ++ [s]) (fwStep D a ws s) (visS D a o s) f1 (o1 a ha) (by rw [← e]; exact hp)
    rw [e]
    have carry : ∀ b t, b ∈ o → Done D ws o b t → Done D (fwStep D a ws s) (visS D a o s) b t := fun b t hb hd g hg => by
      obtain ⟨z1, z2⟩ := hd g hg
      rw [k1 g z1, k1 b hb]
      exact ⟨o1 g z1, z2⟩
    refine ⟨f2, fun g hg => by rw [List.foldl_cons, k2 g (o1 g hg), k1 g hg], fun g hg => o2 g (o1 g hg), fun b t hb hd => d2 b t (o1 b hb) (carry b t hb hd), fun t ht => ?_⟩
    rcases List.mem_cons.mp ht with rfl | ht
    · refine d2 a t (o1 a ha) fun g hg => ?_
      obtain ⟨z1, z2⟩ := d1 g hg
      rw [k1 a ha]
      exact ⟨z1, z2⟩
    · exact n2 t ht
end Z
namespace Z
open PySem PySem.Spec L2
end Z
namespace Z
open PySem PySem.Spec L2
end Z
namespace Z
open PySem PySem.Spec L2
structure TrA (L : Int) (n : Nat) (home : Int) (D0 D : Dd) : Prop where
  dr : Dr L n D
  sub : ∀ a s b, 0 ≤ a → go D a s = some b → go D0 a s = some b
  lo : ∀ w, Gd w → goW D0 home w = some home → goW D home w = some home
theorem TrA.del {L : Int} {n : Nat} {home : Int} (hh : 0 ≤ home) {D0 D : Dd} {r k g : Int} (T : TrA L n home D0 D) (r0 : 0 ≤ r) (r1 : r < n) (rh : r ≠ home) (hr : row D r = [(k, g)]) :
    TrA L n home D0 (delD D r k g) ∧ neR n (delD D r k g) < neR n D ∧ g ≠ r ∧ go D r k = some g ∧ delD D r k g = setI (setI D g (dDel (row D g) (-k))) r [] := by
  have r2 : r < D.length := by rw [T.dr.len]; exact r1
  have hg : go D r k = some g := by
    unfold go
    rw [hr, dGet_cons, if_pos rfl]
  obtain ⟨g0, g1, sk, hb⟩ := T.dr.ok r k g r0 hg
  have gl' : g < D.length := by rw [T.dr.len]; exact g1
  have hgr : g ≠ r := fun z => by
    subst z
    unfold go at hb
    rw [hr, dGet_cons] at hb
    have := sk.1
    rw [if_neg (by omega)] at hb
    cases hb
  have hD : delD D r k g = setI (setI D g (dDel (row D g) (-k))) r [] := by
    unfold delD
    rw [row_set r0 r2 g0, if_neg (Ne.symm hgr), hr]
    rw [show dDel [(k, g)] k = [] from by simp [dDel]]
    exact setI_comm r0 r2 g0 gl' (Ne.symm hgr) _ _
  have rw1 : ∀ x : Int, 0 ≤ x → row (delD D r k g) x = if x = g then dDel (row D g) (-k) else if x = r then [] else row D x := fun x x0 => by
    unfold delD
    rw [row_set g0 (by rw [setI_len]; exact gl') x0, row_set r0 r2 g0, if_neg (Ne.symm hgr), row_set r0 r2 x0, hr]
    by_cases e1 : x = g
    · rw [if_pos e1.symm, if_pos e1]
    · rw [if_neg (fun z => e1 z.symm), if_neg e1]
      by_cases e2 : x = r
      · rw [if_pos e2.symm, if_pos e2]
        simp [dDel]
      · rw [if_neg (fun z => e2 z.symm), if_neg e2]
  refine ⟨⟨T.dr.del r0 hg, fun a s b a0 hx => ?_, fun w gw hw => loops_del T.dr r0 rh hr w home hh (Ne.symm rh) gw (T.lo w gw hw)⟩, ?_, hgr, hg, hD⟩
  · rw [go_del r0 r2 g0 gl' sk.1 a0] at hx
    split at hx
    · cases hx
    · exact T.sub a s b a0 hx
  · refine flt_lt (g := r) (fun x hx hp => ?_) (mem_rng'.mpr ⟨r0, r1⟩) ?_ (by simp [hr])
    · have x0 := (mem_rng hx).1
      rw [rw1 x x0] at hp
      refine decide_eq_true fun z => ?_
      have hp := of_decide_eq_true hp
      split at hp
      · rename_i e1
        rw [e1] at z
        rw [z] at hp
        exact hp rfl
      · split at hp
        · exact hp rfl
        · exact hp z
    · rw [rw1 r r0, if_neg (Ne.symm hgr), if_pos rfl]
      simp
end Z
namespace Z
open PySem PySem.Spec L2
def Wok (L : Int) (most : Nat) (u : List Int) : Prop := (∀ x ∈ u, Sok L x) ∧ u.length ≤ most
theorem cell_app {rows : List (List Int)} {i j : Nat} {x : Int} (hj : j < rows.length) (hr : (rows.getD j []).length = i) {a l : Int} (a0 : 0 ≤ a) (l0 : 0 ≤ l) : cell (rows.set j (rows.getD j [] ++ [x])) a l = if a = j ∧ l = i then x else cell rows a l := by
  unfold cell
  rw [getD_set' rows j a.toNat _ [] hj]
  by_cases ea : a = j
  · have e1 : j = a.toNat := by omega
    rw [if_pos e1, ← e1]
    generalize rows.getD j [] = r at hr ⊢
    by_cases el : l = i
    · rw [if_pos ⟨ea, el⟩, List.getD_eq_getElem?_getD, List.getElem?_append_right (by omega)]
      rw [show l.toNat - r.length = 0 by omega]
      rfl
    · rw [if_neg (fun z => el z.2)]
      by_cases lt : l.toNat < i
      · rw [List.getD_eq_getElem?_getD, List.getD_eq_getElem?_getD, List.getElem?_append_left (by omega)]
      · rw [List.getD_eq_getElem?_getD, List.getD_eq_getElem?_getD, List.getElem?_eq_none (by rw [List.length_append]; show _ + 1 ≤ _; omega), List.getElem?_eq_none (by omega)]
  · rw [if_neg (by omega), if_neg (fun z => ea z.1)]
structure Dw (N i j : Nat) (rows : List (List Int)) (free : List Int) : Prop where
  len : rows.length = N
  rl : ∀ a : Nat, a < N → (rows.getD a []).length = if a < j then i + 1 else i
  cb : ∀ a l : Int, 0 ≤ a → 0 ≤ l → -1 ≤ cell rows a l ∧ cell rows a l < N
  one : ∀ a b l k : Int, 0 ≤ a → 0 ≤ b → 0 ≤ l → 0 ≤ k → cell rows a l = k → cell rows b l = k → a = b
  fd : free.Nodup
  fr : ∀ x ∈ free, 0 ≤ x ∧ x < N
  fo : ∀ a : Int, 0 ≤ a → cell rows a i ∉ free
  fl : N ≤ free.length + j
  fu : free.length ≤ N
theorem Dw.step {N i j : Nat} {rows : List (List Int)} {free : List Int} (D : Dw N i j rows free) (hj : j < N) {x : Int} {free' : List Int} (hx : -1 ≤ x ∧ x < N) (h1 : ∀ a : Int, 0 ≤ a → 0 ≤ x → cell rows a i ≠ x) (h2 : free'.Nodup) (h3 : ∀ y ∈ free', y ∈ free ∧ y ≠ x) (h4 : free.length ≤ free'.length + 1) (h5 : free'.length ≤ free.length) : Dw N i (j + 1) (rows.set j (rows.getD j [] ++ [x])) free' := by
  have hl := D.len
  have hr := D.rl j hj
  rw [if_neg (by omega)] at hr
  have ce := fun {a l : Int} (a0 : 0 ≤ a) (l0 : 0 ≤ l) => cell_app (x := x) (show j < rows.length by omega) hr a0 l0
  refine ⟨by rw [List.length_set]; exact hl, fun a ha => ?_, fun a l a0 l0 => ?_, fun a b l k a0 b0 l0 k0 e1 e2 => ?_, h2, fun y hy => D.fr y (h3 y hy).1, fun a a0 => ?_, by have := D.fl; omega, by have := D.fu; omega⟩
  · rw [getD_set' rows j a _ [] (by omega)]
    by_cases e : j = a
    · rw [if_pos e, List.length_append, hr, if_pos (by omega)]
      rfl
    · rw [if_neg e, D.rl a ha]
      by_cases q : a < j
      · rw [if_pos q, if_pos (by omega)]
      · rw [if_neg q, if_neg (by omega)]
  · rw [ce a0 l0]
    split
    · exact hx
    · exact D.cb a l a0 l0
  · rw [ce a0 l0] at e1
    rw [ce b0 l0] at e2
    by_cases q1 : a = j ∧ l = i
    · rw [if_pos q1] at e1
      by_cases q2 : b = j ∧ l = i
      · exact q1.1.trans q2.1.symm
      · rw [if_neg q2] at e2
        exfalso
        refine h1 b b0 (by omega) ?_
        rw [← q1.2, e2, e1]
    · rw [if_neg q1] at e1
      by_cases q2 : b = j ∧ l = i
      · rw [if_pos q2] at e2
        exfalso
        refine h1 a a0 (by omega) ?_
        rw [← q2.2, e1, e2]
      · rw [if_neg q2] at e2
        exact D.one a b l k a0 b0 l0 k0 e1 e2
  · rw [ce a0 (by omega)]
    split
    · exact fun z => (h3 x z).2 rfl
    · exact fun z => D.fo a a0 (h3 _ z).1
end Z
namespace Z
open PySem PySem.Spec L2
theorem rngX_at {n i : Nat} (h : i < n) : (range' 0 (n : Int))[i]? = some (i : Int) := by
  unfold range'
  rw [List.getElem?_map, List.getElem?_range (by omega)]
  show some (0 + (i : Int)) = some (i : Int)
  rw [Int.zero_add]
end Z
namespace Z
open PySem PySem.Spec L2
end Z
namespace Z
open PySem PySem.Spec L2
end Z
namespace Z
open PySem PySem.Spec L2
end Z
namespace Z
open PySem PySem.Spec L2
end Z
namespace Z
open PySem PySem.Spec L2
end Z
namespace Z
open PySem PySem.Spec L2
end Z
namespace Z
open PySem PySem.Spec L2
def opn (L : Int) (D : Dd) (r : Int) : List (Int × Int) := (stL L).filterMap fun s => if (go D r s).isSome = true then none else some (r, s)
end Z
namespace Z
open PySem PySem.Spec L2
def C_list (w_well_here : (List Int)) (letters : Int) (many : Int) (most : Int) : Option ((List (List Int)) × (List Int)) :=
  ((C_take w_well_here (many + 1)).bind fun t1 => (rngO 0 t1.1).bind fun t2 => ((lp (fun (s3 : ((List Int) × (List (List Int)))) (turn4 : Int) => ((C_walk s3.1 letters most).bind fun t8 => ((if (!decide (s3.2 = ([] : (List (List Int))))) = true then ((C_take t8.2 2).bind fun t9 => some ((decide (t9.1 = 0)), t9.2)) else some (false, t8.2)).bind fun t10 => ((if t10.1 = true then ((C_take t10.2 (s3.2.length : Int)).bind fun t11 => (idx s3.2 t11.1).bind fun t12 => ((C_take t11.2 ((t12.length : Int) + 1)).bind fun t13 => ((catO (α := Int) (cut t12 none (some t13.1)) t8.1).bind fun t14 => (catO (α := Int) t8.1 (cut t12 (some t13.1) none)).bind fun t15 => (catO (α := Int) (cut t12 (some t13.1) none) (cut t12 none (some t13.1))).bind fun t16 => (catO (α := Int) t12 (cut t12 none (some t13.1))).bind fun t17 => (C_take t13.2 4).bind fun t18 => (idx ([t14, t15, t16, t17]) t18.1).bind fun t19 => some (t19, t18.2)))) else some (t8.1, t10.2) : Option ((List Int) × (List Int))).bind fun s20 => ((appO s3.2 (cut s20.1 none (some most))).bind fun t21 => some (s20.2, t21)))))) t2 (t1.2, ([] : (List (List Int))))).bind fun f5 => some (f5.2, f5.1)))
theorem mem_mix {α : Type} {P : α → Prop} {t u : List α} (ht : ∀ x ∈ t, P x) (hu : ∀ x ∈ u, P x) (k : Nat) {v : List α} (hv : v ∈ [t.take k ++ u, u ++ t.drop k, t.drop k ++ t.take k, t ++ t.take k]) : ∀ x ∈ v, P x := by
  have a : ∀ x ∈ t.take k, P x := fun x hx => ht x (List.mem_of_mem_take hx)
  have b : ∀ x ∈ t.drop k, P x := fun x hx => ht x (List.mem_of_mem_drop hx)
  simp only [List.mem_cons, List.not_mem_nil, or_false] at hv
  rcases hv with rfl | rfl | rfl | rfl <;> intro x hx <;> rcases List.mem_append.mp hx with hx | hx
  · exact a x hx
  · exact hu x hx
  · exact hu x hx
  · exact b x hx
  · exact b x hx
  · exact a x hx
  · exact ht x hx
  · exact a x hx
theorem listC_ok {n : Nat} (hn : n < 2 ^ 40) {L : Int} {most : Nat} {many : Int} {w : List Int} (h : WeC n w) (h1 : 1 ≤ L) (h4 : L ≤ 4) (hm : most ≤ 100) (k0 : 0 ≤ many) (k1 : many ≤ 20) :
    ∃ r, C_list w L many (most : Int) = some r ∧ ((∀ u ∈ r.1, Wok L most u) ∧ (r.1.length : Int) ≤ many ∧ WeC (n + 100000) r.2) := by
  obtain ⟨v, w1, e1, a1, b1, g1⟩ := tkC (by omega) h (many := many + 1) (by omega) (by omega)
  unfold C_list
  have hr : rngO 0 v = some (range' 0 v) := rngO_ok ⟨by omega, by omega, by omega, by omega⟩
  have hrl : (range' 0 v).length = v.toNat := by rw [rng_len, Int.sub_zero]
  refine bndX e1 (bndX hr (lpX (fun i (st : List Int × List (List Int)) => WeC (n + 1 + 3000 * i) st.1 ∧ (∀ u ∈ st.2, Wok L most u) ∧ st.2.length = i) ⟨g1, (fun _ z => nomatch z), rfl⟩ (fun i x st hx hst => ?_) (fun st ⟨g, q, l⟩ => ⟨_, rfl, q, by rw [l, hrl]; omega, g.mono (by rw [hrl]; omega)⟩)))
  obtain ⟨w, us⟩ := st
  obtain ⟨g, q, l⟩ := hst
  have hi : i < v.toNat := by rw [← hrl]; exact (List.getElem?_eq_some_iff.mp hx).1
  have g : WeC (n + 1 + 3000 * i) w := g
  have q : ∀ u ∈ us, Wok L most u := q
  have l : us.length = i := l
  obtain ⟨u, w3, f1, s1, l1, g3⟩ := walkC_ok (by omega) g h1 h4 (most := (most : Int)) (by omega) (by omega)
  have step : ∀ (u' : List Int) (w' : List Int), (∀ x ∈ u', Sok L x) → WeC (n + 1 + 3000 * (i + 1)) w' → ∃ s', ((appO us (cut u' none (some (most : Int)))).bind fun t17 => some (w', t17)) = some s' ∧ WeC (n + 1 + 3000 * (i + 1)) s'.1 ∧ (∀ u ∈ s'.2, Wok L most u) ∧ s'.2.length = i + 1 := fun u' w' hu' hw' => by
    refine ⟨(w', us ++ [u'.take most]), ?_, hw', fun v hv => ?_, by show (us ++ [u'.take most]).length = _; rw [List.length_append, l]; rfl⟩
    · rw [cut_to _ (by omega), Int.toNat_natCast]
      exact bindS (app_ok (by rw [sizeL]; omega)) rfl
    · rcases List.mem_append.mp hv with hv | hv
      · exact q v hv
      · rw [List.mem_singleton.mp hv]; exact ⟨fun x hx => hu' x (List.mem_of_mem_take hx), by rw [List.length_take]; omega⟩
  by_cases hne : us = []
  · refine bndX f1 (bndX (a := (false, w3)) (if_neg (by simp [hne])) (bndX (a := (u, w3)) (if_neg (by simp)) (step u w3 s1 (g3.mono (by omega)))))
  · obtain ⟨y, w4, f2, c1, d1, g4⟩ := tkC (by omega) g3 (many := 2) (by decide) (by decide)
    have t1 : (if (!decide (us = ([] : (List (List Int))))) = true then ((C_take w3 2).bind fun t9 => some ((decide (t9.1 = 0)), t9.2)) else some (false, w3)) = some (decide (y = 0), w4) := (if_pos (by simp [hne])).trans (bindS f2 rfl)
    by_cases hy : y = 0
    · have lp : 0 < us.length := List.length_pos_iff.mpr hne
      obtain ⟨z, w5, f3, c2, d2, g5⟩ := tkC (by omega) g4 (many := (us.length : Int)) (by omega) (by omega)
      obtain ⟨t, et, tm⟩ := idx_mem c2 d2
      obtain ⟨ts, tl⟩ := q t tm
      obtain ⟨k, w6, f4, c3, d3, g6⟩ := tkC (by omega) g5 (many := (t.length : Int) + 1) (by omega) (by omega)
      obtain ⟨j, w7, f5, c4, d4, g7⟩ := tkC (by omega) g6 (many := 4) (by omega) (by omega)
      obtain ⟨m, em, mm⟩ := idx_mem (xs := [t.take k.toNat ++ u, u ++ t.drop k.toNat, t.drop k.toNat ++ t.take k.toNat, t ++ t.take k.toNat]) c4 d4
      have lt : (t.take k.toNat).length ≤ 100 := by rw [List.length_take]; omega
      have ld : (t.drop k.toNat).length ≤ 100 := by rw [List.length_drop]; omega
      refine bndX f1 (bndX t1 (bndX (a := (m, w7)) ((if_pos (decide_eq_true hy)).trans (bindS f3 (bindS et (bindS f4 ?_)))) (step m w7 (mem_mix ts s1 _ mm) (g7.mono (by omega)))))
      show ((catO (cut t none (some k)) u).bind fun t14 => (catO u (cut t (some k) none)).bind fun t15 => (catO (cut t (some k) none) (cut t none (some k))).bind fun t16 => (catO t (cut t none (some k))).bind fun t17 => (C_take w6 4).bind fun t18 => (idx ([t14, t15, t16, t17]) t18.1).bind fun t19 => some (t19, t18.2)) = _
      rw [cut_to _ c3, cut_from _ c3]
      exact bindS (cat_ok (by rw [sizeL]; omega)) (bindS (cat_ok (by rw [sizeL]; omega)) (bindS (cat_ok (by rw [sizeL]; omega)) (bindS (cat_ok (by rw [sizeL]; omega)) (bindS f5 (bindS em rfl)))))
    · exact bndX f1 (bndX t1 (bndX (a := (u, w4)) (if_neg (by simp [hy])) (step u w4 s1 (g4.mono (by omega)))))
end Z
namespace L12
open PySem PySem.Spec L2 Z
theorem big : sizeLine = 16777216 := by decide
abbrev Way := Tri Int Int Int
def rm (c : Int) (n i : Nat) : Int := if i = 0 ∨ n ≤ i then 0 else c + (i : Int) - 1
def w1 (here s goal : Int) : Way := if 0 < s then ⟨here, s, goal⟩ else ⟨goal, -s, here⟩
def ringN (c : Int) (w : List Int) (i : Nat) : List Way := (List.range i).map fun j => w1 (rm c w.length j) (w.getD j 0) (rm c w.length (j + 1))
def rings : List (List Int) → Int × List Way → Int × List Way
  | [], s => s
  | w :: ws, s => rings ws (s.1 + ((w.length - 1 : Nat) : Int), s.2 ++ ringN s.1 w w.length)
theorem ringN_succ (c : Int) (w : List Int) (i : Nat) : ringN c w (i + 1) = ringN c w i ++ [w1 (rm c w.length i) (w.getD i 0) (rm c w.length (i + 1))] := by
  unfold ringN
  rw [List.range_succ, List.map_append]
  rfl
theorem ringN_len (c : Int) (w : List Int) (i : Nat) : (ringN c w i).length = i := by
  unfold ringN
  rw [List.length_map, List.length_range]
/-- so many steps in all -/
def sm (ws : List (List Int)) : Nat := (ws.map List.length).sum
theorem sm_cons (w : List Int) (ws : List (List Int)) : sm (w :: ws) = w.length + sm ws := by simp [sm]
theorem getD_of {w : List Int} {i : Nat} {x : Int} (h : w[i]? = some x) : w.getD i 0 = x := by
  rw [List.getD_eq_getElem?_getD, h]
  rfl
theorem inner_ok (walk : List Int) (c : Int) (a : List Way) (hl : a.length + walk.length ≤ sizeLine) :
    ∃ h, lp (fun (s7 : (Int × Int × (List (Tri Int Int Int)))) (x8 : (Int × Int)) => ((if (decide (x8.1 < ((walk.length : Int) - 1))) = true then some ((s7.1 + 1), s7.1) else some (s7.1, 0) : Option (Int × Int)).bind fun s12 => ((appO s7.2.2 (if (decide (0 < x8.2)) = true then (Tri.mk s7.2.1 x8.2 s12.2) else (Tri.mk s12.2 (-x8.2) s7.2.1))).bind fun t13 => some (s12.1, s12.2, t13)))) (enum walk) (c, 0, a) = some (c + ((walk.length - 1 : Nat) : Int), h, a ++ ringN c walk walk.length) := by
  obtain ⟨s, e, k⟩ := lp_goN (f := (fun (s7 : (Int × Int × (List (Tri Int Int Int)))) (x8 : (Int × Int)) => ((if (decide (x8.1 < ((walk.length : Int) - 1))) = true then some ((s7.1 + 1), s7.1) else some (s7.1, 0) : Option (Int × Int)).bind fun s12 => ((appO s7.2.2 (if (decide (0 < x8.2)) = true then (Tri.mk s7.2.1 x8.2 s12.2) else (Tri.mk s12.2 (-x8.2) s7.2.1))).bind fun t13 => some (s12.1, s12.2, t13))))) (xs := enum walk)
    (fun i s => s = (c + (min i (walk.length - 1) : Nat), rm c walk.length i, a ++ ringN c walk i)) (fun i x s hx hs => by
      obtain ⟨h1, h2⟩ := enum_get hx
      have hi := (List.getElem?_eq_some_iff.mp h2).1
      subst hs
      have e1 : (if (decide (x.1 < ((walk.length : Int) - 1))) = true then some (c + ((min i (walk.length - 1) : Nat) : Int) + 1, c + ((min i (walk.length - 1) : Nat) : Int)) else some (c + ((min i (walk.length - 1) : Nat) : Int), 0) : Option (Int × Int)) = some (c + ((min (i + 1) (walk.length - 1) : Nat) : Int), rm c walk.length (i + 1)) := by
        unfold rm
        by_cases hlt : i < walk.length - 1
        · rw [if_pos (decide_eq_true (by omega)), if_neg (by omega)]
          refine congrArg some (Prod.ext ?_ ?_)
          · show c + ((min i (walk.length - 1) : Nat) : Int) + 1 = c + ((min (i + 1) (walk.length - 1) : Nat) : Int)
            omega
          · show c + ((min i (walk.length - 1) : Nat) : Int) = c + ((i + 1 : Nat) : Int) - 1
            omega
        · rw [if_neg (by rw [decide_eq_true_eq]; omega), if_pos (by omega)]
          refine congrArg some (Prod.ext ?_ rfl)
          show c + ((min i (walk.length - 1) : Nat) : Int) = c + ((min (i + 1) (walk.length - 1) : Nat) : Int)
          omega
      refine ⟨_, bindS e1 (bindS (app_ok (by
        show (a ++ ringN c walk i).length < _
        rw [List.length_append, ringN_len]
        omega)) rfl), ?_⟩
      rw [ringN_succ, getD_of h2, ← List.append_assoc]
      refine Prod.ext rfl (Prod.ext rfl ?_)
      show (a ++ ringN c walk i) ++ [_] = (a ++ ringN c walk i) ++ [_]
      unfold w1
      by_cases hp : 0 < x.2
      · rw [if_pos (decide_eq_true hp), if_pos hp]
      · rw [if_neg (by simpa using hp), if_neg hp]) (s0 := (c, 0, a)) (by simp [rm, ringN])
  subst k
  rw [enum_len] at e
  exact ⟨_, by rw [e, Nat.min_eq_right (by omega)]⟩
theorem rings_lp : ∀ (ws : List (List Int)) (s : Int × List Way), s.2.length + sm ws ≤ sizeLine →
    lp (fun (s2 : (Int × (List (Tri Int Int Int)))) (walk3 : (List Int)) => ((lp (fun (s7 : (Int × Int × (List (Tri Int Int Int)))) (x8 : (Int × Int)) => ((if (decide (x8.1 < ((walk3.length : Int) - 1))) = true then some ((s7.1 + 1), s7.1) else some (s7.1, 0) : Option (Int × Int)).bind fun s12 => ((appO s7.2.2 (if (decide (0 < x8.2)) = true then (Tri.mk s7.2.1 x8.2 s12.2) else (Tri.mk s12.2 (-x8.2) s7.2.1))).bind fun t13 => some (s12.1, s12.2, t13)))) (enum walk3) (s2.1, 0, s2.2)).bind fun f9 => some (f9.1, f9.2.2))) ws s = some (rings ws s)
  | [], s, _ => rfl
  | w :: ws, s, h => by
    rw [sm_cons] at h
    obtain ⟨hh, e⟩ := inner_ok w s.1 s.2 (by omega)
    unfold lp rings
    exact bindS (bindS e rfl) (rings_lp ws _ (by
      show (s.2 ++ ringN s.1 w w.length).length + sm ws ≤ _
      rw [List.length_append, ringN_len]
      omega))
theorem petals_of_ok {ws : List (List Int)} (h : sm ws ≤ sizeLine) : m_p_petals_of ws = some (rings ws (1, [])) := by
  unfold m_p_petals_of
  exact bindS (rings_lp ws (1, []) (by simpa using h)) rfl
theorem places_idx {c : Int} {n i : Nat} {ps : List Int} (hp : ps = [0] ++ range' c (c + (n : Int) - 1) ++ [0]) (hi : i ≤ n) (hn : 0 < n) : idx ps (i : Int) = some (rm c n i) := by
  have hlr : (range' c (c + (n : Int) - 1)).length = n - 1 := by rw [rng_len]; omega
  refine idx_of (by omega) ?_
  rw [Int.toNat_natCast, hp, List.append_assoc]
  unfold rm
  by_cases h0 : i = 0
  · subst h0
    rw [if_pos (.inl rfl)]
    rfl
  · rw [show i = (i - 1) + 1 by omega]
    show (range' c (c + (n : Int) - 1) ++ [0])[i - 1]? = _
    by_cases hlt : i < n
    · rw [if_neg (by omega), List.getElem?_append_left (by omega)]
      unfold range'
      rw [List.getElem?_map, List.getElem?_range (by omega)]
      refine congrArg some ?_
      show c + ((i - 1 : Nat) : Int) = c + ((i - 1 + 1 : Nat) : Int) - 1
      omega
    · rw [if_pos (by omega), List.getElem?_append_right (by omega), hlr, show i - 1 - (n - 1) = 0 by omega]
      rfl
theorem inner2_ok (walk : List Int) (c : Int) (a : List Way) (ps : List Int) (hp : ps = [0] ++ range' c (c + (walk.length : Int) - 1) ++ [0]) (hl : a.length + walk.length ≤ sizeLine) :
    lp (fun (s11 : (List (Tri Int Int Int))) (x12 : (Int × Int)) => ((if (decide (0 < x12.2)) = true then ((idx ps x12.1).bind fun t16 => (idx ps (x12.1 + 1)).bind fun t17 => (appO s11 (Tri.mk t16 x12.2 t17)).bind fun t18 => some t18) else ((idx ps (x12.1 + 1)).bind fun t19 => (idx ps x12.1).bind fun t20 => (appO s11 (Tri.mk t19 (0 - x12.2) t20)).bind fun t21 => some t21) : Option (List (Tri Int Int Int))).bind fun s22 => some s22)) (enum walk) a = some (a ++ ringN c walk walk.length) := by
  obtain ⟨s, e, k⟩ := lp_goN (f := (fun (s11 : (List (Tri Int Int Int))) (x12 : (Int × Int)) => ((if (decide (0 < x12.2)) = true then ((idx ps x12.1).bind fun t16 => (idx ps (x12.1 + 1)).bind fun t17 => (appO s11 (Tri.mk t16 x12.2 t17)).bind fun t18 => some t18) else ((idx ps (x12.1 + 1)).bind fun t19 => (idx ps x12.1).bind fun t20 => (appO s11 (Tri.mk t19 (0 - x12.2) t20)).bind fun t21 => some t21) : Option (List (Tri Int Int Int))).bind fun s22 => some s22))) (xs := enum walk)
    (fun i s => s = a ++ ringN c walk i) (fun i x s hx hs => by
      obtain ⟨h1, h2⟩ := enum_get hx
      have hi := (List.getElem?_eq_some_iff.mp h2).1
      subst hs
      have e1 : idx ps x.1 = some (rm c walk.length i) := by rw [h1]; exact places_idx hp (by omega) (by omega)
      have e2 : idx ps (x.1 + 1) = some (rm c walk.length (i + 1)) := by
        rw [h1, show (i : Int) + 1 = ((i + 1 : Nat) : Int) by omega]
        exact places_idx hp (by omega) (by omega)
      have e3 : ∀ y : Way, appO (a ++ ringN c walk i) y = some (a ++ ringN c walk i ++ [y]) := fun y => app_ok (by
        rw [List.length_append, ringN_len]
        omega)
      refine ⟨_, bindS (a := a ++ ringN c walk (i + 1)) ?_ rfl, rfl⟩
      rw [ringN_succ, getD_of h2, ← List.append_assoc]
      unfold w1
      by_cases hp : 0 < x.2
      · rw [if_pos (decide_eq_true hp), if_pos hp]
        exact bindS e1 (bindS e2 (bindS (e3 _) rfl))
      · rw [if_neg (by simpa using hp), if_neg hp, show (0 : Int) - x.2 = -x.2 by omega]
        exact bindS e2 (bindS e1 (bindS (e3 _) rfl))) (s0 := a) (by simp [ringN])
  subst k
  rw [enum_len] at e
  exact e
theorem lpetals_lp : ∀ (ws : List (List Int)) (s : Int × List Way), s.2.length + sm ws ≤ 100000 → 0 ≤ s.1 → s.1 + (sm ws : Int) ≤ 2 ^ 60 →
    lp (fun (s2 : (Int × (List (Tri Int Int Int)))) (walk_here3 : (List Int)) => ((m_l_straight walk_here3).bind fun t7 => ((rgO s2.1 ((s2.1 + (t7.length : Int)) - 1)).bind fun t8 => (catO (α := Int) ([0]) t8).bind fun t9 => (catO (α := Int) t9 ([0])).bind fun t10 => ((lp (fun (s11 : (List (Tri Int Int Int))) (x12 : (Int × Int)) => ((if (decide (0 < x12.2)) = true then ((idx t10 x12.1).bind fun t16 => (idx t10 (x12.1 + 1)).bind fun t17 => (appO s11 (Tri.mk t16 x12.2 t17)).bind fun t18 => some t18) else ((idx t10 (x12.1 + 1)).bind fun t19 => (idx t10 x12.1).bind fun t20 => (appO s11 (Tri.mk t19 (0 - x12.2) t20)).bind fun t21 => some t21) : Option (List (Tri Int Int Int))).bind fun s22 => some s22)) (enum t7) s2.2).bind fun f13 => some ((s2.1 + (maxI 0 ((t7.length : Int) - 1))), f13))))) ws s = some (rings (ws.map red) s)
  | [], s, _, _, _ => rfl
  | w :: ws, s, h, h0, h1 => by
    rw [sm_cons] at h h1
    have hr := red_len w
    have hb := big
    have e1 : m_l_straight w = some (red w) := straightC_ok (by omega)
    have e2 : rgO s.1 ((s.1 + ((red w).length : Int)) - 1) = some (range' s.1 ((s.1 + ((red w).length : Int)) - 1)) := if_pos ⟨by omega, by omega, by omega, by omega, by omega⟩
    have hlr : (range' s.1 (s.1 + ((red w).length : Int) - 1)).length ≤ (red w).length := by rw [rng_len]; omega
    have e3 : catO [(0 : Int)] (range' s.1 ((s.1 + ((red w).length : Int)) - 1)) = some ([0] ++ range' s.1 ((s.1 + ((red w).length : Int)) - 1)) := cat_ok (by
      show 1 + _ ≤ _
      omega)
    have e4 : catO ([0] ++ range' s.1 ((s.1 + ((red w).length : Int)) - 1)) [(0 : Int)] = some ([0] ++ range' s.1 ((s.1 + ((red w).length : Int)) - 1) ++ [0]) := cat_ok (by
      rw [List.length_append]
      show 1 + _ + 1 ≤ _
      omega)
    have e5 := inner2_ok (red w) s.1 s.2 _ rfl (by omega)
    have e6 : maxI 0 (((red w).length : Int) - 1) = (((red w).length - 1 : Nat) : Int) := by
      unfold maxI
      split <;> omega
    unfold lp
    rw [List.map_cons]
    unfold rings
    refine bindS (bindS e1 (bindS e2 (bindS e3 (bindS e4 (bindS e5 rfl))))) ?_
    rw [e6]
    exact lpetals_lp ws _ (by
      show (s.2 ++ ringN s.1 (red w) (red w).length).length + sm ws ≤ _
      rw [List.length_append, ringN_len]
      omega) (by show 0 ≤ s.1 + (((red w).length - 1 : Nat) : Int); omega) (by show s.1 + (((red w).length - 1 : Nat) : Int) + _ ≤ _; omega)
theorem lpetals_ok {ws : List (List Int)} (h : sm ws ≤ 100000) : m_l_petals ws = some (rings (ws.map red) (1, [])) := by
  unfold m_l_petals
  exact bindS (lpetals_lp ws (1, []) (by simpa using h) (by decide) (by show (1 : Int) + _ ≤ _; omega)) rfl
structure Wks (L : Int) (m n : Nat) (ws : List (List Int)) : Prop where
  ok : ∀ w ∈ ws, ∀ x ∈ w, Sok L x
  len : ∀ w ∈ ws, w.length ≤ n
  num : ws.length ≤ m
theorem sm_le {n : Nat} : ∀ {ws : List (List Int)}, (∀ w ∈ ws, w.length ≤ n) → sm ws ≤ ws.length * n
  | [], _ => by simp [sm]
  | w :: ws, h => by
    have h1 := h w List.mem_cons_self
    have h2 := sm_le fun x hx => h x (List.mem_cons_of_mem _ hx)
    rw [sm_cons, List.length_cons, Nat.add_mul]
    omega
theorem Wks.sm {L : Int} {m n : Nat} {ws : List (List Int)} (h : Wks L m n ws) : sm ws ≤ m * n := Nat.le_trans (sm_le h.len) (Nat.mul_le_mul_right n h.num)
theorem Wks.red {L : Int} {m n : Nat} {ws : List (List Int)} (h : Wks L m n ws) : Wks L m n (ws.map red) := ⟨fun w hw => by
  obtain ⟨u, hu, rfl⟩ := List.mem_map.mp hw
  exact red_mem (h.ok u hu), fun w hw => by
  obtain ⟨u, hu, rfl⟩ := List.mem_map.mp hw
  exact Nat.le_trans (red_len u) (h.len u hu), by rw [List.length_map]; exact h.num⟩
theorem step_ok {L x : Int} (h : Sok L x) : m_p_is_step x L = some true := by
  have a : 1 ≤ absI x ∧ absI x ≤ L := by
    obtain ⟨h1, h2, h3⟩ := h
    unfold absI
    split <;> constructor <;> omega
  unfold m_p_is_step m_p_is_integer
  simp [a.1, a.2]
theorem awalk_ok {L : Int} {w : List Int} (h : ∀ x ∈ w, Sok L x) (hn : w.length ≤ 10000) : m_p_is_a_walk w L = some true := by
  have hl : w.length < sizeLine := by
    rw [big]
    omega
  unfold m_p_is_a_walk
  rw [if_pos rfl, lcO_some (fun _ => true) hl (fun x hx => by rw [step_ok (h x hx)]; rfl)]
  simp
theorem need_ok {L : Int} {w : List Int} (h : ∀ x ∈ w, Sok L x) (hn : w.length ≤ 10000) : m_p_need_walk w L = some () := by
  unfold m_p_need_walk
  rw [awalk_ok h hn]
  rfl
theorem needs_lp {L : Int} {m n : Nat} {ws : List (List Int)} (h : Wks L m n ws) (hn : n ≤ 10000) : lp (fun (s1 : Unit) (walk2 : (List Int)) => ((m_p_need_walk walk2 L).bind fun t6 => some ())) ws () = some () := by
  obtain ⟨s, e, _⟩ := lp_goN (f := fun (s1 : Unit) (walk2 : (List Int)) => ((m_p_need_walk walk2 L).bind fun t6 => some ())) (xs := ws) (fun _ _ => True) (fun i w s hw _ => by
    have hm := List.mem_of_getElem? hw
    exact ⟨(), bindS (need_ok (h.ok w hm) (Nat.le_trans (h.len w hm) hn)) rfl, trivial⟩) (s0 := ()) trivial
  exact e
theorem letters_ok {L : Int} (h1 : 1 ≤ L) (h4 : L ≤ 4) : m_p_need_letters L = some () := by
  unfold m_p_need_letters m_p_is_letters m_p_is_integer
  simp [h1, h4]
theorem petals_ok {L : Int} {ws : List (List Int)} (h : Wks L 8 60 ws) (h1 : 1 ≤ L) (h4 : L ≤ 4) : m_p_petals L ws = some (rings (ws.map red) (1, [])) := by
  have hb := big
  have hn := h.num
  have hs := h.red.sm
  unfold m_p_petals m_p_need_walks
  refine bindS (letters_ok h1 h4) (bindS (bindS (needs_lp h (by decide)) rfl) (bindS (lcO_some (xs := ws) red (by omega) (fun w hw => ?_)) (bindS (petals_of_ok (ws := ws.map red) (by omega)) rfl)))
  have := h.len w hw
  exact bindS (straight_ok (by omega)) rfl
/-- ways between rooms that there are, of letters -/
def Rb (L : Int) (s : Int × List Way) : Prop := 1 ≤ s.1 ∧ ∀ x ∈ s.2, (0 ≤ x.a ∧ x.a < s.1) ∧ (0 ≤ x.c ∧ x.c < s.1) ∧ 0 < x.b ∧ x.b ≤ L
theorem rm_in {c : Int} {n i : Nat} (h1 : 1 ≤ c) (hi : i ≤ n) (hn : 1 ≤ n) : 0 ≤ rm c n i ∧ rm c n i < c + ((n - 1 : Nat) : Int) := by
  unfold rm
  split <;> omega
theorem Rb.ring {L : Int} {s : Int × List Way} {w : List Int} (h : Rb L s) (hw : ∀ x ∈ w, Sok L x) : Rb L (s.1 + ((w.length - 1 : Nat) : Int), s.2 ++ ringN s.1 w w.length) := by
  obtain ⟨h1, h2⟩ := h
  refine ⟨by show 1 ≤ s.1 + _; omega, fun x hx => ?_⟩
  show (0 ≤ x.a ∧ x.a < s.1 + ((w.length - 1 : Nat) : Int)) ∧ (0 ≤ x.c ∧ x.c < s.1 + ((w.length - 1 : Nat) : Int)) ∧ 0 < x.b ∧ x.b ≤ L
  rcases List.mem_append.mp hx with hx | hx
  · obtain ⟨q1, q2, q3⟩ := h2 x hx
    exact ⟨by omega, by omega, q3⟩
  · obtain ⟨j, hj, rfl⟩ := List.mem_map.mp hx
    have hj := List.mem_range.mp hj
    have e : w.getD j 0 = w[j] := by rw [List.getD_eq_getElem?_getD, List.getElem?_eq_getElem hj]; rfl
    obtain ⟨k1, k2, k3⟩ := hw w[j] (List.getElem_mem hj)
    have r1 := rm_in (c := s.1) (n := w.length) (i := j) h1 (by omega) (by omega)
    have r2 := rm_in (c := s.1) (n := w.length) (i := j + 1) h1 (by omega) (by omega)
    unfold w1
    rw [e]
    split
    · exact ⟨r1, r2, by assumption, k3⟩
    · exact ⟨r2, r1, by show 0 < -w[j]; omega, by show -w[j] ≤ L; omega⟩
theorem Rb.rings {L : Int} : ∀ {ws : List (List Int)} {s : Int × List Way}, Rb L s → (∀ w ∈ ws, ∀ x ∈ w, Sok L x) → Rb L (L12.rings ws s)
  | [], s, h, _ => h
  | w :: ws, s, h, hw => Rb.rings (ws := ws) (s := (s.1 + ((w.length - 1 : Nat) : Int), s.2 ++ ringN s.1 w w.length)) (h.ring (hw w List.mem_cons_self)) fun u hu => hw u (List.mem_cons_of_mem _ hu)
theorem rings_len : ∀ (ws : List (List Int)) (s : Int × List Way), (rings ws s).2.length = s.2.length + sm ws ∧ s.1 ≤ (rings ws s).1 ∧ (rings ws s).1 ≤ s.1 + sm ws
  | [], s => ⟨by simp [rings, sm], Int.le_refl _, by simp [rings, sm]⟩
  | w :: ws, s => by
    obtain ⟨h1, h2, h3⟩ := rings_len ws (s.1 + ((w.length - 1 : Nat) : Int), s.2 ++ ringN s.1 w w.length)
    have e : rings (w :: ws) s = rings ws (s.1 + ((w.length - 1 : Nat) : Int), s.2 ++ ringN s.1 w w.length) := rfl
    rw [e, sm_cons]
    rw [List.length_append, ringN_len] at h1
    have h2 : s.1 + ((w.length - 1 : Nat) : Int) ≤ _ := h2
    have h3 : _ ≤ s.1 + ((w.length - 1 : Nat) : Int) + _ := h3
    exact ⟨by omega, by omega, by omega⟩
end L12
namespace L12
open PySem PySem.Spec L2 Z
/-- the law's heads -/
def lw (m : Nat) (w : List Int) : List Int := (range' 0 (m : Int)).map (hd w)
theorem lw_idx {m : Nat} {w : List Int} {a : Int} (a0 : 0 ≤ a) (a1 : a < m) : idx (lw m w) a = some (hd w a) := by
  refine idx_of a0 ?_
  have h := rngX_at (n := m) (i := a.toNat) (by omega)
  rw [show ((a.toNat : Nat) : Int) = a by omega] at h
  unfold lw
  rw [List.getElem?_map, h]
  rfl
def jn (H : Int → Int) (x y : Way) : Option (Int × Int) := if x.b = y.b then (if H x.a = H y.a ∧ H x.c ≠ H y.c then some (H x.c, H y.c) else if H x.c = H y.c ∧ H x.a ≠ H y.a then some (H x.a, H y.a) else none) else none
def In (m : Nat) (x : Way) : Prop := (0 ≤ x.a ∧ x.a < m) ∧ 0 ≤ x.c ∧ x.c < m
theorem setO_ok {α : Type} {xs : List α} {i : Int} {x : α} (h0 : 0 ≤ i) (h : i < xs.length) : setO xs i x = some (xs.set i.toNat x) := by
  unfold setO ixN
  rw [if_pos h0, if_pos (by omega)]
  rfl
section
variable {m : Nat} (hm : m ≤ 3999)
include hm
theorem head_run {w : List Int} (h : Hd m w) {a : Int} (a0 : 0 ≤ a) (a1 : a < m) : m_p_head_of w a = some (hd w a, w) := head_of_ok h hm a0 a1
theorem unlike_ok {w : List Int} (h : Hd m w) {x y : Way} (ix : In m x) (iy : In m y) : m_p_unlike_ends w x y = some (jn (hd w) x y, w) := by
  obtain ⟨⟨a0, a1⟩, c0, c1⟩ := ix
  obtain ⟨⟨b0, b1⟩, d0, d1⟩ := iy
  unfold m_p_unlike_ends jn
  by_cases e : x.b = y.b
  · rw [if_neg (by simp [e]), if_pos e]
    refine bindS (head_run hm h a0 a1) (bindS (head_run hm h b0 b1) (bindS (head_run hm h c0 c1) (bindS (head_run hm h d0 d1) ?_)))
    by_cases p : hd w x.a = hd w y.a ∧ hd w x.c ≠ hd w y.c
    · rw [if_pos p, if_pos (by simp [p.1, p.2])]
    · rw [if_neg p, if_neg (by simpa using p)]
      by_cases q : hd w x.c = hd w y.c ∧ hd w x.a ≠ hd w y.a
      · rw [if_pos q, if_pos (by simp [q.1, q.2])]
      · rw [if_neg q, if_neg (by simpa using q)]
  · rw [if_pos (by simp [e]), if_neg e]
theorem joined_ok {w : List Int} {x y : Way} (ix : In m x) (iy : In m y) : m_l_joined (lw m w) x y = some (match jn (hd w) x y with | none => [] | some p => [p.1, p.2]) := by
  obtain ⟨⟨a0, a1⟩, c0, c1⟩ := ix
  obtain ⟨⟨b0, b1⟩, d0, d1⟩ := iy
  unfold m_l_joined
  refine bindS (lw_idx a0 a1) (bindS (lw_idx b0 b1) (bindS (lw_idx c0 c1) (bindS (lw_idx d0 d1) ?_)))
  have i0 : ∀ p q : Int, idx [p, q] 0 = some p := fun p q => idx_of (Int.le_refl _) rfl
  have i1 : ∀ p q : Int, idx [p, q] 1 = some q := fun p q => idx_of (by omega) rfl
  unfold jn
  by_cases e : x.b = y.b
  · rw [if_pos e]
    refine bindS (a := decide ((decide (hd w x.a = hd w y.a)) = (decide (hd w x.c = hd w y.c)))) ((if_neg (by simp [e])).trans (bindS (i0 _ _) (bindS (i1 _ _) (bindS (i0 _ _) (bindS (i1 _ _) rfl))))) ?_
    by_cases p : hd w x.a = hd w y.a
    · by_cases q : hd w x.c = hd w y.c
      · rw [if_pos (by simp [p, q]), if_neg (by simp [q]), if_neg (by simp [p])]
      · rw [if_neg (by simp [p, q]), if_pos ⟨p, q⟩]
        refine bindS (i0 _ _) (bindS (i1 _ _) ?_)
        rw [if_pos (decide_eq_true p)]
    · by_cases q : hd w x.c = hd w y.c
      · rw [if_neg (by simp [p, q]), if_neg (by simp [p]), if_pos ⟨q, p⟩]
        refine bindS (i0 _ _) (bindS (i1 _ _) ?_)
        rw [if_neg (by simpa using p)]
      · rw [if_pos (by simp [p, q]), if_neg (by simp [p]), if_neg (by simp [q])]
  · rw [if_neg e]
    exact bindS (a := true) (if_pos (by simp [e])) (if_pos rfl)
theorem jn_root {w : List Int} (h : Hd m w) {x y : Way} (ix : In m x) (iy : In m y) {p : Int × Int} (e : jn (hd w) x y = some p) : p.1 ≠ p.2 ∧ (0 ≤ p.1 ∧ p.1 < m ∧ upH w p.1 = p.1) ∧ 0 ≤ p.2 ∧ p.2 < m ∧ upH w p.2 = p.2 := by
  obtain ⟨⟨a0, a1⟩, c0, c1⟩ := ix
  obtain ⟨⟨b0, b1⟩, d0, d1⟩ := iy
  have rt : ∀ a : Int, 0 ≤ a → a < m → 0 ≤ hd w a ∧ hd w a < m ∧ upH w (hd w a) = hd w a := fun a a0 a1 => by
    obtain ⟨k1, k2⟩ := hd_le h a0 a1
    exact ⟨k1, by omega, hd_fix h a0 a1⟩
  unfold jn at e
  split at e
  · split at e
    · rename_i q
      cases e
      exact ⟨q.2, rt _ c0 c1, rt _ d0 d1⟩
    · split at e
      · rename_i q
        cases e
        exact ⟨q.2, rt _ a0 a1, rt _ b0 b1⟩
      · cases e
  · cases e
/-- two joined -/
def mg (w : List Int) (p : Int × Int) : List Int := w.set (if p.2 > p.1 then p.2 else p.1).toNat (if p.2 < p.1 then p.2 else p.1)
theorem mg_ok {w : List Int} (h : Hd m w) {p : Int × Int} (hne : p.1 ≠ p.2) (h1 : 0 ≤ p.1 ∧ p.1 < m ∧ upH w p.1 = p.1) (h2 : 0 ≤ p.2 ∧ p.2 < m ∧ upH w p.2 = p.2) :
    Hd m (mg w p) ∧ rcH m (mg w p) < rcH m w ∧ (minO [p.1, p.2]).bind (fun t13 => (maxO [p.1, p.2]).bind fun t14 => setO w t14 t13) = some (mg w p) ∧ m_l_with (lw m w) [p.1, p.2] = some (lw m (mg w p)) := by
  have hg : ∃ g k : Int, (if p.2 > p.1 then p.2 else p.1) = g ∧ (if p.2 < p.1 then p.2 else p.1) = k ∧ 0 ≤ g ∧ g < m ∧ 0 ≤ k ∧ k < g ∧ upH w g = g ∧ upH w k = k := by
    by_cases q : p.2 > p.1
    · exact ⟨p.2, p.1, if_pos q, if_neg (by omega), h2.1, h2.2.1, h1.1, by omega, h2.2.2, h1.2.2⟩
    · exact ⟨p.1, p.2, if_neg q, if_pos (by omega), h1.1, h1.2.1, h2.1, by omega, h1.2.2, h2.2.2⟩
  obtain ⟨g, k, eg, ek, g0, g1, k0, kg, ug, uk⟩ := hg
  have mx : maxO [p.1, p.2] = some g := by rw [← eg]; rfl
  have mn : minO [p.1, p.2] = some k := by rw [← ek]; rfl
  unfold mg
  rw [eg, ek]
  refine ⟨h.set g0 g1 k0 kg, rcH_set h g0 g1 k0 kg ug, bindS mn (bindS mx ?_), ?_⟩
  · exact setO_ok g0 (by rw [h.len]; exact g1)
  · unfold m_l_with
    refine bindS (a := lw m (w.set g.toNat k)) ?_ rfl
    have e : lw m (w.set g.toNat k) = (lw m w).map fun a => if a = g then k else a := by
      unfold lw
      rw [List.map_map]
      refine List.map_congr_left fun a ha => ?_
      obtain ⟨a0, a1⟩ := mem_rng ha
      exact hd_merge h g0 g1 k0 kg ug uk a0 a1
    rw [e]
    refine lcO_some _ (by unfold lw; rw [List.length_map, rng_len, sizeL]; omega) fun a ha => ?_
    refine bindS mx ?_
    by_cases q : a = g
    · exact bindS (a := k) ((if_pos (decide_eq_true q)).trans (bindS mn rfl)) (by rw [if_pos q])
    · exact bindS (a := a) (if_neg (by simpa using q)) (by rw [if_neg q])
end
end L12
namespace L12
open PySem PySem.Spec L2 Z
/-- two loops side by side -/
theorem lpR2 {α R S R' S' : Type} {f : S → α → Option (Step R S)} {g : S' → α → Option (Step R' S')} (Q : R → R' → Prop) : ∀ {xs : List α} (P : Nat → S → S' → Prop), (∀ (i : Nat) (x : α) (s : S) (t : S'), xs[i]? = some x → P i s t → (∃ s' t', f s x = some (.go s') ∧ g t x = some (.go t') ∧ P (i + 1) s' t') ∨ ∃ r q, f s x = some (.ret r) ∧ g t x = some (.ret q) ∧ Q r q) → ∀ {s0 : S} {t0 : S'}, P 0 s0 t0 →
    (∃ s' t', lpR f xs s0 = some (.inr s') ∧ lpR g xs t0 = some (.inr t') ∧ P xs.length s' t') ∨ ∃ r q, lpR f xs s0 = some (.inl r) ∧ lpR g xs t0 = some (.inl q) ∧ Q r q
  | [], P, _, s0, t0, h0 => .inl ⟨s0, t0, rfl, rfl, h0⟩
  | x :: xs, P, step, s0, t0, h0 => by
    unfold lpR
    rcases step 0 x s0 t0 rfl h0 with ⟨s1, t1, e1, e2, h1⟩ | ⟨r, q, e1, e2, h1⟩
    · rcases lpR2 Q (xs := xs) (fun i s t => P (i + 1) s t) (fun i y s t hy => step (i + 1) y s t hy) (s0 := s1) (t0 := t1) h1 with ⟨s', t', k1, k2, h2⟩ | ⟨r, q, k1, k2, h2⟩
      · exact .inl ⟨s', t', bindS e1 k1, bindS e2 k2, h2⟩
      · exact .inr ⟨r, q, bindS e1 k1, bindS e2 k2, h2⟩
    · exact .inr ⟨r, q, bindS e1 rfl, bindS e2 rfl, h1⟩
theorem lpR_app {α R S : Type} {f : S → α → Option (Step R S)} : ∀ (xs ys : List α) {s s' : S}, lpR f xs s = some (.inr s') → (∀ s x, ∀ t, f s x ≠ some (.brk t)) → lpR f (xs ++ ys) s = lpR f ys s'
  | [], ys, s, s', h, _ => by cases h; rfl
  | x :: xs, ys, s, s', h, hb => by
    unfold lpR at h
    rw [List.cons_append]
    show (f s x).bind _ = _
    obtain ⟨st, e, h⟩ := Option.bind_eq_some_iff.mp h
    rw [e]
    cases st with
    | go s1 => exact lpR_app xs ys h hb
    | ret r => cases h
    | brk t => exact absurd e (hb s x t)
theorem lpR_pre {α R S : Type} {f : S → α → Option (Step R S)} : ∀ (xs ys : List α) {s s' : S}, lpR f (xs ++ ys) s = some (.inr s') → (∀ s x, ∀ t, f s x ≠ some (.brk t)) → ∃ s1, lpR f xs s = some (.inr s1)
  | [], ys, s, s', h, _ => ⟨s, rfl⟩
  | x :: xs, ys, s, s', h, hb => by
    rw [List.cons_append] at h
    unfold lpR at h ⊢
    obtain ⟨st, e, h⟩ := Option.bind_eq_some_iff.mp h
    rw [e]
    cases st with
    | go s1 => exact lpR_pre xs ys h hb
    | ret r => cases h
    | brk t => exact absurd e (hb s x t)
abbrev Ed := List ((Int × Int) × Int)
def sd (d : Ed) (k : Int × Int) (v : Int) : Int × Ed := match dGet d k with
  | some y => (y, d)
  | none => (v, dPut d k v)
theorem sd_old {d : Ed} {k : Int × Int} {v y : Int} (h : dGet d k = some y) : sd d k v = (y, d) := by
  unfold sd
  rw [h]
theorem sd_new {d : Ed} {k : Int × Int} {v : Int} (h : dGet d k = none) : sd d k v = (v, dPut d k v) := by
  unfold sd
  rw [h]
theorem sd_run {d : Ed} {k : Int × Int} {v : Int} (h : d.length ≤ 1000000) : dSetO d k v = some (sd d k v) := by
  unfold dSetO
  rw [if_pos (by rw [sizeL]; omega)]
  cases e : dGet d k with
  | some y => rw [sd_old e]
  | none => rw [sd_new e]
theorem sd_len (d : Ed) (k : Int × Int) (v : Int) : (sd d k v).2.length ≤ d.length + 1 := by
  cases e : dGet d k with
  | some y => rw [sd_old e]; exact Nat.le_succ _
  | none => rw [sd_new e]; exact dput_len d k v
def Iv (H : Int → Int) (ways : List Way) (d : Ed) : Prop := ∀ r l g : Int, dGet d (r, l) = some g → ∃ x ∈ ways, (0 < l ∧ H x.a = r ∧ x.b = l ∧ H x.c = g) ∨ (l < 0 ∧ H x.c = r ∧ x.b = -l ∧ H x.a = g)
def Nc (H : Int → Int) (ways : List Way) : Prop := ∀ x ∈ ways, ∀ y ∈ ways, x.b = y.b → (H x.a = H y.a ↔ H x.c = H y.c)
theorem Iv.put {H : Int → Int} {ways : List Way} {d : Ed} (h : Iv H ways d) {r l g : Int} (hx : ∃ x ∈ ways, (0 < l ∧ H x.a = r ∧ x.b = l ∧ H x.c = g) ∨ (l < 0 ∧ H x.c = r ∧ x.b = -l ∧ H x.a = g)) : Iv H ways (sd d (r, l) g).2 := by
  cases e0 : dGet d (r, l) with
  | some y => rw [sd_old e0]; exact h
  | none =>
    rw [sd_new e0]
    intro r' l' g' e
    have e2 : (if (r, l) = (r', l') then some g else dGet d (r', l')) = some g' := by
      rw [← dGet_put]
      exact e
    by_cases q : (r, l) = (r', l')
    · rw [if_pos q] at e2
      obtain ⟨q1, q2⟩ := Prod.mk.inj q
      rw [← q1, ← q2, ← Option.some.inj e2]
      exact hx
    · rw [if_neg q] at e2
      exact h r' l' g' e2
section
variable {m : Nat} (hm : m ≤ 3999)
include hm
theorem settled_ok {w : List Int} (h : Hd m w) {ways : List Way} (hw : ∀ x ∈ ways, In m x) (hp : ∀ x ∈ ways, 0 < x.b) (hl : ways.length ≤ 1000) : ∃ b, m_p_is_settled w ways = some (b, w) ∧ m_l_settled (lw m w) ways = some b ∧ (Nc (hd w) ways → b = true) := by
  have key := lpR2 (f := (fun (s1 : ((List ((Int × Int) × Int)) × (List Int))) (x2 : (Tri Int Int Int)) => (((m_p_head_of s1.2 x2.a).bind fun t6 => (m_p_head_of t6.2 x2.c).bind fun t7 => ((dSetO s1.1 (t6.1, x2.b) t7.1).bind fun t8 => (if (!decide (t8.1 = t7.1)) = true then some (true, t8.2) else ((dSetO t8.2 (t7.1, (-x2.b)) t6.1).bind fun t9 => some ((!decide (t9.1 = t6.1)), t9.2))).bind fun t10 => (if t10.1 = true then some (Step.ret (false, t7.2)) else some (Step.go (t10.2, t7.2))))) : Option (Step (Bool × (List Int)) ((List ((Int × Int) × Int)) × (List Int))))))
    (g := (fun (s1 : (List ((Int × Int) × Int))) (x2 : (Tri Int Int Int)) => (((idx (lw m w) x2.a).bind fun t6 => (idx (lw m w) x2.c).bind fun t7 => (dSetO s1 (t6, x2.b) t7).bind fun t8 => (idx (lw m w) x2.c).bind fun t9 => (if (!decide (t8.1 = t9)) = true then some (Step.ret false) else ((idx (lw m w) x2.c).bind fun t10 => (idx (lw m w) x2.a).bind fun t11 => (dSetO t8.2 (t10, (0 - x2.b)) t11).bind fun t12 => (idx (lw m w) x2.a).bind fun t13 => (if (!decide (t12.1 = t13)) = true then some (Step.ret false) else some (Step.go t12.2))))) : Option (Step Bool (List ((Int × Int) × Int))))))
    (xs := ways) (fun r q => r = (false, w) ∧ q = false ∧ ¬ Nc (hd w) ways) (fun i s t => s = (t, w) ∧ Iv (hd w) ways t ∧ t.length ≤ 2 * i) (fun i x s t hx hs => by
      obtain ⟨rfl, iv, tl⟩ := hs
      have hi := (List.getElem?_eq_some_iff.mp hx).1
      have xm := List.mem_of_getElem? hx
      obtain ⟨⟨a0, a1⟩, c0, c1⟩ := hw x xm
      have xp := hp x xm
      have z0 : (0 : Int) - x.b = -x.b := by omega
      have l1 := sd_len t (hd w x.a, x.b) (hd w x.c)
      have iv1 := iv.put (r := hd w x.a) (l := x.b) (g := hd w x.c) ⟨x, xm, .inl ⟨xp, rfl, rfl, rfl⟩⟩
      have r1 := sd_run (d := t) (k := (hd w x.a, x.b)) (v := hd w x.c) (by omega)
      by_cases q1 : (sd t (hd w x.a, x.b) (hd w x.c)).1 = hd w x.c
      · have l2 := sd_len (sd t (hd w x.a, x.b) (hd w x.c)).2 (hd w x.c, -x.b) (hd w x.a)
        have iv2 := iv1.put (r := hd w x.c) (l := -x.b) (g := hd w x.a) ⟨x, xm, .inr ⟨by omega, rfl, by omega, rfl⟩⟩
        have r2 := sd_run (d := (sd t (hd w x.a, x.b) (hd w x.c)).2) (k := (hd w x.c, -x.b)) (v := hd w x.a) (by omega)
        by_cases q2 : (sd (sd t (hd w x.a, x.b) (hd w x.c)).2 (hd w x.c, -x.b) (hd w x.a)).1 = hd w x.a
        · refine .inl ⟨((sd (sd t (hd w x.a, x.b) (hd w x.c)).2 (hd w x.c, -x.b) (hd w x.a)).2, w), (sd (sd t (hd w x.a, x.b) (hd w x.c)).2 (hd w x.c, -x.b) (hd w x.a)).2, ?_, ?_, rfl, iv2, by omega⟩
          · refine bindS (head_run hm h a0 a1) (bindS (head_run hm h c0 c1) (bindS r1 (bindS (a := (false, (sd (sd t (hd w x.a, x.b) (hd w x.c)).2 (hd w x.c, -x.b) (hd w x.a)).2)) ((if_neg (by simp [q1])).trans (bindS r2 (by simp [q2]))) (if_neg (by simp)))))
          · refine bindS (lw_idx a0 a1) (bindS (lw_idx c0 c1) (bindS r1 (bindS (lw_idx c0 c1) ((if_neg (by simp [q1])).trans (bindS (lw_idx c0 c1) (bindS (lw_idx a0 a1) ?_))))))
            rw [z0]
            exact bindS r2 (bindS (lw_idx a0 a1) (if_neg (by simp [q2])))
        · refine .inr ⟨(false, w), false, ?_, ?_, rfl, rfl, fun nc => ?_⟩
          · refine bindS (head_run hm h a0 a1) (bindS (head_run hm h c0 c1) (bindS r1 (bindS (a := (true, (sd (sd t (hd w x.a, x.b) (hd w x.c)).2 (hd w x.c, -x.b) (hd w x.a)).2)) ((if_neg (by simp [q1])).trans (bindS r2 (by simp [q2]))) (if_pos rfl))))
          · refine bindS (lw_idx a0 a1) (bindS (lw_idx c0 c1) (bindS r1 (bindS (lw_idx c0 c1) ((if_neg (by simp [q1])).trans (bindS (lw_idx c0 c1) (bindS (lw_idx a0 a1) ?_))))))
            rw [z0]
            exact bindS r2 (bindS (lw_idx a0 a1) (if_pos (by simp [q2])))
          · cases e : dGet (sd t (hd w x.a, x.b) (hd w x.c)).2 (hd w x.c, -x.b) with
            | some y =>
              rw [sd_old e] at q2
              rcases iv1 _ _ _ e with ⟨z, zm, k | k⟩
              · omega
              · exact q2 (by rw [← k.2.2.2]; exact (nc z zm x xm (by omega)).mpr k.2.1)
            | none =>
              rw [sd_new e] at q2
              exact q2 rfl
      · refine .inr ⟨(false, w), false, ?_, ?_, rfl, rfl, fun nc => ?_⟩
        · refine bindS (head_run hm h a0 a1) (bindS (head_run hm h c0 c1) (bindS r1 (bindS (a := (true, (sd t (hd w x.a, x.b) (hd w x.c)).2)) (if_pos (by simp [q1])) (if_pos rfl))))
        · exact bindS (lw_idx a0 a1) (bindS (lw_idx c0 c1) (bindS r1 (bindS (lw_idx c0 c1) (if_pos (by simp [q1])))))
        · cases e : dGet t (hd w x.a, x.b) with
          | some y =>
            rw [sd_old e] at q1
            rcases iv _ _ _ e with ⟨z, zm, k | k⟩
            · exact q1 (by rw [← k.2.2.2]; exact (nc z zm x xm k.2.2.1).mp k.2.1)
            · omega
          | none =>
            rw [sd_new e] at q1
            exact q1 rfl) (s0 := (([] : Ed), w)) (t0 := ([] : Ed)) ⟨rfl, (fun r l g e => nomatch e), Nat.le_refl _⟩
  rcases key with ⟨s', t', e1, e2, rfl, _⟩ | ⟨r, q, e1, e2, rfl, rfl, nn⟩
  · refine ⟨true, ?_, ?_, fun _ => rfl⟩
    · unfold m_p_is_settled
      exact bindS e1 rfl
    · unfold m_l_settled
      exact bindS e2 rfl
  · refine ⟨false, ?_, ?_, fun nc => absurd nc nn⟩
    · unfold m_p_is_settled
      exact bindS e1 rfl
    · unfold m_l_settled
      exact bindS e2 rfl
end
end L12
namespace L12
open PySem PySem.Spec L2 Z
theorem integer_ok (x : Int) : m_p_is_integer x = some true := by
  unfold m_p_is_integer
  simp
theorem pair_ok (p : Int × Int) (n : Int) : m_p_is_pair p n = some (decide (0 ≤ p.1) && (decide (p.1 < p.2) && decide (p.2 < n))) := by
  unfold m_p_is_pair
  refine bindS (a := false) ((if_neg (by simp)).trans (bindS (a := false) ((if_neg (by simp)).trans (bindS (lcO_some (fun _ => true) (by show 2 < _; rw [sizeL]; omega) fun x _ => bindS (integer_ok x) rfl) (by simp))) rfl)) (if_neg (by simp))
theorem integer_d (x : Int) : m_p_is_integer_d (PyData.int x) = some true := by
  unfold m_p_is_integer_d
  rfl
theorem pair_d (p : Int × Int) (n : Int) : m_p_is_pair_d (eP PyData.int PyData.int p) n = some (decide (0 ≤ p.1) && (decide (p.1 < p.2) && decide (p.2 < n))) := by
  unfold m_p_is_pair_d
  have e : asT (eP PyData.int PyData.int p) = some [PyData.int p.1, PyData.int p.2] := rfl
  have i0 : idx [PyData.int p.1, PyData.int p.2] 0 = some (PyData.int p.1) := idx_of (Int.le_refl _) rfl
  have i1 : idx [PyData.int p.1, PyData.int p.2] 1 = some (PyData.int p.2) := idx_of (by omega) rfl
  refine bindS (a := true) rfl (bindS (a := false) ((if_neg (by simp)).trans (bindS e (bindS (a := false) ((if_neg (by simp)).trans (bindS e (bindS (lcO_some (fun _ => true) (by show 2 < _; rw [sizeL]; omega) fun x hx => ?_) (by simp)))) rfl))) ((if_neg (by simp)).trans (bindS e (bindS i0 (bindS e (bindS i1 (bindS rfl (bindS rfl rfl))))))))
  rcases List.mem_cons.mp hx with rfl | hx
  · exact bindS (integer_d _) rfl
  · rw [List.mem_singleton.mp hx]
    exact bindS (integer_d _) rfl
/-- a pair of numbers of ways -/
def Pk (n : Nat) (p : Int × Int) : Prop := 0 ≤ p.1 ∧ p.1 < p.2 ∧ p.2 < n
section
variable {m : Nat} (hm : m ≤ 3999) {ways : List Way} (hw : ∀ x ∈ ways, In m x)
/-- one joining, by the law -/
def lF (ways : List Way) (s2 : List Int) (x3 : Int × Int) : Option (Step (List Int) (List Int)) := ((if (!(decide (0 ≤ x3.1) && (decide (x3.1 < x3.2) && decide (x3.2 < (ways.length : Int))))) = true then some (Step.ret ([] : (List Int))) else ((idx ways x3.1).bind fun t7 => (idx ways x3.2).bind fun t8 => (m_l_joined s2 t7 t8).bind fun t9 => (if (decide (t9 = ([] : (List Int)))) = true then some (Step.ret ([] : (List Int))) else ((m_l_with s2 t9).bind fun t10 => some (Step.go t10))))) : Option (Step (List Int) (List Int)))
def pF (ways : List Way) (s3 : List Int) (pair4 : Int × Int) : Option (Step Bool (List Int)) := (((m_p_is_pair pair4 (ways.length : Int)).bind fun t8 => (if (!t8) = true then some (Step.ret false) else ((idx ways pair4.1).bind fun t9 => (idx ways pair4.2).bind fun t10 => (m_p_unlike_ends s3 t9 t10).bind fun t11 => (match t11.1 with | none => (some (Step.ret false)) | some rooms12 => (((minO ([rooms12.1, rooms12.2])).bind fun t13 => (maxO ([rooms12.1, rooms12.2])).bind fun t14 => (setO t11.2 t14 t13).bind fun t15 => some (Step.go t15))))))) : Option (Step Bool (List Int)))
def dF (ways : List Way) (s5 : List Int) (pair6 : PyData) : Option (Step Bool (List Int)) := (((m_p_is_pair_d pair6 (ways.length : Int)).bind fun t10 => (if (!t10) = true then some (Step.ret false) else ((asP pair6).bind fun t11 => (idx ways t11.1).bind fun t12 => (asP pair6).bind fun t13 => (idx ways t13.2).bind fun t14 => (m_p_unlike_ends s5 t12 t14).bind fun t15 => (match t15.1 with | none => (some (Step.ret false)) | some rooms16 => (((minO ([rooms16.1, rooms16.2])).bind fun t17 => (maxO ([rooms16.1, rooms16.2])).bind fun t18 => (setO t15.2 t18 t17).bind fun t19 => some (Step.go t19))))))) : Option (Step Bool (List Int)))
theorem way_at {p : Int} (p0 : 0 ≤ p) (p1 : p < ways.length) : ∃ x ∈ ways, idx ways p = some x ∧ ways[p.toNat]? = some x := by
  have h : ways[p.toNat]? = some ways[p.toNat] := List.getElem?_eq_getElem (by omega)
  exact ⟨_, List.getElem_mem _, idx_of p0 h, h⟩
include hm hw
/-- a pair is joined, or it is refused: alike by the program and by the law -/
theorem step_both {w : List Int} (h : Hd m w) (p : Int × Int) : (∃ x y q, Pk ways.length p ∧ ways[p.1.toNat]? = some x ∧ ways[p.2.toNat]? = some y ∧ jn (hd w) x y = some q ∧ pF ways w p = some (.go (mg w q)) ∧ lF ways (lw m w) p = some (.go (lw m (mg w q))) ∧ Hd m (mg w q) ∧ rcH m (mg w q) < rcH m w) ∨ (pF ways w p = some (.ret false) ∧ lF ways (lw m w) p = some (.ret []) ∧ ∀ x y, Pk ways.length p → ways[p.1.toNat]? = some x → ways[p.2.toNat]? = some y → jn (hd w) x y = none) := by
  by_cases hp : Pk ways.length p
  · obtain ⟨p0, p1, p2⟩ := hp
    obtain ⟨x, xm, ex, gx⟩ := way_at (ways := ways) p0 (by omega)
    obtain ⟨y, ym, ey, gy⟩ := way_at (ways := ways) (p := p.2) (by omega) p2
    have hb : (decide (0 ≤ p.1) && (decide (p.1 < p.2) && decide (p.2 < (ways.length : Int)))) = true := by simp [p0, p1, p2]
    have eu := unlike_ok hm h (hw x xm) (hw y ym)
    have ej := joined_ok hm (w := w) (hw x xm) (hw y ym)
    cases q : jn (hd w) x y with
    | none =>
      rw [q] at eu ej
      refine .inr ⟨?_, ?_, fun x' y' _ gx' gy' => ?_⟩
      · unfold pF
        refine bindS (pair_ok _ _) ((if_neg (by rw [hb]; simp)).trans (bindS ex (bindS ey (bindS eu rfl))))
      · unfold lF
        refine (if_neg (by rw [hb]; simp)).trans (bindS ex (bindS ey (bindS ej (if_pos (by simp)))))
      · rw [gx] at gx'
        rw [gy] at gy'
        cases gx'
        cases gy'
        exact q
    | some r =>
      rw [q] at eu ej
      obtain ⟨r1, r2, r3⟩ := jn_root hm h (hw x xm) (hw y ym) q
      obtain ⟨m1, m2, m3, m4⟩ := mg_ok hm h r1 r2 r3
      refine .inl ⟨x, y, r, ⟨p0, p1, p2⟩, gx, gy, q, ?_, ?_, m1, m2⟩
      · unfold pF
        refine bindS (pair_ok _ _) ((if_neg (by rw [hb]; simp)).trans (bindS ex (bindS ey (bindS eu ?_))))
        show ((minO [r.1, r.2]).bind fun t13 => (maxO [r.1, r.2]).bind fun t14 => (setO w t14 t13).bind fun t15 => some (Step.go t15)) = _
        obtain ⟨a, ea, m3⟩ := Option.bind_eq_some_iff.mp m3
        obtain ⟨b, eb, m3⟩ := Option.bind_eq_some_iff.mp m3
        exact bindS ea (bindS eb (bindS m3 rfl))
      · unfold lF
        exact (if_neg (by rw [hb]; simp)).trans (bindS ex (bindS ey (bindS ej ((if_neg (by simp)).trans (bindS m4 rfl)))))
  · have hb : (decide (0 ≤ p.1) && (decide (p.1 < p.2) && decide (p.2 < (ways.length : Int)))) = false := by
      rw [Bool.eq_false_iff]
      intro z
      simp only [Bool.and_eq_true, decide_eq_true_eq] at z
      exact hp z
    refine .inr ⟨?_, ?_, fun x y hp' => absurd hp' hp⟩
    · unfold pF
      exact bindS (pair_ok _ _) (if_pos (by rw [hb]; rfl))
    · unfold lF
      exact if_pos (by rw [hb]; rfl)
theorem loop_both (ps : List (Int × Int)) {w : List Int} (h : Hd m w) : (∃ w', lpR (pF ways) ps w = some (.inr w') ∧ lpR (lF ways) ps (lw m w) = some (.inr (lw m w')) ∧ Hd m w') ∨ (lpR (pF ways) ps w = some (.inl false) ∧ lpR (lF ways) ps (lw m w) = some (.inl [])) := by
  rcases lpR2 (f := pF ways) (g := lF ways) (xs := ps) (fun r q => r = false ∧ q = []) (fun i s t => Hd m s ∧ t = lw m s) (fun i x s t hx hs => by
    obtain ⟨hs, rfl⟩ := hs
    rcases step_both hm hw hs x with ⟨_, _, q, _, _, _, _, e1, e2, h2, _⟩ | ⟨e1, e2, _⟩
    · exact .inl ⟨_, _, e1, e2, h2, rfl⟩
    · exact .inr ⟨_, _, e1, e2, rfl, rfl⟩) (s0 := w) (t0 := lw m w) ⟨h, rfl⟩ with ⟨s', t', e1, e2, h2, rfl⟩ | ⟨r, q, e1, e2, rfl, rfl⟩
  · exact .inl ⟨s', e1, e2, h2⟩
  · exact .inr ⟨e1, e2⟩
theorem dF_eq (s : List Int) (p : Int × Int) : dF ways s (eP PyData.int PyData.int p) = pF ways s p := by
  unfold dF pF
  rw [pair_d, pair_ok]
  rfl
end
theorem pF_brk {ways : List Way} (s : List Int) (p : Int × Int) (t : List Int) : pF ways s p ≠ some (.brk t) := by
  unfold pF
  intro e
  obtain ⟨a, _, e⟩ := Option.bind_eq_some_iff.mp e
  split at e
  · cases e
  · obtain ⟨_, _, e⟩ := Option.bind_eq_some_iff.mp e
    obtain ⟨_, _, e⟩ := Option.bind_eq_some_iff.mp e
    obtain ⟨_, _, e⟩ := Option.bind_eq_some_iff.mp e
    split at e
    · cases e
    · obtain ⟨_, _, e⟩ := Option.bind_eq_some_iff.mp e
      obtain ⟨_, _, e⟩ := Option.bind_eq_some_iff.mp e
      obtain ⟨_, _, e⟩ := Option.bind_eq_some_iff.mp e
      cases e
end L12
namespace L12
open PySem PySem.Spec L2 Z
theorem rgM {m : Nat} (hm : m ≤ 100000) : rgO 0 (m : Int) = some (range' 0 (m : Int)) := if_pos ⟨by omega, by omega, by omega, by omega, by omega⟩
theorem hd_start (m : Nat) : Hd m (range' 0 (m : Int)) := ⟨by rw [rng_len]; omega, fun a a0 a1 => by rw [up_rng a0 a1]; exact ⟨a0, Int.le_refl _⟩⟩
theorem lw_start (m : Nat) : lw m (range' 0 (m : Int)) = range' 0 (m : Int) := by
  unfold lw
  have : (range' 0 (m : Int)).map (hd (range' 0 (m : Int))) = (range' 0 (m : Int)).map id := List.map_congr_left fun a ha => hd_root (hd_start m) (up_rng (mem_rng ha).1 (mem_rng ha).2)
  rw [this, List.map_id]
/-- the petals -/
structure Pt (m : Nat) (ways : List Way) : Prop where
  m1 : 1 ≤ m
  m9 : m ≤ 100
  n9 : ways.length ≤ 100
  inw : ∀ x ∈ ways, In m x
  pos : ∀ x ∈ ways, 0 < x.b
section
variable {m : Nat} {ways : List Way} (h : Pt m ways)
include h
theorem lw_ne (w : List Int) : lw m w ≠ [] := fun z => by
  have := congrArg List.length z
  unfold lw at this
  rw [List.length_map, rng_len] at this
  have := h.m1
  simp at *
  omega
theorem both_ok {L : Int} {ws : List (List Int)} (hp : m_p_petals L ws = some ((m : Int), ways)) (ps : List (Int × Int)) : ∃ (d : Bool) (hs : List Int), m_p_joinings_hold L ws ps = some d ∧ m_l_holds (m : Int) ways ps = some hs ∧ d = !decide (hs = []) := by
  have m9 := h.m9
  have n9 := h.n9
  have hr := rgM (m := m) (by omega)
  rcases loop_both (m := m) (by omega) h.inw ps (hd_start m) with ⟨w', e1, e2, h2⟩ | ⟨e1, e2⟩
  · rw [lw_start] at e2
    obtain ⟨b, k1, k2, _⟩ := settled_ok (m := m) (by omega) h2 h.inw h.pos (by omega)
    refine ⟨b, if b = true then lw m w' else [], ?_, ?_, ?_⟩
    · unfold m_p_joinings_hold
      exact bindS hp (bindS hr (bindS e1 (bindS k1 rfl)))
    · unfold m_l_holds
      exact bindS hr (bindS e2 (bindS k2 rfl))
    · cases b
      · simp
      · simp [lw_ne h w']
  · rw [lw_start] at e2
    refine ⟨false, [], ?_, ?_, by simp⟩
    · unfold m_p_joinings_hold
      exact bindS hp (bindS hr (bindS e1 rfl))
    · unfold m_l_holds
      exact bindS hr (bindS e2 rfl)
/-- a right list of joinings -/
def Right (m : Nat) (ways : List Way) (ps : List (Int × Int)) : Prop := ∃ wf, lpR (pF ways) ps (range' 0 (m : Int)) = some (.inr wf) ∧ Hd m wf ∧ Nc (hd wf) ways
theorem right_holds {L : Int} {ws : List (List Int)} (hp : m_p_petals L ws = some ((m : Int), ways)) {ps : List (Int × Int)} (R : Right m ways ps) : m_p_joinings_hold L ws ps = some true := by
  have m9 := h.m9
  have n9 := h.n9
  obtain ⟨wf, e1, h2, nc⟩ := R
  obtain ⟨b, k1, _, k3⟩ := settled_ok (m := m) (by omega) h2 h.inw h.pos (by omega)
  rw [k3 nc] at k1
  unfold m_p_joinings_hold
  exact bindS hp (bindS (rgM (by omega)) (bindS e1 (bindS k1 rfl)))
/-- a faulty entry behind right ones -/
theorem bad_entry {L : Int} {ws : List (List Int)} (hp : m_p_petals L ws = some ((m : Int), ways)) {pre tl : List (Int × Int)} (R : Right m ways (pre ++ tl)) {bad : PyData} (hb : m_p_is_pair_d bad (ways.length : Int) = some false) (rest : List PyData) : m_p_joinings_hold_d L ws (PyData.list (pre.map (eP PyData.int PyData.int) ++ bad :: rest)) = some false := by
  have m9 := h.m9
  obtain ⟨wf, e1, _, _⟩ := R
  obtain ⟨s1, e2⟩ := lpR_pre pre tl e1 pF_brk
  have ed : ∀ (ps : List (Int × Int)) (s s' : List Int), lpR (pF ways) ps s = some (.inr s') → lpR (dF ways) (ps.map (eP PyData.int PyData.int) ++ bad :: rest) s = some (.inl false) := by
    intro ps
    induction ps with
    | nil =>
      intro s s' e
      show (dF ways s bad).bind _ = _
      refine bindS (a := Step.ret false) ?_ rfl
      unfold dF
      exact bindS hb (if_pos rfl)
    | cons p ps ih =>
      intro s s' e
      unfold lpR at e
      obtain ⟨st, f, e⟩ := Option.bind_eq_some_iff.mp e
      show (dF ways s (eP PyData.int PyData.int p)).bind _ = _
      rw [dF_eq (m := m) (by omega) h.inw, f]
      cases st with
      | go s2 => exact ih _ _ e
      | ret r => cases e
      | brk t => exact absurd f (pF_brk s p t)
  unfold m_p_joinings_hold_d
  exact bindS hp (bindS (a := true) rfl ((if_neg (by simp)).trans (bindS (rgM (by omega)) (bindS rfl (bindS (ed pre _ _ e2) rfl)))))
theorem no_list {L : Int} {ws : List (List Int)} (hp : m_p_petals L ws = some ((m : Int), ways)) {v : PyData} (hv : isiO v "list" = some false) : m_p_joinings_hold_d L ws v = some false := by
  unfold m_p_joinings_hold_d
  exact bindS hp (bindS hv (if_pos rfl))
/-- pairs of ways of one letter -/
def sl (ways : List Way) (p : Int × Int) : Prop := ∃ x y, ways[p.1.toNat]? = some x ∧ ways[p.2.toNat]? = some y ∧ x.b = y.b
theorem pairs_ok : ∃ ps : List (Int × Int), lp (fun (s4 : (List (Int × Int))) (second5 : Int) => ((rngO 0 second5).bind fun t9 => (lcG (β := (Int × Int)) (fun (k_10 : Int) => ((idx ways k_10).bind fun t12 => (idx ways second5).bind fun t13 => if (decide (t12.b = t13.b)) = true then some (some (k_10, second5)) else some none)) t9).bind fun t14 => (catO (α := (Int × Int)) s4 t14).bind fun t15 => some t15)) (range' 0 (ways.length : Int)) ([] : (List (Int × Int))) = some ps ∧ ps.length ≤ 100 * 100 ∧ ∀ p, p ∈ ps ↔ Pk ways.length p ∧ sl ways p := by
  have n9 := h.n9
  have hl : (range' 0 (ways.length : Int)).length = ways.length := by rw [rng_len]; omega
  obtain ⟨ps, e, l, mem⟩ := lp_goN (f := (fun (s4 : (List (Int × Int))) (second5 : Int) => ((rngO 0 second5).bind fun t9 => (lcG (β := (Int × Int)) (fun (k_10 : Int) => ((idx ways k_10).bind fun t12 => (idx ways second5).bind fun t13 => if (decide (t12.b = t13.b)) = true then some (some (k_10, second5)) else some none)) t9).bind fun t14 => (catO (α := (Int × Int)) s4 t14).bind fun t15 => some t15))) (xs := range' 0 (ways.length : Int)) (s0 := ([] : List (Int × Int))) (fun i s => s.length ≤ 100 * i ∧ ∀ p, p ∈ s ↔ Pk i p ∧ sl ways p) (fun i x s hx hs => by
    obtain ⟨l, mem⟩ := hs
    obtain ⟨rfl, hi⟩ := rngAt hx
    have hi : i < ways.length := by omega
    rw [show (0 : Int) + (i : Int) = (i : Int) by omega] at hx ⊢
    have gi : ways[i]? = some ways[i] := List.getElem?_eq_getElem hi
    have ei : idx ways (i : Int) = some ways[i] := idx_of (by omega) (by rw [Int.toNat_natCast]; exact gi)
    have rl : (range' 0 (i : Int)).length = i := by rw [rng_len]; omega
    have e1 : lcG (β := (Int × Int)) (fun (k_10 : Int) => ((idx ways k_10).bind fun t12 => (idx ways (i : Int)).bind fun t13 => if (decide (t12.b = t13.b)) = true then some (some (k_10, (i : Int))) else some none)) (range' 0 (i : Int)) = some ((range' 0 (i : Int)).filterMap fun k => if (ways.getD k.toNat ⟨0, 0, 0⟩).b = ways[i].b then some (k, (i : Int)) else none) := lcG_some _ (by rw [rl, sizeL]; omega) fun k hk => by
      obtain ⟨k0, k1⟩ := mem_rng hk
      obtain ⟨y, ym, ey, gy⟩ := way_at (ways := ways) k0 (by omega)
      have gd : ways.getD k.toNat ⟨0, 0, 0⟩ = y := by rw [List.getD_eq_getElem?_getD, gy]; rfl
      rw [gd]
      refine bindS ey (bindS ei ?_)
      by_cases q : y.b = ways[i].b
      · rw [if_pos (decide_eq_true q), if_pos q]
      · rw [if_neg (by simpa using q), if_neg q]
    have l1 : ((range' 0 (i : Int)).filterMap fun k => if (ways.getD k.toNat ⟨0, 0, 0⟩).b = ways[i].b then some (k, (i : Int)) else none).length ≤ i := by
      refine Nat.le_trans (List.length_filterMap_le _ _) (Nat.le_of_eq rl)
    refine ⟨_, bindS (rngO_ok (by omega)) (bindS e1 (bindS (cat_ok (by rw [sizeL]; omega)) rfl)), by rw [List.length_append]; omega, fun p => ?_⟩
    rw [List.mem_append, mem p, List.mem_filterMap]
    constructor
    · rintro (⟨⟨p0, p1, p2⟩, q⟩ | ⟨k, hk, e⟩)
      · exact ⟨⟨p0, p1, by omega⟩, q⟩
      · obtain ⟨k0, k1⟩ := mem_rng hk
        split at e
        · rename_i q
          cases e
          obtain ⟨y, ym, ey, gy⟩ := way_at (ways := ways) k0 (by omega)
          have gd : ways.getD k.toNat ⟨0, 0, 0⟩ = y := by rw [List.getD_eq_getElem?_getD, gy]; rfl
          rw [gd] at q
          exact ⟨⟨k0, k1, by show (i : Int) < ((i + 1 : Nat) : Int); omega⟩, y, ways[i], gy, by show ways[((i : Int)).toNat]? = _; rw [Int.toNat_natCast]; exact gi, q⟩
        · cases e
    · rintro ⟨⟨p0, p1, p2⟩, x, y, gx, gy, q⟩
      by_cases z : p.2 < i
      · exact .inl ⟨⟨p0, p1, z⟩, x, y, gx, gy, q⟩
      · have ep : p.2 = (i : Int) := by omega
        refine .inr ⟨p.1, mem_rng'.mpr ⟨p0, by omega⟩, ?_⟩
        rw [ep, Int.toNat_natCast, gi] at gy
        cases gy
        rw [List.getD_eq_getElem?_getD, gx]
        exact (if_pos (show x.b = ways[i].b from q)).trans (congrArg some (Prod.ext rfl ep.symm))) ⟨Nat.le_refl _, fun p => ⟨(fun z => nomatch z), fun z => by have := z.1.1; have := z.1.2.1; have := z.1.2.2; omega⟩⟩
  rw [hl] at l mem
  exact ⟨ps, e, by omega, mem⟩
theorem drawn_ok {n : Nat} (hn : n < 2 ^ 50) {w : List Int} (hw : WeC n w) : ∃ ps w', m_l_drawn w (m : Int) ways = some (ps, w') ∧ Right m ways ps ∧ ps.length ≤ m ∧ (∀ p ∈ ps, Pk ways.length p) ∧ WeC (n + 100) w' := by
  have m9 := h.m9
  have n9 := h.n9
  have hm : m ≤ 3999 := by omega
  obtain ⟨f6, e6, l6, mem6⟩ := pairs_ok h
  have ml : (range' 0 (m : Int)).length = m := by rw [rng_len]; omega
  have hsome : ∀ {u : List Int}, Hd m u → lcG (β := (Int × Int)) (fun (pair23 : (Int × Int)) => ((idx ways pair23.1).bind fun t25 => (idx ways pair23.2).bind fun t26 => (m_l_joined (lw m u) t25 t26).bind fun t27 => if (!decide (t27 = ([] : (List Int)))) = true then some (some pair23) else some none)) f6 = some (f6.filterMap fun p => if (jn (hd u) (ways.getD p.1.toNat ⟨0, 0, 0⟩) (ways.getD p.2.toNat ⟨0, 0, 0⟩)).isSome = true then some p else none) := fun {u} hu => lcG_some _ (by rw [sizeL]; omega) fun p hp => by
    obtain ⟨⟨p0, p1, p2⟩, _⟩ := (mem6 p).mp hp
    obtain ⟨x, xm, ex, gx⟩ := way_at (ways := ways) p0 (by omega)
    obtain ⟨y, ym, ey, gy⟩ := way_at (ways := ways) (p := p.2) (by omega) p2
    have dx : ways.getD p.1.toNat ⟨0, 0, 0⟩ = x := by rw [List.getD_eq_getElem?_getD, gx]; rfl
    have dy : ways.getD p.2.toNat ⟨0, 0, 0⟩ = y := by rw [List.getD_eq_getElem?_getD, gy]; rfl
    rw [dx, dy]
    refine bindS ex (bindS ey (bindS (joined_ok hm (w := u) (h.inw x xm) (h.inw y ym)) ?_))
    cases jn (hd u) x y with
    | none => rfl
    | some q => rfl
  have main := lpRZ (f := (fun (s18 : ((List Int) × (List (Int × Int)) × (List Int))) (turn19 : Int) => (((lcG (β := (Int × Int)) (fun (pair23 : (Int × Int)) => ((idx ways pair23.1).bind fun t25 => (idx ways pair23.2).bind fun t26 => (m_l_joined s18.1 t25 t26).bind fun t27 => if (!decide (t27 = ([] : (List Int)))) = true then some (some pair23) else some none)) f6).bind fun t28 => (if (decide (t28 = ([] : (List (Int × Int))))) = true then some (Step.ret (s18.2.1, s18.2.2)) else ((m_l_take s18.2.2 (t28.length : Int)).bind fun t29 => (idx t28 t29.1).bind fun t30 => ((appO s18.2.1 t30).bind fun t31 => ((idx ways t30.1).bind fun t32 => (idx ways t30.2).bind fun t33 => (m_l_joined s18.1 t32 t33).bind fun t34 => (m_l_with s18.1 t34).bind fun t35 => some (Step.go (t35, t31, t29.2))))))) : Option (Step ((List (Int × Int)) × (List Int)) ((List Int) × (List (Int × Int)) × (List Int))))))
    (xs := range' 0 (m : Int)) (s0 := (range' 0 (m : Int), ([] : List (Int × Int)), w)) (fun r => Right m ways r.1 ∧ r.1.length ≤ m ∧ (∀ p ∈ r.1, Pk ways.length p) ∧ WeC (n + 100) r.2) (fun i st => ∃ u, Hd m u ∧ st.1 = lw m u ∧ lpR (pF ways) st.2.1 (range' 0 (m : Int)) = some (.inr u) ∧ rcH m u + i ≤ m ∧ st.2.1.length ≤ i ∧ (∀ p ∈ st.2.1, Pk ways.length p) ∧ WeC (n + i) st.2.2) (fun i x st hx hs => by
      obtain ⟨hs1, found, well⟩ := st
      obtain ⟨u, hu, e0, e1, rc, fl, fp, wc⟩ := hs
      have hi : i < m := by rw [← ml]; exact (List.getElem?_eq_some_iff.mp hx).1
      have e0 : hs1 = lw m u := e0
      subst e0
      have e1 : lpR (pF ways) found (range' 0 (m : Int)) = some (.inr u) := e1
      have fl : found.length ≤ i := fl
      have fp : ∀ p ∈ found, Pk ways.length p := fp
      have wc : WeC (n + i) well := wc
      have e2 := hsome hu
      generalize hS : (f6.filterMap fun p => if (jn (hd u) (ways.getD p.1.toNat ⟨0, 0, 0⟩) (ways.getD p.2.toNat ⟨0, 0, 0⟩)).isSome = true then some p else none) = S at e2
      have memS : ∀ p, p ∈ S ↔ p ∈ f6 ∧ (jn (hd u) (ways.getD p.1.toNat ⟨0, 0, 0⟩) (ways.getD p.2.toNat ⟨0, 0, 0⟩)).isSome = true := fun p => by
        rw [← hS, List.mem_filterMap]
        constructor
        · rintro ⟨q, hq, e⟩
          split at e
          · rename_i z
            cases e
            exact ⟨hq, z⟩
          · cases e
        · rintro ⟨hq, z⟩
          exact ⟨p, hq, if_pos z⟩
      by_cases hz : S = []
      · refine .inr ⟨(found, well), bindS e2 (if_pos (by simp [hz])), ⟨u, e1, hu, fun x xm y ym eb => ?_⟩, by show found.length ≤ m; omega, fp, wc.mono (by omega)⟩
        obtain ⟨a, ga⟩ := List.mem_iff_getElem?.mp xm
        obtain ⟨b, gb⟩ := List.mem_iff_getElem?.mp ym
        have la := (List.getElem?_eq_some_iff.mp ga).1
        have lb := (List.getElem?_eq_some_iff.mp gb).1
        have none_of : ∀ {a b : Nat} {x y : Way}, ways[a]? = some x → ways[b]? = some y → x.b = y.b → a < b → jn (hd u) x y = none := fun {a b x y} ga gb eb hab => by
          have lb := (List.getElem?_eq_some_iff.mp gb).1
          cases q : jn (hd u) x y with
          | none => rfl
          | some r =>
            exfalso
            have : ((a : Int), (b : Int)) ∈ S := (memS _).mpr ⟨(mem6 _).mpr ⟨⟨by show (0 : Int) ≤ a; omega, by show (a : Int) < b; omega, by show (b : Int) < _; omega⟩, x, y, by show ways[((a : Int)).toNat]? = _; rw [Int.toNat_natCast]; exact ga, by show ways[((b : Int)).toNat]? = _; rw [Int.toNat_natCast]; exact gb, eb⟩, by
              show (jn (hd u) (ways.getD ((a : Int)).toNat ⟨0, 0, 0⟩) (ways.getD ((b : Int)).toNat ⟨0, 0, 0⟩)).isSome = true
              rw [Int.toNat_natCast, Int.toNat_natCast, List.getD_eq_getElem?_getD, List.getD_eq_getElem?_getD, ga, gb]
              show (jn (hd u) x y).isSome = true
              rw [q]
              rfl⟩
            rw [hz] at this
            cases this
        have iff_of : ∀ {x y : Way}, x.b = y.b → jn (hd u) x y = none → (hd u x.a = hd u y.a ↔ hd u x.c = hd u y.c) := fun {x y} eb e => by
          unfold jn at e
          rw [if_pos eb] at e
          split at e
          · cases e
          · rename_i q1
            split at e
            · cases e
            · rename_i q2
              constructor
              · intro k
                exact Classical.byContradiction fun z => q1 ⟨k, z⟩
              · intro k
                exact Classical.byContradiction fun z => q2 ⟨k, z⟩
        rcases Nat.lt_trichotomy a b with z | z | z
        · exact iff_of eb (none_of ga gb eb z)
        · subst z
          rw [ga] at gb
          cases gb
          exact Iff.of_eq (by rw [eq_self, eq_self])
        · have := iff_of eb.symm (none_of gb ga eb.symm z)
          exact ⟨fun k => (this.mp k.symm).symm, fun k => (this.mpr k.symm).symm⟩
      · have Sl : S.length ≤ 10000 := by
          rw [← hS]
          refine Nat.le_trans (List.length_filterMap_le _ _) ?_
          omega
        have S1 : 0 < S.length := List.length_pos_iff.mpr hz
        obtain ⟨v, w2, t1, v0, v1, wc2⟩ := takeC_ok (by omega) wc (many := (S.length : Int)) (by omega) (by omega)
        have gp : S[v.toNat]? = some S[v.toNat] := List.getElem?_eq_getElem (by omega)
        have t2 : idx S v = some S[v.toNat] := idx_of v0 gp
        have pm := List.getElem_mem (l := S) (n := v.toNat) (by omega)
        generalize S[v.toNat] = p at gp t2 pm
        obtain ⟨p6, pj⟩ := (memS p).mp pm
        obtain ⟨pk, _⟩ := (mem6 p).mp p6
        obtain ⟨p0, p1, p2⟩ := id pk
        obtain ⟨x, xm, ex, gx⟩ := way_at (ways := ways) p0 (by omega)
        obtain ⟨y, ym, ey, gy⟩ := way_at (ways := ways) (p := p.2) (by omega) p2
        have dx : ways.getD p.1.toNat ⟨0, 0, 0⟩ = x := by rw [List.getD_eq_getElem?_getD, gx]; rfl
        have dy : ways.getD p.2.toNat ⟨0, 0, 0⟩ = y := by rw [List.getD_eq_getElem?_getD, gy]; rfl
        rw [dx, dy] at pj
        rcases step_both (m := m) hm h.inw hu p with ⟨x', y', q, _, gx', gy', ej, k1, k2, hu2, rc2⟩ | ⟨_, _, kn⟩
        · rw [gx] at gx'
          rw [gy] at gy'
          cases gx'
          cases gy'
          have ejn := joined_ok hm (w := u) (h.inw x xm) (h.inw y ym)
          rw [ej] at ejn
          have ejn : m_l_joined (lw m u) x y = some [q.1, q.2] := ejn
          obtain ⟨z1, z2, z3⟩ := jn_root hm hu (h.inw x xm) (h.inw y ym) ej
          obtain ⟨_, _, _, ew⟩ := mg_ok hm hu z1 z2 z3
          refine .inl ⟨(lw m (mg u q), found ++ [p], w2), ?_, mg u q, hu2, rfl, ?_, by omega, by show (found ++ [p]).length ≤ _; rw [List.length_append]; show _ + 1 ≤ _; omega, fun r hr => ?_, wc2⟩
          · exact bindS e2 ((if_neg (by simpa using hz)).trans (bindS t1 (bindS t2 (bindS (app_ok (by rw [sizeL]; omega)) (bindS ex (bindS ey (bindS ejn (bindS ew rfl))))))))
          · show lpR (pF ways) (found ++ [p]) (range' 0 (m : Int)) = _
            rw [lpR_app found [p] e1 pF_brk]
            exact bindS k1 rfl
          · rcases List.mem_append.mp hr with z | z
            · exact fp r z
            · rw [List.mem_singleton.mp z]; exact pk
        · rw [kn x y pk gx gy] at pj
          cases pj) ⟨range' 0 (m : Int), hd_start m, (lw_start m).symm, rfl, by
        have : rcH m (range' 0 (m : Int)) ≤ m := by
          refine Nat.le_trans (List.length_filter_le _ _) (Nat.le_of_eq ml)
        omega, Nat.le_refl _, (fun p z => nomatch z), hw⟩
  rcases main with ⟨st, _, u, hu, _, _, rc, _⟩ | ⟨r, e, R, rl, rp, wc⟩
  · exfalso
    rw [ml] at rc
    have u0 : upH u 0 = 0 := by
      have := hu.le 0 (Int.le_refl _) (by have := h.m1; omega)
      omega
    have : 0 < rcH m u := List.length_pos_of_mem (List.mem_filter.mpr ⟨mem_rng'.mpr ⟨Int.le_refl _, by have := h.m1; omega⟩, decide_eq_true u0⟩)
    omega
  · refine ⟨r.1, r.2, ?_, R, rl, rp, wc⟩
    unfold m_l_drawn
    exact bindS (rgM (by omega)) (bindS (rngO_ok (by omega)) (bindS e6 (bindS (rngO_ok (by omega)) (bindS e rfl))))
end
end L12
namespace L12
open PySem PySem.Spec L2 Z
theorem txt_none : Txt 0 10 PyData.none := by refine ⟨?_, ?_, ?_, ?_⟩ <;> decide +kernel
theorem txt_bool (b : Bool) : Txt 0 10 (PyData.bool b) := by cases b <;> (refine ⟨?_, ?_, ?_, ?_⟩ <;> decide +kernel)
theorem txt_i {i : Int} (h : i.natAbs < 2 ^ 20) : Txt 0 21 (PyData.int i) := txt_int (k := 20) (by decide) (by decide) h
def strG (t : Str) : Bool := PyData.showable (.str t) && !PyData.hasDict (.str t) && decide (PyData.depth (.str t) ≤ 0) && decide ((PyData.shown (.str t)).length ≤ 50)
theorem txt_str {t : Str} (h : strG t = true) : Txt 0 50 (PyData.str t) := by
  unfold strG at h
  simp only [Bool.and_eq_true, Bool.not_eq_true', decide_eq_true_eq] at h
  exact ⟨h.1.1.1, h.1.1.2, h.1.2, h.2⟩
theorem str_small : ∀ k : Nat, k < 100 → ∃ t, strO (k : Int) = some t ∧ strG t = true := by
  have h : (List.range 100).all (fun k => match strO (k : Int) with | some t => strG t | none => false) = true := by decide +kernel
  intro k hk
  have := List.all_eq_true.mp h k (List.mem_range.mpr hk)
  cases e : strO (k : Int) with
  | none => rw [e] at this; cases this
  | some t => rw [e] at this; exact ⟨t, rfl, this⟩
theorem bad_kind {v : PyData} {n : Int} (h : isiO v "tuple" = some false) : m_p_is_pair_d v n = some false := by
  unfold m_p_is_pair_d
  exact bindS h (bindS (a := true) (if_pos rfl) (if_pos rfl))
theorem bad_len {ds : List PyData} {n : Int} (h : ds.length ≠ 2) : m_p_is_pair_d (.tuple ds) n = some false := by
  unfold m_p_is_pair_d
  refine bindS (a := true) rfl (bindS (a := true) ((if_neg (by simp)).trans (bindS rfl (bindS (a := true) (if_pos ?_) rfl))) (if_pos rfl))
  rw [decide_eq_false (by omega)]
  rfl
theorem bad_two {a b : PyData} {n : Int} {p q : Bool} (ha : m_p_is_integer_d a = some p) (hb : m_p_is_integer_d b = some q) (h : (p && q) = false) : m_p_is_pair_d (.tuple [a, b]) n = some false := by
  unfold m_p_is_pair_d
  have e : lcO (β := Bool) (fun (number4 : PyData) => ((m_p_is_integer_d number4).bind fun t6 => some t6)) [a, b] = some [p, q] := by
    unfold lcO
    rw [if_pos (by show 2 < _; rw [sizeL]; omega)]
    unfold mapO
    rw [ha]
    unfold mapO
    rw [hb]
    rfl
  refine bindS (a := true) rfl (bindS (a := true) ((if_neg (by simp)).trans (bindS rfl (bindS (a := true) ((if_neg (by simp)).trans (bindS rfl (bindS e ?_))) rfl))) (if_pos rfl))
  cases p <;> cases q <;> simp_all
theorem int_yes (x : Int) : m_p_is_integer_d (.int x) = some true := rfl
theorem int_bool (x : Bool) : m_p_is_integer_d (.bool x) = some false := rfl
theorem int_str (x : Str) : m_p_is_integer_d (.str x) = some false := rfl
theorem int_none : m_p_is_integer_d .none = some false := rfl
theorem int_tup (x : List PyData) : m_p_is_integer_d (.tuple x) = some false := rfl
theorem int_list (x : List PyData) : m_p_is_integer_d (.list x) = some false := rfl
/-- an entry that is no pair, and whose text can be asked for -/
def Bad (n : Int) (v : PyData) : Prop := m_p_is_pair_d v n = some false ∧ Txt 4 1000 v
end L12
namespace L12
open PySem PySem.Spec L2 Z
theorem txt_pair {n : Nat} (hn : n ≤ 1000) {p : Int × Int} (h : Pk n p) : Txt 1 100 (eP PyData.int PyData.int p) := by
  obtain ⟨p0, p1, p2⟩ := h
  refine (txt_tup (k := 0) (n := 21) (ds := [.int p.1, .int p.2]) (fun d hd => ?_)).mono (by decide) (by simp only [List.length_cons, List.length_nil]; omega)
  rcases List.mem_cons.mp hd with rfl | hd
  · exact txt_i (by omega)
  · rw [List.mem_singleton.mp hd]
    exact txt_i (by omega)
theorem txt_list' {k n m : Nat} {ds : List PyData} (h : ∀ d ∈ ds, Txt k n d) (hl : ds.length ≤ m) : Txt (k + 1) (m * (n + 2) + 2) (.list ds) := (txt_list h).mono (Nat.le_refl _) (Nat.add_le_add_right (Nat.mul_le_mul_right _ hl) _)
theorem txt_tup' {k n m : Nat} {ds : List PyData} (h : ∀ d ∈ ds, Txt k n d) (hl : ds.length ≤ m) : Txt (k + 1) (m * (n + 2) + 3) (.tuple ds) := (txt_tup h).mono (Nat.le_refl _) (Nat.add_le_add_right (Nat.mul_le_mul_right _ hl) _)
theorem rep_of {k n : Nat} {d : PyData} (h : Txt k n d) (hk : k ≤ 60) (hn : n ≤ 10000000) : ∃ t, reprE d = some t := by
  have e := h.repr hk (show n ≤ sizeLine by rw [sizeL]; omega)
  unfold reprE
  split
  · exact ⟨_, rfl⟩
  · exact ⟨_, e⟩
section
variable {m : Nat} {ways : List Way} (h : Pt m ways) {L : Int} {ws : List (List Int)} (hp : m_p_petals L ws = some ((m : Int), ways)) {right : List (Int × Int)} (R : Right m ways right) (rl : right.length ≤ 100) (rk : ∀ p ∈ right, Pk ways.length p)
def Good (L : Int) (ws : List (List Int)) (v : PyData) : Prop := m_p_joinings_hold_d L ws v = some false ∧ ∃ t, reprE v = some t
include h hp R rl rk
theorem in_bad {base : List (Int × Int)} {a : Int} (a0 : 0 ≤ a) (hb : base.take a.toNat = right.take a.toNat) (bl : base.length ≤ 100) (bk : ∀ p ∈ base, Pk ways.length p) {v : PyData} (bv : Bad ways.length v) : ∃ l, m_l_in_d (List.map (eP PyData.int PyData.int) base) a v = some l ∧ Good L ws (PyData.list (List.map id l)) := by
  have n9 := h.n9
  have ec : cut (List.map (eP PyData.int PyData.int) base) none (some a) = (right.take a.toNat).map (eP PyData.int PyData.int) := by
    rw [cut_to _ a0, ← List.map_take, hb]
  have ed : cut (List.map (eP PyData.int PyData.int) base) (some a) none = (base.drop a.toNat).map (eP PyData.int PyData.int) := by
    rw [cut_from _ a0, ← List.map_drop]
  have l1 : (right.take a.toNat).length ≤ 100 := by rw [List.length_take]; omega
  have l2 : (base.drop a.toNat).length ≤ 100 := by rw [List.length_drop]; omega
  refine ⟨(right.take a.toNat).map (eP PyData.int PyData.int) ++ v :: (base.drop a.toNat).map (eP PyData.int PyData.int), ?_, ?_, ?_⟩
  · unfold m_l_in_d
    rw [ec, ed]
    refine bindS (cat_ok (by rw [List.length_map, sizeL]; show _ + 1 ≤ _; omega)) (bindS (cat_ok (by rw [List.length_append, List.length_map, List.length_map, sizeL]; show _ + 1 + _ ≤ _; omega)) ?_)
    rw [List.append_assoc]
    rfl
  · rw [List.map_id]
    refine bad_entry h hp (tl := right.drop a.toNat) (by rw [List.take_append_drop]; exact R) bv.1 _
  · rw [List.map_id]
    refine rep_of (txt_list' (k := 4) (n := 1000) (m := 201) (fun d hd => ?_) ?_) (by decide) (by decide)
    · rcases List.mem_append.mp hd with z | z
      · obtain ⟨p, hp', rfl⟩ := List.mem_map.mp z
        exact (txt_pair (by omega) (rk p (List.mem_of_mem_take hp'))).mono (by decide) (by decide)
      · rcases List.mem_cons.mp z with rfl | z
        · exact bv.2
        · obtain ⟨p, hp', rfl⟩ := List.mem_map.mp z
          exact (txt_pair (by omega) (bk p (List.mem_of_mem_drop hp'))).mono (by decide) (by decide)
    · rw [List.length_append, List.length_cons, List.length_map, List.length_map]
      omega
theorem list_txt : Txt 2 20000 (PyData.list (List.map (eP PyData.int PyData.int) right)) := by
  have n9 := h.n9
  refine (txt_list' (k := 1) (n := 100) (m := 100) (fun d hd => ?_) (by rw [List.length_map]; exact rl)).mono (by decide) (by decide)
  obtain ⟨p, hp', rfl⟩ := List.mem_map.mp hd
  exact txt_pair (by omega) (rk p hp')
theorem tup_txt : Txt 2 20000 (PyData.tuple (List.map (eP PyData.int PyData.int) right)) := by
  have n9 := h.n9
  refine (txt_tup' (k := 1) (n := 100) (m := 100) (fun d hd => ?_) (by rw [List.length_map]; exact rl)).mono (by decide) (by decide)
  obtain ⟨p, hp', rfl⟩ := List.mem_map.mp hd
  exact txt_pair (by omega) (rk p hp')
theorem loop_bad {base : List (Int × Int)} {a : Int} (a0 : 0 ≤ a) (hb : base.take a.toNat = right.take a.toNat) (bl : base.length ≤ 100) (bk : ∀ p ∈ base, Pk ways.length p) {vs : List PyData} (hv : ∀ v ∈ vs, Bad ways.length v) (vl : vs.length ≤ 100) {s0 : List PyData} (hs : ∀ v ∈ s0, Good L ws v) (sl : s0.length ≤ 1000) : ∃ s, lp (fun (s2 : (List PyData)) (entry3 : PyData) => ((m_l_in_d (List.map (eP PyData.int PyData.int) base) a entry3).bind fun t7 => (appO s2 (PyData.list (List.map id t7))).bind fun t8 => some t8)) vs s0 = some s ∧ (∀ v ∈ s, Good L ws v) ∧ s.length ≤ s0.length + vs.length := by
  obtain ⟨s, e, q1, q2⟩ := lp_goN (f := (fun (s2 : (List PyData)) (entry3 : PyData) => ((m_l_in_d (List.map (eP PyData.int PyData.int) base) a entry3).bind fun t7 => (appO s2 (PyData.list (List.map id t7))).bind fun t8 => some t8))) (xs := vs) (s0 := s0) (fun i s => (∀ v ∈ s, Good L ws v) ∧ s.length ≤ s0.length + i) (fun i x s hx hs' => by
    obtain ⟨q1, q2⟩ := hs'
    have hi := (List.getElem?_eq_some_iff.mp hx).1
    obtain ⟨l, e, g⟩ := in_bad h hp R rl rk a0 hb bl bk (hv x (List.mem_of_getElem? hx))
    refine ⟨s ++ [PyData.list (List.map id l)], bindS e (bindS (app_ok (by rw [sizeL]; omega)) rfl), fun v hv => ?_, by rw [List.length_append]; show s.length + 1 ≤ _; omega⟩
    rcases List.mem_append.mp hv with z | z
    · exact q1 v z
    · rw [List.mem_singleton.mp z]; exact g) ⟨hs, Nat.le_refl _⟩
  exact ⟨s, e, q1, q2⟩
theorem no_lists_ok {n : Nat} (hn : n < 2 ^ 50) {w : List Int} (hw : WeC n w) : ∃ vs w', m_l_no_lists w right = some (vs, w') ∧ (∀ v ∈ vs, Good L ws v) ∧ WeC (n + 10) w' := by
  have n9 := h.n9
  obtain ⟨a, w1, t1, a0, a1, k1⟩ := takeC_ok (by omega) hw (many := (right.length : Int) + 1) (by omega) (by omega)
  have t1 : m_l_take w ((right.length : Int) + 1) = some (a, w1) := t1
  have z10 : Txt 0 10 PyData.none := txt_none
  have lt := list_txt h hp R rl rk
  have tt := tup_txt h hp R rl rk
  have bad1 : ∀ v ∈ [(PyData.list (List.map PyData.int ([]))), (PyData.tuple (List.map PyData.int ([]))), (PyData.tuple (List.map PyData.int ([0]))), (PyData.tuple [(PyData.int (Tri.mk 0 1 2).a), (PyData.int (Tri.mk 0 1 2).b), (PyData.int (Tri.mk 0 1 2).c)]), PyData.none, (PyData.int 0), (PyData.str ("01" : Str)), (PyData.tuple (List.map (eP PyData.int PyData.int) ([(0, 1)]))), (PyData.tuple [(PyData.int (0, ("1" : Str)).1), (PyData.str (0, ("1" : Str)).2)]), (PyData.tuple [PyData.none, (PyData.int ((), 1).2)]), (PyData.tuple [(PyData.bool (false, 1).1), (PyData.int (false, 1).2)]), (PyData.tuple [(PyData.int (0, [1]).1), (PyData.tuple (List.map PyData.int (0, [1]).2))])], Bad ways.length v := fun v hv => by
    have int0 : ∀ x : Int, x.natAbs < 10 → Txt 0 50 (PyData.int x) := fun x hx => (txt_i (by omega)).mono (by decide) (by decide)
    have two : ∀ (a b : PyData), Txt 3 90 a → Txt 3 90 b → Txt 4 1000 (PyData.tuple [a, b]) := fun a b ha hb => (txt_tup (k := 3) (n := 90) (ds := [a, b]) (fun d hd => by
      rcases List.mem_cons.mp hd with rfl | hd
      · exact ha
      · rw [List.mem_singleton.mp hd]; exact hb)).mono (by decide) (by show 2 * 92 + 3 ≤ _; omega)
    simp only [List.mem_cons, List.not_mem_nil, or_false] at hv
    rcases hv with rfl | rfl | rfl | rfl | rfl | rfl | rfl | rfl | rfl | rfl | rfl | rfl
    · exact ⟨bad_kind rfl, (txt_list (k := 3) (n := 10) (ds := []) (fun _ z => nomatch z)).mono (by decide) (by decide)⟩
    · exact ⟨bad_len (by decide), (txt_tup (k := 3) (n := 10) (ds := []) (fun _ z => nomatch z)).mono (by decide) (by decide)⟩
    · exact ⟨bad_len (by decide), (txt_tup (k := 0) (n := 50) (ds := [PyData.int 0]) (fun d hd => by rw [List.mem_singleton.mp hd]; exact int0 0 (by decide))).mono (by decide) (by decide)⟩
    · refine ⟨bad_len (by decide), (txt_tup (k := 0) (n := 50) (ds := [PyData.int 0, PyData.int 1, PyData.int 2]) (fun d hd => ?_)).mono (by decide) (by decide)⟩
      simp only [List.mem_cons, List.not_mem_nil, or_false] at hd
      rcases hd with rfl | rfl | rfl
      · exact int0 0 (by decide)
      · exact int0 1 (by decide)
      · exact int0 2 (by decide)
    · exact ⟨bad_kind rfl, z10.mono (by decide) (by decide)⟩
    · exact ⟨bad_kind rfl, (int0 0 (by decide)).mono (by decide) (by decide)⟩
    · exact ⟨bad_kind rfl, (txt_str (by decide +kernel)).mono (by decide) (by decide)⟩
    · exact ⟨bad_len (by decide), (txt_tup (k := 1) (n := 100) (ds := [eP PyData.int PyData.int (0, 1)]) (fun d hd => by rw [List.mem_singleton.mp hd]; exact txt_pair (n := 2) (by decide) ⟨by decide, by decide, by decide⟩)).mono (by decide) (by decide)⟩
    · exact ⟨bad_two (int_yes 0) (int_str _) rfl, two _ _ ((int0 0 (by decide)).mono (by decide) (by decide)) ((txt_str (by decide +kernel)).mono (by decide) (by decide))⟩
    · exact ⟨bad_two int_none (int_yes 1) rfl, two _ _ (z10.mono (by decide) (by decide)) ((int0 1 (by decide)).mono (by decide) (by decide))⟩
    · exact ⟨bad_two (int_bool false) (int_yes 1) rfl, two _ _ ((txt_bool false).mono (by decide) (by decide)) ((int0 1 (by decide)).mono (by decide) (by decide))⟩
    · exact ⟨bad_two (int_yes 0) (int_tup _) rfl, two _ _ ((int0 0 (by decide)).mono (by decide) (by decide)) ((txt_tup (k := 0) (n := 50) (ds := [PyData.int 1]) (fun d hd => by rw [List.mem_singleton.mp hd]; exact int0 1 (by decide))).mono (by decide) (by decide))⟩
  have good0 : ∀ v ∈ [(PyData.tuple (List.map (eP PyData.int PyData.int) right)), PyData.none, (PyData.int (right.length : Int)), (PyData.str ("[]" : Str)), (Kd.pd kI (eM PyData.int ([] : (List (Int × Int))))), (PyData.tuple [(PyData.list (List.map (eP PyData.int PyData.int) (right, right).1)), (PyData.list (List.map (eP PyData.int PyData.int) (right, right).2))]), (PyData.list (List.map (eL (eP PyData.int PyData.int)) ([right]))), (PyData.bool true)], Good L ws v := fun v hv => by
    simp only [List.mem_cons, List.not_mem_nil, or_false] at hv
    rcases hv with rfl | rfl | rfl | rfl | rfl | rfl | rfl | rfl
    · exact ⟨no_list h hp rfl, rep_of tt (by decide) (by decide)⟩
    · exact ⟨no_list h hp rfl, rep_of z10 (by decide) (by decide)⟩
    · exact ⟨no_list h hp rfl, rep_of (txt_i (by omega)) (by decide) (by decide)⟩
    · exact ⟨no_list h hp rfl, rep_of (txt_str (by decide +kernel)) (by decide) (by decide)⟩
    · exact ⟨no_list h hp rfl, _, rfl⟩
    · refine ⟨no_list h hp rfl, rep_of (txt_tup' (k := 2) (n := 20000) (m := 2) (fun d hd => ?_) (Nat.le_refl _)) (by decide) (by decide)⟩
      rcases List.mem_cons.mp hd with rfl | hd
      · exact lt
      · rw [List.mem_singleton.mp hd]; exact lt
    · refine ⟨bad_entry h hp (pre := []) (tl := right) R (bad := PyData.list (List.map (eP PyData.int PyData.int) right)) (bad_kind rfl) [], rep_of (txt_list' (k := 2) (n := 20000) (m := 1) (ds := [PyData.list (List.map (eP PyData.int PyData.int) right)]) (fun d hd => ?_) (Nat.le_refl _)) (by decide) (by decide)⟩
      rw [List.mem_singleton.mp hd]; exact lt
    · exact ⟨no_list h hp rfl, rep_of (txt_bool true) (by decide) (by decide)⟩
  obtain ⟨s1, e1, g1, l1⟩ := loop_bad h hp R rl rk a0 rfl rl rk bad1 (by decide) good0 (by show 8 ≤ 1000; omega)
  have l1 : s1.length ≤ 8 + 12 := l1
  by_cases hz : right = []
  · refine ⟨s1, w1, ?_, g1, k1.mono (by omega)⟩
    unfold m_l_no_lists
    refine bindS t1 (bindS e1 (bindS (a := (a, s1, w1)) (if_neg (by simp [hz])) rfl))
  · have rpos : 0 < right.length := List.length_pos_iff.mpr hz
    obtain ⟨b, w2, t2, b0, b1, k2⟩ := takeC_ok (by omega) k1 (many := (right.length : Int)) (by omega) (by omega)
    have t2 : m_l_take w1 (right.length : Int) = some (b, w2) := t2
    have gp : right[b.toNat]? = some right[b.toNat] := List.getElem?_eq_getElem (by omega)
    have t3 : idx right b = some right[b.toNat] := idx_of b0 gp
    have pm := rk _ (List.getElem_mem (l := right) (n := b.toNat) (by omega))
    generalize right[b.toNat] = p at gp t3 pm
    obtain ⟨p0, p1, p2⟩ := pm
    have ec : cut right none (some b) = right.take b.toNat := cut_to _ b0
    have ed : cut right (some (b + 1)) none = right.drop (b.toNat + 1) := by
      rw [cut_from _ (by omega), show (b + 1).toNat = b.toNat + 1 by omega]
    have ll : (right.take b.toNat ++ right.drop (b.toNat + 1)).length ≤ 100 := by rw [List.length_append, List.length_take, List.length_drop]; omega
    have t4 : catO (α := (Int × Int)) (cut right none (some b)) (cut right (some (b + 1)) none) = some (right.take b.toNat ++ right.drop (b.toNat + 1)) := by
      rw [ec, ed]
      exact cat_ok (by rw [List.length_append] at ll; rw [sizeL]; omega)
    have hb : (right.take b.toNat ++ right.drop (b.toNat + 1)).take b.toNat = right.take b.toNat := List.take_left' (by rw [List.length_take]; omega)
    have bk : ∀ p ∈ right.take b.toNat ++ right.drop (b.toNat + 1), Pk ways.length p := fun q hq => by
      rcases List.mem_append.mp hq with z | z
      · exact rk q (List.mem_of_mem_take z)
      · exact rk q (List.mem_of_mem_drop z)
    obtain ⟨st, t5, gst⟩ := str_small p.1.toNat (by omega)
    have t5 : strO p.1 = some st := by
      rw [show p.1 = (p.1.toNat : Int) by omega]
      exact t5
    have i1 : Txt 0 50 (PyData.int p.1) := (txt_i (by omega)).mono (by decide) (by decide)
    have i2 : Txt 0 50 (PyData.int p.2) := (txt_i (by omega)).mono (by decide) (by decide)
    have two : ∀ (a b : PyData), Txt 3 90 a → Txt 3 90 b → Txt 4 1000 (PyData.tuple [a, b]) := fun a b ha hb => (txt_tup (k := 3) (n := 90) (ds := [a, b]) (fun d hd => by
      rcases List.mem_cons.mp hd with rfl | hd
      · exact ha
      · rw [List.mem_singleton.mp hd]; exact hb)).mono (by decide) (by show 2 * 92 + 3 ≤ _; omega)
    have bad2 : ∀ v ∈ [(PyData.list (List.map PyData.int ([p.1, p.2]))), (PyData.tuple [(PyData.int (Tri.mk p.1 p.2 p.2).a), (PyData.int (Tri.mk p.1 p.2 p.2).b), (PyData.int (Tri.mk p.1 p.2 p.2).c)]), (PyData.tuple (List.map PyData.int ([p.2]))), (PyData.tuple [(PyData.str (st, p.2).1), (PyData.int (st, p.2).2)]), (PyData.tuple [(PyData.int (p.1, [p.2]).1), (PyData.list (List.map PyData.int (p.1, [p.2]).2))])], Bad ways.length v := fun v hv => by
      simp only [List.mem_cons, List.not_mem_nil, or_false] at hv
      rcases hv with rfl | rfl | rfl | rfl | rfl
      · refine ⟨bad_kind rfl, (txt_list (k := 0) (n := 50) (ds := [PyData.int p.1, PyData.int p.2]) (fun d hd => ?_)).mono (by decide) (by show 2 * 52 + 2 ≤ _; omega)⟩
        rcases List.mem_cons.mp hd with rfl | hd
        · exact i1
        · rw [List.mem_singleton.mp hd]; exact i2
      · refine ⟨bad_len (by show 3 ≠ 2; omega), (txt_tup (k := 0) (n := 50) (ds := [PyData.int p.1, PyData.int p.2, PyData.int p.2]) (fun d hd => ?_)).mono (by decide) (by show 3 * 52 + 3 ≤ _; omega)⟩
        simp only [List.mem_cons, List.not_mem_nil, or_false] at hd
        rcases hd with rfl | rfl | rfl
        · exact i1
        · exact i2
        · exact i2
      · exact ⟨bad_len (by show 1 ≠ 2; omega), (txt_tup (k := 0) (n := 50) (ds := [PyData.int p.2]) (fun d hd => by rw [List.mem_singleton.mp hd]; exact i2)).mono (by decide) (by show 1 * 52 + 3 ≤ _; omega)⟩
      · exact ⟨bad_two (int_str _) (int_yes _) rfl, two _ _ ((txt_str gst).mono (by decide) (by decide)) (i2.mono (by decide) (by decide))⟩
      · exact ⟨bad_two (int_yes _) (int_list _) rfl, two _ _ (i1.mono (by decide) (by decide)) ((txt_list (k := 0) (n := 50) (ds := [PyData.int p.2]) (fun d hd => by rw [List.mem_singleton.mp hd]; exact i2)).mono (by decide) (by show 1 * 52 + 2 ≤ _; omega))⟩
    obtain ⟨s2, e2, g2, l2⟩ := loop_bad h hp R rl rk b0 hb ll bk bad2 (by show 5 ≤ 100; omega) g1 (by omega)
    have l2 : s2.length ≤ s1.length + 5 := l2
    obtain ⟨x1, f1, y1⟩ := in_bad h hp R rl rk b0 hb ll bk (v := PyData.tuple [(PyData.bool ((decide (p.1 = 1)), p.2).1), (PyData.int ((decide (p.1 = 1)), p.2).2)]) ⟨bad_two (int_bool _) (int_yes _) rfl, two _ _ ((txt_bool _).mono (by decide) (by decide)) (i2.mono (by decide) (by decide))⟩
    obtain ⟨x2, f2, y2⟩ := in_bad h hp R rl rk b0 hb ll bk (v := PyData.tuple [(PyData.int (p.1, (decide (p.2 = 1))).1), (PyData.bool (p.1, (decide (p.2 = 1))).2)]) ⟨bad_two (int_yes _) (int_bool _) rfl, two _ _ (i1.mono (by decide) (by decide)) ((txt_bool _).mono (by decide) (by decide))⟩
    have snoc : ∀ {s : List PyData} {x : List PyData}, (∀ v ∈ s, Good L ws v) → Good L ws (PyData.list (List.map id x)) → ∀ v ∈ s ++ [PyData.list (List.map id x)], Good L ws v := fun {s x} gs gx v hv => by
      rcases List.mem_append.mp hv with z | z
      · exact gs v z
      · rw [List.mem_singleton.mp z]; exact gx
    obtain ⟨s3, e3, g3, l3⟩ : ∃ s3, (if (decide (p.1 < 2)) = true then ((m_l_in_d (List.map (eP PyData.int PyData.int) (right.take b.toNat ++ right.drop (b.toNat + 1))) b (PyData.tuple [(PyData.bool ((decide (p.1 = 1)), p.2).1), (PyData.int ((decide (p.1 = 1)), p.2).2)])).bind fun t22 => (appO s2 (PyData.list (List.map id t22))).bind fun t23 => some t23) else some s2 : Option (List PyData)) = some s3 ∧ (∀ v ∈ s3, Good L ws v) ∧ s3.length ≤ s2.length + 1 := by
      by_cases q : p.1 < 2
      · exact ⟨_, (if_pos (decide_eq_true q)).trans (bindS f1 (bindS (app_ok (by rw [sizeL]; omega)) rfl)), snoc g2 y1, by rw [List.length_append]; exact Nat.le_refl _⟩
      · exact ⟨s2, if_neg (by simpa using q), g2, Nat.le_succ _⟩
    obtain ⟨s4, e4, g4⟩ : ∃ s4, (if (decide (p.2 < 2)) = true then ((m_l_in_d (List.map (eP PyData.int PyData.int) (right.take b.toNat ++ right.drop (b.toNat + 1))) b (PyData.tuple [(PyData.int (p.1, (decide (p.2 = 1))).1), (PyData.bool (p.1, (decide (p.2 = 1))).2)])).bind fun t25 => (appO s3 (PyData.list (List.map id t25))).bind fun t26 => some t26) else some s3 : Option (List PyData)) = some s4 ∧ ∀ v ∈ s4, Good L ws v := by
      by_cases q : p.2 < 2
      · exact ⟨_, (if_pos (decide_eq_true q)).trans (bindS f2 (bindS (app_ok (by rw [sizeL]; omega)) rfl)), snoc g3 y2⟩
      · exact ⟨s3, if_neg (by simpa using q), g3⟩
    refine ⟨s4, w2, ?_, g4, k2.mono (by omega)⟩
    unfold m_l_no_lists
    exact bindS t1 (bindS e1 (bindS (a := (b, s4, w2)) ((if_pos (by simp [hz])).trans (bindS t2 (bindS t3 (bindS t4 (bindS t5 (bindS e2 (bindS e3 (bindS e4 rfl)))))))) rfl))
end
end L12
namespace L12
open PySem PySem.Spec L2 Z
theorem in_ok {xs : List (Int × Int)} (hl : xs.length ≤ 1000) {a : Int} (a0 : 0 ≤ a) (e : Int × Int) : ∃ l, m_l_in xs a e = some l := by
  have ec : cut xs none (some a) = xs.take a.toNat := cut_to _ a0
  have ed : cut xs (some a) none = xs.drop a.toNat := cut_from _ a0
  have l1 : (xs.take a.toNat).length ≤ 1000 := by rw [List.length_take]; omega
  have l2 : (xs.drop a.toNat).length ≤ 1000 := by rw [List.length_drop]; omega
  unfold m_l_in
  rw [ec, ed]
  exact ⟨_, bindS (cat_ok (by rw [sizeL]; show _ + 1 ≤ _; omega)) (bindS (cat_ok (by rw [List.length_append, sizeL]; show _ + 1 + _ ≤ _; omega)) rfl)⟩
theorem numbers_ok {right : List (Int × Int)} (rl : right.length ≤ 100) {many : Nat} (mn : many ≤ 100) {n : Nat} (hn : n < 2 ^ 50) {w : List Int} (hw : WeC n w) : ∃ ls w', m_l_numbers w right (many : Int) = some (ls, w') ∧ WeC (n + 10) w' := by
  obtain ⟨a, w1, t1, a0, a1, k1⟩ := takeC_ok (by omega) hw (many := (right.length : Int) + 1) (by omega) (by omega)
  obtain ⟨b, w2, t2, b0, b1, k2⟩ := takeC_ok (by omega) k1 (many := (many : Int) + 1) (by omega) (by omega)
  obtain ⟨c, w3, t3, c0, c1, k3⟩ := takeC_ok (by omega) k2 (many := (many : Int) + 2) (by omega) (by omega)
  have t1 : m_l_take w ((right.length : Int) + 1) = some (a, w1) := t1
  have t2 : m_l_take w1 ((many : Int) + 1) = some (b, w2) := t2
  have t3 : m_l_take w2 ((many : Int) + 2) = some (c, w3) := t3
  obtain ⟨l4, e4⟩ := in_ok (xs := right) (by omega) a0 (b, c)
  obtain ⟨l5, e5⟩ := in_ok (xs := right) (by omega) a0 ((-1), 0)
  obtain ⟨l6, e6⟩ := in_ok (xs := right) (by omega) a0 (0, (many : Int))
  obtain ⟨l7, e7⟩ := in_ok (xs := right) (by omega) a0 (a, a)
  by_cases hz : right = []
  · refine ⟨[right, l4, l5, l6] ++ [l7, right.reverse, [(b, c)], []], w3, ?_, k3.mono (by omega)⟩
    unfold m_l_numbers
    exact bindS t1 (bindS t2 (bindS t3 (bindS e4 (bindS e5 (bindS e6 (bindS e7 (bindS (cat_ok (by show 4 + 4 ≤ _; rw [sizeL]; omega)) (bindS (a := (a, [right, l4, l5, l6] ++ [l7, right.reverse, [(b, c)], []], w3)) (if_neg (by simp [hz])) rfl))))))))
  · have rpos : 0 < right.length := List.length_pos_iff.mpr hz
    obtain ⟨p, w4, t9, p0, p1, k4⟩ := takeC_ok (by omega) k3 (many := (right.length : Int)) (by omega) (by omega)
    obtain ⟨q, w5, t10, q0, q1, k5⟩ := takeC_ok (by omega) k4 (many := (right.length : Int)) (by omega) (by omega)
    have t9 : m_l_take w3 (right.length : Int) = some (p, w4) := t9
    have t10 : m_l_take w4 (right.length : Int) = some (q, w5) := t10
    obtain ⟨x, t11, _⟩ := idx_mem (xs := right) p0 p1
    have ec : cut right none (some p) = right.take p.toNat := cut_to _ p0
    have ed : cut right (some (p + 1)) none = right.drop (p + 1).toNat := cut_from _ (by omega)
    have l1 : (right.take p.toNat).length ≤ 100 := by rw [List.length_take]; omega
    have l2 : (right.drop (p + 1).toNat).length ≤ 100 := by rw [List.length_drop]; omega
    have t12 : catO (α := (Int × Int)) (cut right none (some p)) (cut right (some (p + 1)) none) = some (right.take p.toNat ++ right.drop (p + 1).toNat) := by
      rw [ec, ed]
      exact cat_ok (by rw [sizeL]; omega)
    have ll : (right.take p.toNat ++ right.drop (p + 1).toNat).length ≤ 1000 := by rw [List.length_append]; omega
    generalize right.take p.toNat ++ right.drop (p + 1).toNat = less at t12 ll
    obtain ⟨l13, e13⟩ := in_ok (xs := right) (by omega) q0 x
    obtain ⟨l14, e14⟩ := in_ok ll p0 (x.2, x.1)
    obtain ⟨l16, e16⟩ := in_ok ll q0 x
    obtain ⟨l17, e17⟩ := in_ok ll p0 (b, c)
    obtain ⟨l18, e18⟩ := in_ok ll p0 (x.1, x.2 + 1)
    obtain ⟨l20, e20⟩ := in_ok ll p0 (x.1 - (many : Int), x.2)
    obtain ⟨l21, e21⟩ := in_ok ll p0 (x.1, x.1)
    refine ⟨((([right, l4, l5, l6] ++ [l7, right.reverse, [(b, c)], []]) ++ [less, l13, l14]) ++ [l16, l17, l18]) ++ [l20, l21], w5, ?_, k5.mono (by omega)⟩
    unfold m_l_numbers
    exact bindS t1 (bindS t2 (bindS t3 (bindS e4 (bindS e5 (bindS e6 (bindS e7 (bindS (cat_ok (by show 4 + 4 ≤ _; rw [sizeL]; omega)) (bindS (a := (p, ((([right, l4, l5, l6] ++ [l7, right.reverse, [(b, c)], []]) ++ [less, l13, l14]) ++ [l16, l17, l18]) ++ [l20, l21], w5)) ((if_pos (by simp [hz])).trans (bindS t9 (bindS t10 (bindS t11 (bindS t12 (bindS e13 (bindS e14 (bindS (cat_ok (by show 8 + 3 ≤ _; rw [sizeL]; omega)) (bindS e16 (bindS e17 (bindS e18 (bindS (cat_ok (by show 11 + 3 ≤ _; rw [sizeL]; omega)) (bindS e20 (bindS e21 (bindS (cat_ok (by show 14 + 2 ≤ _; rw [sizeL]; omega)) rfl))))))))))))))) rfl))))))))
theorem right_ok {w : List Int} (hw : WeC 0 w) : ∃ w', m_l_right w = some (true, w') := by
  obtain ⟨v, w1, t1, v0, v1, k1⟩ := takeC_ok (by omega) hw (many := 4) (by decide) (by decide)
  have t1 : m_l_take w 4 = some (v, w1) := t1
  obtain ⟨⟨ws, w2⟩, e2, wo, wn, k2⟩ := listC_ok (by omega) k1 (L := 1 + v) (most := 6) (many := 4) (by omega) (by omega) (by decide) (by decide) (by decide)
  have e2 : m_l_list w1 (1 + v) 4 6 = some (ws, w2) := e2
  have wo : ∀ u ∈ ws, Wok (1 + v) 6 u := wo
  have wn : (ws.length : Int) ≤ 4 := wn
  have k2 : WeC (0 + 1 + 100000) w2 := k2
  have W : Wks (1 + v) 8 60 ws := ⟨fun u hu => (wo u hu).1, fun u hu => Nat.le_trans (wo u hu).2 (by decide), by omega⟩
  have W2 : Wks (1 + v) 4 6 ws := ⟨fun u hu => (wo u hu).1, fun u hu => (wo u hu).2, by omega⟩
  have sm1 := W2.sm
  have sm2 := W2.red.sm
  have ep := petals_ok W (by omega) (by omega)
  have el := lpetals_ok (ws := ws) (by omega)
  obtain ⟨q1, q2, q3⟩ := rings_len (ws.map red) (1, [])
  have rb : Rb (1 + v) (rings (ws.map red) (1, [])) := Rb.rings ⟨by decide, fun x z => nomatch z⟩ W2.red.ok
  generalize rings (ws.map red) (1, []) = S at ep el q1 q2 q3 rb
  obtain ⟨S1, ways⟩ := S
  have q1 : ways.length = 0 + sm (ws.map red) := q1
  have q2 : (1 : Int) ≤ S1 := q2
  have q3 : S1 ≤ 1 + (sm (ws.map red) : Int) := q3
  obtain ⟨rb1, rb2⟩ := rb
  obtain ⟨m, rfl⟩ : ∃ m : Nat, S1 = (m : Int) := ⟨S1.toNat, by omega⟩
  have P : Pt m ways := ⟨by omega, by omega, by omega, fun x hx => ⟨(rb2 x hx).1, (rb2 x hx).2.1⟩, fun x hx => (rb2 x hx).2.2.1⟩
  obtain ⟨right, w3, e4, R, rl, rk, k3⟩ := drawn_ok P (by omega) k2
  obtain ⟨ls, w4, e5, k4⟩ := numbers_ok (right := right) (by have := P.m9; omega) (many := ways.length) P.n9 (by omega) k3
  obtain ⟨vs, w5, e14, gv, _⟩ := no_lists_ok P ep R (by have := P.m9; omega) rk (by omega) k4
  have er := right_holds P ep R
  refine ⟨w5, ?_⟩
  obtain ⟨s', e8, _⟩ := lpR_go (f := (fun (s6 : Unit) (pairs7 : (List (Int × Int))) => (((m_l_holds (m : Int) ways pairs7).bind fun t11 => ((m_p_joinings_hold (1 + v) ws pairs7).bind fun t12 => (if (false || ((!decide (t12 = (!decide (t11 = ([] : (List Int)))))) || (!decide (pairs7 = pairs7)))) = true then some (Step.ret (false, w4)) else some (Step.go ())))) : Option (Step (Bool × (List Int)) Unit)))) (fun _ => True) (xs := ls) (fun ps _ s _ => by
    obtain ⟨d, hs, f1, f2, f3⟩ := both_ok P ep ps
    exact ⟨(), bindS f2 (bindS f1 (if_neg (by simp [f3]))), trivial⟩) (s0 := ()) trivial
  obtain ⟨s'', e17, _⟩ := lpR_go (f := (fun (s15 : Unit) (value16 : PyData) => (((reprE value16).bind fun t20 => ((m_p_joinings_hold_d (1 + v) ws value16).bind fun t21 => (if (!decide (t21 = false)) = true then some true else ((reprE value16).bind fun t22 => some (!decide (t22 = t20)))).bind fun t23 => (if t23 = true then some (Step.ret (false, w5)) else ((m_p_joinings_hold (1 + v) ws right).bind fun t24 => (if (!decide (t24 = true)) = true then some (Step.ret (false, w5)) else some (Step.go ())))))) : Option (Step (Bool × (List Int)) Unit)))) (fun _ => True) (xs := vs) (fun x hx s _ => by
    obtain ⟨g1, t, g2⟩ := gv x hx
    exact ⟨(), bindS g2 (bindS g1 (bindS (a := false) ((if_neg (by simp)).trans (bindS g2 (by simp))) ((if_neg (by simp)).trans (bindS er (if_neg (by simp)))))), trivial⟩) (s0 := ()) trivial
  unfold m_l_right
  exact bindS t1 (bindS e2 (bindS el (bindS e4 (bindS e5 (bindS e8 (bindS e14 (bindS e17 rfl)))))))
theorem law_true : ∀ ns : List Int, ns.length ≤ 63 → m_l_law ns = some true := fun ns hl => by
  unfold m_l_law
  have hb : 1 ≤ maxI 1 (minI 2 (ns.length : Int)) ∧ maxI 1 (minI 2 (ns.length : Int)) ≤ 2 := by
    unfold maxI minI
    constructor <;> (repeat' split) <;> omega
  refine bindS (rngO_ok (by omega)) ?_
  obtain ⟨s, e, _⟩ := lpR_go (f := fun (s2 : Unit) (k_3 : Int) => (((m_l_well ns k_3).bind fun t7 => (m_l_right t7).bind fun t8 => (if (!t8.1) = true then some (Step.ret false) else some (Step.go ()))) : Option (Step Bool Unit))) (fun _ => True) (xs := range' 0 (maxI 1 (minI 2 (ns.length : Int)))) (fun k hk s _ => by
    obtain ⟨w, f1, f2⟩ := wellC_ok (ns := ns) (by omega) (mem_rng hk).1
    obtain ⟨w', f3⟩ := right_ok f2
    exact ⟨(), bindS f1 (bindS f3 (if_neg (show ¬ (!true) = true by decide))), trivial⟩) (s0 := ()) trivial
  exact bindS e rfl
end L12
namespace L12
open PySem PySem.Spec PyProof.Rows L2 Z
theorem tops {l : PySem.W.OpenLaw} {w : World} {K : PySem.W.Frag} {h : Heap} {mg : Str → Option Value} {fa f0 f1 f2 f3 f4 f5 f6 f7 f8 f9 f10 f11 f12 f13 f14 f15 f16 f17 f18 f19 f20 f21 f22 f23 f24 f25 f26 f27 f28 f29 f30 f31 : Addr} (IK : K.In h) (IG : h.Ns mainGlobals mg) (hfa : mg "law" = some (.ref fa))
    {od0 od1 od2 od3 od4 od5 od6 od7 od8 od9 od10 od11 od12 od13 od14 od15 od16 od17 od18 od19 od20 od21 od22 od23 od24 od25 od26 od27 od28 od29 od30 od31 an0 an1 an2 an3 an4 an5 an6 an7 an8 an9 an10 an11 an12 an13 an14 an15 an16 an17 an18 an19 an20 an21 an22 an23 an24 an25 an26 an27 an28 an29 an30 an31 : Option Addr} {sl0 sl1 sl2 sl3 sl4 sl5 sl6 sl7 sl8 sl9 sl10 sl11 sl12 sl13 sl14 sl15 sl16 sl17 sl18 sl19 sl20 sl21 sl22 sl23 sl24 sl25 sl26 sl27 sl28 sl29 sl30 sl31 : Array (Option Value)} {oc0 oc1 oc2 oc3 oc4 oc5 oc6 oc7 oc8 oc9 oc10 oc11 oc12 oc13 oc14 oc15 oc16 oc17 oc18 oc19 oc20 oc21 oc22 oc23 oc24 oc25 oc26 oc27 oc28 oc29 oc30 oc31 kV0 kV1 kV2 kV3 kV4 kV5 kV6 kV7 kV8 kV9 kV10 kV11 kV12 kV13 kV14 kV15 kV16 kV17 kV18 kV19 kV20 kV21 kV22 kV23 kV24 kV25 kV26 kV27 kV28 kV29 kV30 kV31 dc0 dc1 dc2 dc3 dc4 dc5 dc6 dc7 dc8 dc9 dc10 dc11 dc12 dc13 dc14 dc15 dc16 dc17 dc18 dc19 dc20 dc21 dc22 dc23 dc24 dc25 dc26 dc27 dc28 dc29 dc30 dc31 pm0 pm1 pm2 pm3 pm4 pm5 pm6 pm7 pm8 pm9 pm10 pm11 pm12 pm13 pm14 pm15 pm16 pm17 pm18 pm19 pm20 pm21 pm22 pm23 pm24 pm25 pm26 pm27 pm28 pm29 pm30 pm31 cd0 cd1 cd2 cd3 cd4 cd5 cd6 cd7 cd8 cd9 cd10 cd11 cd12 cd13 cd14 cd15 cd16 cd17 cd18 cd19 cd20 cd21 cd22 cd23 cd24 cd25 cd26 cd27 cd28 cd29 cd30 cd31 ct0 ct1 ct2 ct3 ct4 ct5 ct6 ct7 ct8 ct9 ct10 ct11 ct12 ct13 ct14 ct15 ct16 ct17 ct18 ct19 ct20 ct21 ct22 ct23 ct24 ct25 ct26 ct27 ct28 ct29 ct30 ct31 : Value}
    (a0 : PySem.W.nsIn K mainGlobals "straightened" = some (some (.ref f0)))
    (b0 : K.lookup f0 = some ⟨oc0, od0, .func (PySem.W.fnOf "straightened" "straightened" (defArgs s_p_straightened) (defBody s_p_straightened) (defScope s_p_straightened) .none kV0 dc0 pm0 an0 cd0 ct0), sl0⟩)
    (c0 : PySem.W.codeIn K cd0 "straightened" = true) (d0 : PySem.W.keepIn K (.ref f0) = true)
    (a1 : PySem.W.nsIn K mainGlobals "is_integer" = some (some (.ref f1)))
    (b1 : K.lookup f1 = some ⟨oc1, od1, .func (PySem.W.fnOf "is_integer" "is_integer" (defArgs s_p_is_integer) (defBody s_p_is_integer) (defScope s_p_is_integer) .none kV1 dc1 pm1 an1 cd1 ct1), sl1⟩)
    (c1 : PySem.W.codeIn K cd1 "is_integer" = true) (d1 : PySem.W.keepIn K (.ref f1) = true)
    (a2 : PySem.W.nsIn K mainGlobals "is_letters" = some (some (.ref f2)))
    (b2 : K.lookup f2 = some ⟨oc2, od2, .func (PySem.W.fnOf "is_letters" "is_letters" (defArgs s_p_is_letters) (defBody s_p_is_letters) (defScope s_p_is_letters) .none kV2 dc2 pm2 an2 cd2 ct2), sl2⟩)
    (c2 : PySem.W.codeIn K cd2 "is_letters" = true) (d2 : PySem.W.keepIn K (.ref f2) = true)
    (a3 : PySem.W.nsIn K mainGlobals "is_step" = some (some (.ref f3)))
    (b3 : K.lookup f3 = some ⟨oc3, od3, .func (PySem.W.fnOf "is_step" "is_step" (defArgs s_p_is_step) (defBody s_p_is_step) (defScope s_p_is_step) .none kV3 dc3 pm3 an3 cd3 ct3), sl3⟩)
    (c3 : PySem.W.codeIn K cd3 "is_step" = true) (d3 : PySem.W.keepIn K (.ref f3) = true)
    (a4 : PySem.W.nsIn K mainGlobals "is_a_walk" = some (some (.ref f4)))
    (b4 : K.lookup f4 = some ⟨oc4, od4, .func (PySem.W.fnOf "is_a_walk" "is_a_walk" (defArgs s_p_is_a_walk) (defBody s_p_is_a_walk) (defScope s_p_is_a_walk) .none kV4 dc4 pm4 an4 cd4 ct4), sl4⟩)
    (c4 : PySem.W.codeIn K cd4 "is_a_walk" = true) (d4 : PySem.W.keepIn K (.ref f4) = true)
    (a5 : PySem.W.nsIn K mainGlobals "need_letters" = some (some (.ref f5)))
    (b5 : K.lookup f5 = some ⟨oc5, od5, .func (PySem.W.fnOf "need_letters" "need_letters" (defArgs s_p_need_letters) (defBody s_p_need_letters) (defScope s_p_need_letters) .none kV5 dc5 pm5 an5 cd5 ct5), sl5⟩)
    (c5 : PySem.W.codeIn K cd5 "need_letters" = true) (d5 : PySem.W.keepIn K (.ref f5) = true)
    (a6 : PySem.W.nsIn K mainGlobals "need_walk" = some (some (.ref f6)))
    (b6 : K.lookup f6 = some ⟨oc6, od6, .func (PySem.W.fnOf "need_walk" "need_walk" (defArgs s_p_need_walk) (defBody s_p_need_walk) (defScope s_p_need_walk) .none kV6 dc6 pm6 an6 cd6 ct6), sl6⟩)
    (c6 : PySem.W.codeIn K cd6 "need_walk" = true) (d6 : PySem.W.keepIn K (.ref f6) = true)
    (a7 : PySem.W.nsIn K mainGlobals "need_walks" = some (some (.ref f7)))
    (b7 : K.lookup f7 = some ⟨oc7, od7, .func (PySem.W.fnOf "need_walks" "need_walks" (defArgs s_p_need_walks) (defBody s_p_need_walks) (defScope s_p_need_walks) .none kV7 dc7 pm7 an7 cd7 ct7), sl7⟩)
    (c7 : PySem.W.codeIn K cd7 "need_walks" = true) (d7 : PySem.W.keepIn K (.ref f7) = true)
    (a8 : PySem.W.nsIn K mainGlobals "head_of" = some (some (.ref f8)))
    (b8 : K.lookup f8 = some ⟨oc8, od8, .func (PySem.W.fnOf "head_of" "head_of" (defArgs s_p_head_of) (defBody s_p_head_of) (defScope s_p_head_of) .none kV8 dc8 pm8 an8 cd8 ct8), sl8⟩)
    (c8 : PySem.W.codeIn K cd8 "head_of" = true) (d8 : PySem.W.keepIn K (.ref f8) = true)
    (a9 : PySem.W.nsIn K mainGlobals "petals_of" = some (some (.ref f9)))
    (b9 : K.lookup f9 = some ⟨oc9, od9, .func (PySem.W.fnOf "petals_of" "petals_of" (defArgs s_p_petals_of) (defBody s_p_petals_of) (defScope s_p_petals_of) .none kV9 dc9 pm9 an9 cd9 ct9), sl9⟩)
    (c9 : PySem.W.codeIn K cd9 "petals_of" = true) (d9 : PySem.W.keepIn K (.ref f9) = true)
    (a10 : PySem.W.nsIn K mainGlobals "petals" = some (some (.ref f10)))
    (b10 : K.lookup f10 = some ⟨oc10, od10, .func (PySem.W.fnOf "petals" "petals" (defArgs s_p_petals) (defBody s_p_petals) (defScope s_p_petals) .none kV10 dc10 pm10 an10 cd10 ct10), sl10⟩)
    (c10 : PySem.W.codeIn K cd10 "petals" = true) (d10 : PySem.W.keepIn K (.ref f10) = true)
    (a11 : PySem.W.nsIn K mainGlobals "is_pair" = some (some (.ref f11)))
    (b11 : K.lookup f11 = some ⟨oc11, od11, .func (PySem.W.fnOf "is_pair" "is_pair" (defArgs s_p_is_pair) (defBody s_p_is_pair) (defScope s_p_is_pair) .none kV11 dc11 pm11 an11 cd11 ct11), sl11⟩)
    (c11 : PySem.W.codeIn K cd11 "is_pair" = true) (d11 : PySem.W.keepIn K (.ref f11) = true)
    (a12 : PySem.W.nsIn K mainGlobals "unlike_ends" = some (some (.ref f12)))
    (b12 : K.lookup f12 = some ⟨oc12, od12, .func (PySem.W.fnOf "unlike_ends" "unlike_ends" (defArgs s_p_unlike_ends) (defBody s_p_unlike_ends) (defScope s_p_unlike_ends) .none kV12 dc12 pm12 an12 cd12 ct12), sl12⟩)
    (c12 : PySem.W.codeIn K cd12 "unlike_ends" = true) (d12 : PySem.W.keepIn K (.ref f12) = true)
    (a13 : PySem.W.nsIn K mainGlobals "is_settled" = some (some (.ref f13)))
    (b13 : K.lookup f13 = some ⟨oc13, od13, .func (PySem.W.fnOf "is_settled" "is_settled" (defArgs s_p_is_settled) (defBody s_p_is_settled) (defScope s_p_is_settled) .none kV13 dc13 pm13 an13 cd13 ct13), sl13⟩)
    (c13 : PySem.W.codeIn K cd13 "is_settled" = true) (d13 : PySem.W.keepIn K (.ref f13) = true)
    (a14 : PySem.W.nsIn K mainGlobals "joinings_hold" = some (some (.ref f14)))
    (b14 : K.lookup f14 = some ⟨oc14, od14, .func (PySem.W.fnOf "joinings_hold" "joinings_hold" (defArgs s_p_joinings_hold) (defBody s_p_joinings_hold) (defScope s_p_joinings_hold) .none kV14 dc14 pm14 an14 cd14 ct14), sl14⟩)
    (c14 : PySem.W.codeIn K cd14 "joinings_hold" = true) (d14 : PySem.W.keepIn K (.ref f14) = true)
    (a15 : PySem.W.nsIn K mainGlobals "_law_well" = some (some (.ref f15)))
    (b15 : K.lookup f15 = some ⟨oc15, od15, .func (PySem.W.fnOf "_law_well" "_law_well" (defArgs s_l_well) (defBody s_l_well) (defScope s_l_well) .none kV15 dc15 pm15 an15 cd15 ct15), sl15⟩)
    (c15 : PySem.W.codeIn K cd15 "_law_well" = true) (d15 : PySem.W.keepIn K (.ref f15) = true)
    (a16 : PySem.W.nsIn K mainGlobals "_law_take" = some (some (.ref f16)))
    (b16 : K.lookup f16 = some ⟨oc16, od16, .func (PySem.W.fnOf "_law_take" "_law_take" (defArgs s_l_take) (defBody s_l_take) (defScope s_l_take) .none kV16 dc16 pm16 an16 cd16 ct16), sl16⟩)
    (c16 : PySem.W.codeIn K cd16 "_law_take" = true) (d16 : PySem.W.keepIn K (.ref f16) = true)
    (a17 : PySem.W.nsIn K mainGlobals "_law_straight" = some (some (.ref f17)))
    (b17 : K.lookup f17 = some ⟨oc17, od17, .func (PySem.W.fnOf "_law_straight" "_law_straight" (defArgs s_l_straight) (defBody s_l_straight) (defScope s_l_straight) .none kV17 dc17 pm17 an17 cd17 ct17), sl17⟩)
    (c17 : PySem.W.codeIn K cd17 "_law_straight" = true) (d17 : PySem.W.keepIn K (.ref f17) = true)
    (a18 : PySem.W.nsIn K mainGlobals "_law_steps" = some (some (.ref f18)))
    (b18 : K.lookup f18 = some ⟨oc18, od18, .func (PySem.W.fnOf "_law_steps" "_law_steps" (defArgs s_l_steps) (defBody s_l_steps) (defScope s_l_steps) .none kV18 dc18 pm18 an18 cd18 ct18), sl18⟩)
    (c18 : PySem.W.codeIn K cd18 "_law_steps" = true) (d18 : PySem.W.keepIn K (.ref f18) = true)
    (a19 : PySem.W.nsIn K mainGlobals "_law_walk" = some (some (.ref f19)))
    (b19 : K.lookup f19 = some ⟨oc19, od19, .func (PySem.W.fnOf "_law_walk" "_law_walk" (defArgs s_l_walk) (defBody s_l_walk) (defScope s_l_walk) .none kV19 dc19 pm19 an19 cd19 ct19), sl19⟩)
    (c19 : PySem.W.codeIn K cd19 "_law_walk" = true) (d19 : PySem.W.keepIn K (.ref f19) = true)
    (a20 : PySem.W.nsIn K mainGlobals "_law_petals" = some (some (.ref f20)))
    (b20 : K.lookup f20 = some ⟨oc20, od20, .func (PySem.W.fnOf "_law_petals" "_law_petals" (defArgs s_l_petals) (defBody s_l_petals) (defScope s_l_petals) .none kV20 dc20 pm20 an20 cd20 ct20), sl20⟩)
    (c20 : PySem.W.codeIn K cd20 "_law_petals" = true) (d20 : PySem.W.keepIn K (.ref f20) = true)
    (a21 : PySem.W.nsIn K mainGlobals "_law_joined" = some (some (.ref f21)))
    (b21 : K.lookup f21 = some ⟨oc21, od21, .func (PySem.W.fnOf "_law_joined" "_law_joined" (defArgs s_l_joined) (defBody s_l_joined) (defScope s_l_joined) .none kV21 dc21 pm21 an21 cd21 ct21), sl21⟩)
    (c21 : PySem.W.codeIn K cd21 "_law_joined" = true) (d21 : PySem.W.keepIn K (.ref f21) = true)
    (a22 : PySem.W.nsIn K mainGlobals "_law_with" = some (some (.ref f22)))
    (b22 : K.lookup f22 = some ⟨oc22, od22, .func (PySem.W.fnOf "_law_with" "_law_with" (defArgs s_l_with) (defBody s_l_with) (defScope s_l_with) .none kV22 dc22 pm22 an22 cd22 ct22), sl22⟩)
    (c22 : PySem.W.codeIn K cd22 "_law_with" = true) (d22 : PySem.W.keepIn K (.ref f22) = true)
    (a23 : PySem.W.nsIn K mainGlobals "_law_settled" = some (some (.ref f23)))
    (b23 : K.lookup f23 = some ⟨oc23, od23, .func (PySem.W.fnOf "_law_settled" "_law_settled" (defArgs s_l_settled) (defBody s_l_settled) (defScope s_l_settled) .none kV23 dc23 pm23 an23 cd23 ct23), sl23⟩)
    (c23 : PySem.W.codeIn K cd23 "_law_settled" = true) (d23 : PySem.W.keepIn K (.ref f23) = true)
    (a24 : PySem.W.nsIn K mainGlobals "_law_holds" = some (some (.ref f24)))
    (b24 : K.lookup f24 = some ⟨oc24, od24, .func (PySem.W.fnOf "_law_holds" "_law_holds" (defArgs s_l_holds) (defBody s_l_holds) (defScope s_l_holds) .none kV24 dc24 pm24 an24 cd24 ct24), sl24⟩)
    (c24 : PySem.W.codeIn K cd24 "_law_holds" = true) (d24 : PySem.W.keepIn K (.ref f24) = true)
    (a25 : PySem.W.nsIn K mainGlobals "_law_drawn" = some (some (.ref f25)))
    (b25 : K.lookup f25 = some ⟨oc25, od25, .func (PySem.W.fnOf "_law_drawn" "_law_drawn" (defArgs s_l_drawn) (defBody s_l_drawn) (defScope s_l_drawn) .none kV25 dc25 pm25 an25 cd25 ct25), sl25⟩)
    (c25 : PySem.W.codeIn K cd25 "_law_drawn" = true) (d25 : PySem.W.keepIn K (.ref f25) = true)
    (a26 : PySem.W.nsIn K mainGlobals "_law_list" = some (some (.ref f26)))
    (b26 : K.lookup f26 = some ⟨oc26, od26, .func (PySem.W.fnOf "_law_list" "_law_list" (defArgs s_l_list) (defBody s_l_list) (defScope s_l_list) .none kV26 dc26 pm26 an26 cd26 ct26), sl26⟩)
    (c26 : PySem.W.codeIn K cd26 "_law_list" = true) (d26 : PySem.W.keepIn K (.ref f26) = true)
    (a27 : PySem.W.nsIn K mainGlobals "_law_in" = some (some (.ref f27)))
    (b27 : K.lookup f27 = some ⟨oc27, od27, .func (PySem.W.fnOf "_law_in" "_law_in" (defArgs s_l_in) (defBody s_l_in) (defScope s_l_in) .none kV27 dc27 pm27 an27 cd27 ct27), sl27⟩)
    (c27 : PySem.W.codeIn K cd27 "_law_in" = true) (d27 : PySem.W.keepIn K (.ref f27) = true)
    (a28 : PySem.W.nsIn K mainGlobals "_law_numbers" = some (some (.ref f28)))
    (b28 : K.lookup f28 = some ⟨oc28, od28, .func (PySem.W.fnOf "_law_numbers" "_law_numbers" (defArgs s_l_numbers) (defBody s_l_numbers) (defScope s_l_numbers) .none kV28 dc28 pm28 an28 cd28 ct28), sl28⟩)
    (c28 : PySem.W.codeIn K cd28 "_law_numbers" = true) (d28 : PySem.W.keepIn K (.ref f28) = true)
    (a29 : PySem.W.nsIn K mainGlobals "_law_no_lists" = some (some (.ref f29)))
    (b29 : K.lookup f29 = some ⟨oc29, od29, .func (PySem.W.fnOf "_law_no_lists" "_law_no_lists" (defArgs s_l_no_lists) (defBody s_l_no_lists) (defScope s_l_no_lists) .none kV29 dc29 pm29 an29 cd29 ct29), sl29⟩)
    (c29 : PySem.W.codeIn K cd29 "_law_no_lists" = true) (d29 : PySem.W.keepIn K (.ref f29) = true)
    (a30 : PySem.W.nsIn K mainGlobals "_law_right" = some (some (.ref f30)))
    (b30 : K.lookup f30 = some ⟨oc30, od30, .func (PySem.W.fnOf "_law_right" "_law_right" (defArgs s_l_right) (defBody s_l_right) (defScope s_l_right) .none kV30 dc30 pm30 an30 cd30 ct30), sl30⟩)
    (c30 : PySem.W.codeIn K cd30 "_law_right" = true) (d30 : PySem.W.keepIn K (.ref f30) = true)
    (a31 : PySem.W.nsIn K mainGlobals "law" = some (some (.ref f31)))
    (b31 : K.lookup f31 = some ⟨oc31, od31, .func (PySem.W.fnOf "law" "law" (defArgs s_l_law) (defBody s_l_law) (defScope s_l_law) .none kV31 dc31 pm31 an31 cd31 ct31), sl31⟩)
    (c31 : PySem.W.codeIn K cd31 "law" = true) (d31 : PySem.W.keepIn K (.ref f31) = true)
    (g_len : PySem.W.nsIn K mainGlobals "len" = some none)
    (g_tuple : PySem.W.nsIn K mainGlobals "tuple" = some none)
    (g_isinstance : PySem.W.nsIn K mainGlobals "isinstance" = some none)
    (g_int : PySem.W.nsIn K mainGlobals "int" = some none)
    (g_bool : PySem.W.nsIn K mainGlobals "bool" = some none)
    {tk_MOST_LETTERS : Tok}
    (g_MOST_LETTERS : PySem.W.nsIn K mainGlobals "MOST_LETTERS" = some (some (.int 4 tk_MOST_LETTERS)))
    (g_abs : PySem.W.nsIn K mainGlobals "abs" = some none)
    (g_all : PySem.W.nsIn K mainGlobals "all" = some none)
    (g_enumerate : PySem.W.nsIn K mainGlobals "enumerate" = some none)
    (g_list : PySem.W.nsIn K mainGlobals "list" = some none)
    (g_range : PySem.W.nsIn K mainGlobals "range" = some none)
    (g_min : PySem.W.nsIn K mainGlobals "min" = some none)
    (g_max : PySem.W.nsIn K mainGlobals "max" = some none)
    (g_str : PySem.W.nsIn K mainGlobals "str" = some none)
    (g_repr : PySem.W.nsIn K mainGlobals "repr" = some none)
    : ∃ fd : FuncData, (∀ (s : Shared) (v : Value), BindsTo s fd ⟨[v], []⟩ [("_law_script", v)]) ∧ ∀ base : Heap, K.In base → base.Ns mainGlobals mg → FnG l.prog w K mg base CX0 9 fa fd ["_law_script"] (LawSp K m_l_law) := by
  have e := hfa.symm.trans (PySem.W.mg_of IK IG a31)
  cases e
  have h_g_len := PySem.W.mg_none_of IK IG g_len
  have h_g_tuple := PySem.W.mg_none_of IK IG g_tuple
  have h_g_isinstance := PySem.W.mg_none_of IK IG g_isinstance
  have h_g_int := PySem.W.mg_none_of IK IG g_int
  have h_g_bool := PySem.W.mg_none_of IK IG g_bool
  have h_g_MOST_LETTERS := PySem.W.mg_of IK IG g_MOST_LETTERS
  have h_g_abs := PySem.W.mg_none_of IK IG g_abs
  have h_g_all := PySem.W.mg_none_of IK IG g_all
  have h_g_enumerate := PySem.W.mg_none_of IK IG g_enumerate
  have h_g_list := PySem.W.mg_none_of IK IG g_list
  have h_g_range := PySem.W.mg_none_of IK IG g_range
  have h_g_min := PySem.W.mg_none_of IK IG g_min
  have h_g_max := PySem.W.mg_none_of IK IG g_max
  have h_g_str := PySem.W.mg_none_of IK IG g_str
  have h_g_repr := PySem.W.mg_none_of IK IG g_repr
  have F0 := fun_mk (st := s_p_straightened) b0 c0 d0
  have B0 := F0.binds (ps := ["walk"]) fun _ _ _ _ _ _ us hl => match us, hl with | [_], _ => rfl
  have F1 := fun_mk (st := s_p_is_integer) b1 c1 d1
  have B1 := F1.binds (ps := ["value"]) fun _ _ _ _ _ _ us hl => match us, hl with | [_], _ => rfl
  have F2 := fun_mk (st := s_p_is_letters) b2 c2 d2
  have B2 := F2.binds (ps := ["value"]) fun _ _ _ _ _ _ us hl => match us, hl with | [_], _ => rfl
  have F3 := fun_mk (st := s_p_is_step) b3 c3 d3
  have B3 := F3.binds (ps := ["value", "letters"]) fun _ _ _ _ _ _ us hl => match us, hl with | [_, _], _ => rfl
  have F4 := fun_mk (st := s_p_is_a_walk) b4 c4 d4
  have B4 := F4.binds (ps := ["value", "letters"]) fun _ _ _ _ _ _ us hl => match us, hl with | [_, _], _ => rfl
  have F5 := fun_mk (st := s_p_need_letters) b5 c5 d5
  have B5 := F5.binds (ps := ["letters"]) fun _ _ _ _ _ _ us hl => match us, hl with | [_], _ => rfl
  have F6 := fun_mk (st := s_p_need_walk) b6 c6 d6
  have B6 := F6.binds (ps := ["walk", "letters"]) fun _ _ _ _ _ _ us hl => match us, hl with | [_, _], _ => rfl
  have F7 := fun_mk (st := s_p_need_walks) b7 c7 d7
  have B7 := F7.binds (ps := ["walks", "letters"]) fun _ _ _ _ _ _ us hl => match us, hl with | [_, _], _ => rfl
  have F8 := fun_mk (st := s_p_head_of) b8 c8 d8
  have B8 := F8.binds (ps := ["heads", "room"]) fun _ _ _ _ _ _ us hl => match us, hl with | [_, _], _ => rfl
  have F9 := fun_mk (st := s_p_petals_of) b9 c9 d9
  have B9 := F9.binds (ps := ["walks"]) fun _ _ _ _ _ _ us hl => match us, hl with | [_], _ => rfl
  have F10 := fun_mk (st := s_p_petals) b10 c10 d10
  have B10 := F10.binds (ps := ["letters", "walks"]) fun _ _ _ _ _ _ us hl => match us, hl with | [_, _], _ => rfl
  have F11 := fun_mk (st := s_p_is_pair) b11 c11 d11
  have B11 := F11.binds (ps := ["value", "many"]) fun _ _ _ _ _ _ us hl => match us, hl with | [_, _], _ => rfl
  have F12 := fun_mk (st := s_p_unlike_ends) b12 c12 d12
  have B12 := F12.binds (ps := ["heads", "one", "other"]) fun _ _ _ _ _ _ us hl => match us, hl with | [_, _, _], _ => rfl
  have F13 := fun_mk (st := s_p_is_settled) b13 c13 d13
  have B13 := F13.binds (ps := ["heads", "ways"]) fun _ _ _ _ _ _ us hl => match us, hl with | [_, _], _ => rfl
  have F14 := fun_mk (st := s_p_joinings_hold) b14 c14 d14
  have B14 := F14.binds (ps := ["letters", "walks", "value"]) fun _ _ _ _ _ _ us hl => match us, hl with | [_, _, _], _ => rfl
  have F15 := fun_mk (st := s_l_well) b15 c15 d15
  have B15 := F15.binds (ps := ["_law_script", "_law_k"]) fun _ _ _ _ _ _ us hl => match us, hl with | [_, _], _ => rfl
  have F16 := fun_mk (st := s_l_take) b16 c16 d16
  have B16 := F16.binds (ps := ["_law_well_here", "_law_many"]) fun _ _ _ _ _ _ us hl => match us, hl with | [_, _], _ => rfl
  have F17 := fun_mk (st := s_l_straight) b17 c17 d17
  have B17 := F17.binds (ps := ["_law_walk_here"]) fun _ _ _ _ _ _ us hl => match us, hl with | [_], _ => rfl
  have F18 := fun_mk (st := s_l_steps) b18 c18 d18
  have B18 := F18.binds (ps := ["_law_letters"]) fun _ _ _ _ _ _ us hl => match us, hl with | [_], _ => rfl
  have F19 := fun_mk (st := s_l_walk) b19 c19 d19
  have B19 := F19.binds (ps := ["_law_well_here", "_law_letters", "_law_most"]) fun _ _ _ _ _ _ us hl => match us, hl with | [_, _, _], _ => rfl
  have F20 := fun_mk (st := s_l_petals) b20 c20 d20
  have B20 := F20.binds (ps := ["_law_walks"]) fun _ _ _ _ _ _ us hl => match us, hl with | [_], _ => rfl
  have F21 := fun_mk (st := s_l_joined) b21 c21 d21
  have B21 := F21.binds (ps := ["_law_heads", "_law_one", "_law_other"]) fun _ _ _ _ _ _ us hl => match us, hl with | [_, _, _], _ => rfl
  have F22 := fun_mk (st := s_l_with) b22 c22 d22
  have B22 := F22.binds (ps := ["_law_heads", "_law_rooms"]) fun _ _ _ _ _ _ us hl => match us, hl with | [_, _], _ => rfl
  have F23 := fun_mk (st := s_l_settled) b23 c23 d23
  have B23 := F23.binds (ps := ["_law_heads", "_law_ways"]) fun _ _ _ _ _ _ us hl => match us, hl with | [_, _], _ => rfl
  have F24 := fun_mk (st := s_l_holds) b24 c24 d24
  have B24 := F24.binds (ps := ["_law_rooms", "_law_ways", "_law_pairs"]) fun _ _ _ _ _ _ us hl => match us, hl with | [_, _, _], _ => rfl
  have F25 := fun_mk (st := s_l_drawn) b25 c25 d25
  have B25 := F25.binds (ps := ["_law_well_here", "_law_rooms", "_law_ways"]) fun _ _ _ _ _ _ us hl => match us, hl with | [_, _, _], _ => rfl
  have F26 := fun_mk (st := s_l_list) b26 c26 d26
  have B26 := F26.binds (ps := ["_law_well_here", "_law_letters", "_law_many", "_law_most"]) fun _ _ _ _ _ _ us hl => match us, hl with | [_, _, _, _], _ => rfl
  have F27 := fun_mk (st := s_l_in) b27 c27 d27
  have B27 := F27.binds (ps := ["_law_right_here", "_law_at", "_law_entry"]) fun _ _ _ _ _ _ us hl => match us, hl with | [_, _, _], _ => rfl
  have F28 := fun_mk (st := s_l_numbers) b28 c28 d28
  have B28 := F28.binds (ps := ["_law_well_here", "_law_right_here", "_law_many"]) fun _ _ _ _ _ _ us hl => match us, hl with | [_, _, _], _ => rfl
  have F29 := fun_mk (st := s_l_no_lists) b29 c29 d29
  have B29 := F29.binds (ps := ["_law_well_here", "_law_right_here"]) fun _ _ _ _ _ _ us hl => match us, hl with | [_, _], _ => rfl
  have F30 := fun_mk (st := s_l_right) b30 c30 d30
  have B30 := F30.binds (ps := ["_law_well_here"]) fun _ _ _ _ _ _ us hl => match us, hl with | [_], _ => rfl
  have F31 := fun_mk (st := s_l_law) b31 c31 d31
  have B31 := F31.binds (ps := ["_law_script"]) fun _ _ _ _ _ _ us hl => match us, hl with | [_], _ => rfl
  refine ⟨PySem.W.fnOf "law" "law" (defArgs s_l_law) (defBody s_l_law) (defScope s_l_law) .none kV31 dc31 pm31 an31 cd31 ct31, fun s v => .of_eq rfl, fun base _ _ => ?_⟩
  have C_p_straightened := cal_p_straightened (P := l.prog) (w := w) (base := base) F0 (PySem.W.mg_of IK IG a0) B0 h_g_len h_g_tuple
  have C_p_is_integer := cal_p_is_integer (P := l.prog) (w := w) (base := base) F1 (PySem.W.mg_of IK IG a1) B1 h_g_isinstance h_g_int h_g_bool
  have C_p_is_integer_d := cal_p_is_integer_d (P := l.prog) (w := w) (base := base) F1 (PySem.W.mg_of IK IG a1) B1 h_g_isinstance h_g_int h_g_bool
  have C_p_is_letters := cal_p_is_letters (P := l.prog) (w := w) (base := base) F2 (PySem.W.mg_of IK IG a2) B2 C_p_is_integer h_g_MOST_LETTERS
  have C_p_is_step := cal_p_is_step (P := l.prog) (w := w) (base := base) F3 (PySem.W.mg_of IK IG a3) B3 C_p_is_integer h_g_abs
  have C_p_is_a_walk := cal_p_is_a_walk (P := l.prog) (w := w) (base := base) F4 (PySem.W.mg_of IK IG a4) B4 h_g_isinstance h_g_tuple h_g_all C_p_is_step
  have C_p_need_letters := cal_p_need_letters (P := l.prog) (w := w) (base := base) F5 (PySem.W.mg_of IK IG a5) B5 C_p_is_letters
  have C_p_need_walk := cal_p_need_walk (P := l.prog) (w := w) (base := base) F6 (PySem.W.mg_of IK IG a6) B6 C_p_is_a_walk
  have C_p_need_walks := cal_p_need_walks (P := l.prog) (w := w) (base := base) F7 (PySem.W.mg_of IK IG a7) B7 C_p_need_walk
  have C_p_head_of := cal_p_head_of (P := l.prog) (w := w) (base := base) F8 (PySem.W.mg_of IK IG a8) B8 
  have C_p_petals_of := cal_p_petals_of (P := l.prog) (w := w) (base := base) F9 (PySem.W.mg_of IK IG a9) B9 h_g_enumerate h_g_len
  have C_p_petals := cal_p_petals (P := l.prog) (w := w) (base := base) F10 (PySem.W.mg_of IK IG a10) B10 C_p_need_letters C_p_need_walks C_p_petals_of C_p_straightened
  have C_p_is_pair := cal_p_is_pair (P := l.prog) (w := w) (base := base) F11 (PySem.W.mg_of IK IG a11) B11 h_g_isinstance h_g_tuple h_g_len h_g_all C_p_is_integer
  have C_p_is_pair_d := cal_p_is_pair_d (P := l.prog) (w := w) (base := base) F11 (PySem.W.mg_of IK IG a11) B11 h_g_isinstance h_g_tuple h_g_len h_g_all C_p_is_integer_d
  have C_p_unlike_ends := cal_p_unlike_ends (P := l.prog) (w := w) (base := base) F12 (PySem.W.mg_of IK IG a12) B12 C_p_head_of
  have C_p_is_settled := cal_p_is_settled (P := l.prog) (w := w) (base := base) F13 (PySem.W.mg_of IK IG a13) B13 C_p_head_of
  have C_p_joinings_hold := cal_p_joinings_hold (P := l.prog) (w := w) (base := base) F14 (PySem.W.mg_of IK IG a14) B14 C_p_petals h_g_isinstance h_g_list h_g_range C_p_is_pair h_g_len C_p_unlike_ends h_g_min h_g_max C_p_is_settled
  have C_p_joinings_hold_d := cal_p_joinings_hold_d (P := l.prog) (w := w) (base := base) F14 (PySem.W.mg_of IK IG a14) B14 C_p_petals h_g_isinstance h_g_list h_g_range C_p_is_pair_d h_g_len C_p_unlike_ends h_g_min h_g_max C_p_is_settled
  have C_l_well := cal_l_well (P := l.prog) (w := w) (base := base) F15 (PySem.W.mg_of IK IG a15) B15 h_g_len h_g_enumerate h_g_int h_g_max
  have C_l_take := cal_l_take (P := l.prog) (w := w) (base := base) F16 (PySem.W.mg_of IK IG a16) B16 h_g_int
  have C_l_straight := cal_l_straight (P := l.prog) (w := w) (base := base) F17 (PySem.W.mg_of IK IG a17) B17 h_g_tuple
  have C_l_steps := cal_l_steps (P := l.prog) (w := w) (base := base) F18 (PySem.W.mg_of IK IG a18) B18 h_g_range
  have C_l_walk := cal_l_walk (P := l.prog) (w := w) (base := base) F19 (PySem.W.mg_of IK IG a19) B19 C_l_steps C_l_take h_g_range h_g_len h_g_tuple
  have C_l_petals := cal_l_petals (P := l.prog) (w := w) (base := base) F20 (PySem.W.mg_of IK IG a20) B20 C_l_straight h_g_list h_g_range h_g_len h_g_enumerate h_g_max
  have C_l_joined := cal_l_joined (P := l.prog) (w := w) (base := base) F21 (PySem.W.mg_of IK IG a21) B21 
  have C_l_with := cal_l_with (P := l.prog) (w := w) (base := base) F22 (PySem.W.mg_of IK IG a22) B22 h_g_max h_g_min
  have C_l_settled := cal_l_settled (P := l.prog) (w := w) (base := base) F23 (PySem.W.mg_of IK IG a23) B23 
  have C_l_holds := cal_l_holds (P := l.prog) (w := w) (base := base) F24 (PySem.W.mg_of IK IG a24) B24 h_g_list h_g_range h_g_len C_l_joined C_l_with C_l_settled
  have C_l_drawn := cal_l_drawn (P := l.prog) (w := w) (base := base) F25 (PySem.W.mg_of IK IG a25) B25 h_g_list h_g_range h_g_len C_l_joined C_l_take C_l_with
  have C_l_list := cal_l_list (P := l.prog) (w := w) (base := base) F26 (PySem.W.mg_of IK IG a26) B26 h_g_range C_l_take C_l_walk h_g_len
  have C_l_in := cal_l_in (P := l.prog) (w := w) (base := base) F27 (PySem.W.mg_of IK IG a27) B27 
  have C_l_in_d := cal_l_in_d (P := l.prog) (w := w) (base := base) F27 (PySem.W.mg_of IK IG a27) B27 
  have C_l_numbers := cal_l_numbers (P := l.prog) (w := w) (base := base) F28 (PySem.W.mg_of IK IG a28) B28 C_l_take h_g_len C_l_in
  have C_l_no_lists := cal_l_no_lists (P := l.prog) (w := w) (base := base) F29 (PySem.W.mg_of IK IG a29) B29 C_l_take h_g_len h_g_tuple C_l_in_d h_g_str
  have C_l_right := cal_l_right (P := l.prog) (w := w) (base := base) F30 (PySem.W.mg_of IK IG a30) B30 C_l_take C_l_list C_l_petals C_l_drawn C_l_numbers h_g_len C_l_holds h_g_list C_p_joinings_hold h_g_isinstance h_g_bool C_l_no_lists h_g_repr C_p_joinings_hold_d
  have C_l_law := cal_l_law (P := l.prog) (w := w) (base := base) F31 (PySem.W.mg_of IK IG a31) B31 h_g_range h_g_max h_g_min h_g_len C_l_right C_l_well
  obtain ⟨f_, fd_, Fn_, G_, hm_, _⟩ := C_l_law.ex
  have e := hm_.symm.trans (PySem.W.mg_of IK IG a31)
  cases e
  obtain ⟨_, _, _, _, _, _, _, _, _, rfl, lk_, _⟩ := Fn_.ex
  rw [b31] at lk_
  cases lk_
  exact G_
end L12
open PySem PySem.W PyProof.Rows
set_option maxRecDepth 100000 in
set_option maxHeartbeats 0 in
theorem PySem.Challenge.cw_walkclubs_k12_joinings_with_one_wrong_pl_holds : PySem.Challenge.rw_walkclubs_k12_joinings_with_one_wrong_pl.Holds := by
  w_on; o_law; k_head; (case hw => w_witness2)
  k_fill
  refine Z.walk_ofG (l := PySem.Challenge.rw_walkclubs_k12_joinings_with_one_wrong_pl) (n := 63) (k := 9) (x := "_law_script") (m := L12.m_l_law) rfl (by decide) rfl ⟨rfl, by decide, by decide⟩ (fun w h Y => PySem.W.kIn_of Y) ?F L12.law_true
  case F =>
    intro w mg fa h KI KG hmg
    refine' L12.tops KI KG hmg ?a0 ?b0 ?c0 ?d0 ?a1 ?b1 ?c1 ?d1 ?a2 ?b2 ?c2 ?d2 ?a3 ?b3 ?c3 ?d3 ?a4 ?b4 ?c4 ?d4 ?a5 ?b5 ?c5 ?d5 ?a6 ?b6 ?c6 ?d6 ?a7 ?b7 ?c7 ?d7 ?a8 ?b8 ?c8 ?d8 ?a9 ?b9 ?c9 ?d9 ?a10 ?b10 ?c10 ?d10 ?a11 ?b11 ?c11 ?d11 ?a12 ?b12 ?c12 ?d12 ?a13 ?b13 ?c13 ?d13 ?a14 ?b14 ?c14 ?d14 ?a15 ?b15 ?c15 ?d15 ?a16 ?b16 ?c16 ?d16 ?a17 ?b17 ?c17 ?d17 ?a18 ?b18 ?c18 ?d18 ?a19 ?b19 ?c19 ?d19 ?a20 ?b20 ?c20 ?d20 ?a21 ?b21 ?c21 ?d21 ?a22 ?b22 ?c22 ?d22 ?a23 ?b23 ?c23 ?d23 ?a24 ?b24 ?c24 ?d24 ?a25 ?b25 ?c25 ?d25 ?a26 ?b26 ?c26 ?d26 ?a27 ?b27 ?c27 ?d27 ?a28 ?b28 ?c28 ?d28 ?a29 ?b29 ?c29 ?d29 ?a30 ?b30 ?c30 ?d30 ?a31 ?b31 ?c31 ?d31 ?g_len ?g_tuple ?g_isinstance ?g_int ?g_bool ?g_MOST_LETTERS ?g_abs ?g_all ?g_enumerate ?g_list ?g_range ?g_min ?g_max ?g_str ?g_repr
    (case a0 => k_is)
    (case b0 => k_is)
    (case c0 => k_is)
    (case d0 => k_is)
    (case a1 => k_is)
    (case b1 => k_is)
    (case c1 => k_is)
    (case d1 => k_is)
    (case a2 => k_is)
    (case b2 => k_is)
    (case c2 => k_is)
    (case d2 => k_is)
    (case a3 => k_is)
    (case b3 => k_is)
    (case c3 => k_is)
    (case d3 => k_is)
    (case a4 => k_is)
    (case b4 => k_is)
    (case c4 => k_is)
    (case d4 => k_is)
    (case a5 => k_is)
    (case b5 => k_is)
    (case c5 => k_is)
    (case d5 => k_is)
    (case a6 => k_is)
    (case b6 => k_is)
    (case c6 => k_is)
    (case d6 => k_is)
    (case a7 => k_is)
    (case b7 => k_is)
    (case c7 => k_is)
    (case d7 => k_is)
    (case a8 => k_is)
    (case b8 => k_is)
    (case c8 => k_is)
    (case d8 => k_is)
    (case a9 => k_is)
    (case b9 => k_is)
    (case c9 => k_is)
    (case d9 => k_is)
    (case a10 => k_is)
    (case b10 => k_is)
    (case c10 => k_is)
    (case d10 => k_is)
    (case a11 => k_is)
    (case b11 => k_is)
    (case c11 => k_is)
    (case d11 => k_is)
    (case a12 => k_is)
    (case b12 => k_is)
    (case c12 => k_is)
    (case d12 => k_is)
    (case a13 => k_is)
    (case b13 => k_is)
    (case c13 => k_is)
    (case d13 => k_is)
    (case a14 => k_is)
    (case b14 => k_is)
    (case c14 => k_is)
    (case d14 => k_is)
    (case a15 => k_is)
    (case b15 => k_is)
    (case c15 => k_is)
    (case d15 => k_is)
    (case a16 => k_is)
    (case b16 => k_is)
    (case c16 => k_is)
    (case d16 => k_is)
    (case a17 => k_is)
    (case b17 => k_is)
    (case c17 => k_is)
    (case d17 => k_is)
    (case a18 => k_is)
    (case b18 => k_is)
    (case c18 => k_is)
    (case d18 => k_is)
    (case a19 => k_is)
    (case b19 => k_is)
    (case c19 => k_is)
    (case d19 => k_is)
    (case a20 => k_is)
    (case b20 => k_is)
    (case c20 => k_is)
    (case d20 => k_is)
    (case a21 => k_is)
    (case b21 => k_is)
    (case c21 => k_is)
    (case d21 => k_is)
    (case a22 => k_is)
    (case b22 => k_is)
    (case c22 => k_is)
    (case d22 => k_is)
    (case a23 => k_is)
    (case b23 => k_is)
    (case c23 => k_is)
    (case d23 => k_is)
    (case a24 => k_is)
    (case b24 => k_is)
    (case c24 => k_is)
    (case d24 => k_is)
    (case a25 => k_is)
    (case b25 => k_is)
    (case c25 => k_is)
    (case d25 => k_is)
    (case a26 => k_is)
    (case b26 => k_is)
    (case c26 => k_is)
    (case d26 => k_is)
    (case a27 => k_is)
    (case b27 => k_is)
    (case c27 => k_is)
    (case d27 => k_is)
    (case a28 => k_is)
    (case b28 => k_is)
    (case c28 => k_is)
    (case d28 => k_is)
    (case a29 => k_is)
    (case b29 => k_is)
    (case c29 => k_is)
    (case d29 => k_is)
    (case a30 => k_is)
    (case b30 => k_is)
    (case c30 => k_is)
    (case d30 => k_is)
    (case a31 => k_is)
    (case b31 => k_is)
    (case c31 => k_is)
    (case d31 => k_is)
    (case g_len => k_is)
    (case g_tuple => k_is)
    (case g_isinstance => k_is)
    (case g_int => k_is)
    (case g_bool => k_is)
    (case g_MOST_LETTERS => k_is)
    (case g_abs => k_is)
    (case g_all => k_is)
    (case g_enumerate => k_is)
    (case g_list => k_is)
    (case g_range => k_is)
    (case g_min => k_is)
    (case g_max => k_is)
    (case g_str => k_is)
    (case g_repr => k_is)
