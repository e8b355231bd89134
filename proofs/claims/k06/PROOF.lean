import PyProof.Rows.All
import Wide.All
import OpenK.AllK
import Wide.FinOn
import HandS.ForMost
import HandS.Wide
import HandS.TupAny
import HandS.RaiseMore
import PyProof.ReprRoads
import HandS.Style
import HandS.IsInst
import HandS.Gcd
import KE.KMathGC
import HandS.Conv
import HandS.TupMul
import HandS.RevTup
import PyProof.ListMulRoad
import PyProof.FactsAll.tuple_2
import HandS.Iter
import KE.GoesEnum
import KE.GoesMore
import HandS.Dict
import HandS.SetKeys
import HandS.DictComp
import KE.KDictSum
import HandS.Small
import HandS.NoneIn
import KE.KDictDisplayH
import HandS.Zip
import HandS.WideBits
import HandS.SortInts
import KE.DataCmp
import HandS.Finally
import HandS.TupSets
import HandS.Deep
import KE.DataMinKey
import HandS.SortKw
import KE.KDictPairs
import PySem.Challenge.RW_walkclubs_k06_walks_without_told_ones
set_option Elab.async false
set_option linter.all false
set_option maxRecDepth 100000
set_option maxHeartbeats 1000000
namespace Z
open PySem PySem.Spec PyProof.Rows L2
def kPD : Key → PyData
  | .inl i => .int i
  | .inr x => .str x
mutual
inductive Dq (H : Hp) : V → PyData → Prop
  | non : Dq H .non .none
  | bl (b : Bool) : Dq H (.bl b) (.bool b)
  | int (i : Int) : Dq H (.int i) (.int i)
  | str (x : Str) : Dq H (.str x) (.str x)
  | lst {a : Addr} {xs : List V} {ds : List PyData} : H a = some (.lst xs) → DqAll H xs ds → Dq H (.ref a) (.list ds)
  | tup {a : Addr} {xs : List V} {ds : List PyData} : H a = some (.tup xs) → DqAll H xs ds → Dq H (.ref a) (.tuple ds)
  | dctK {a : Addr} {o : Obj} {kvs : List (Key × V)} {ps : List (PyData × PyData)} : H a = some (.frz o (.dK kvs)) → kvs.map (fun p => kPD p.1) = ps.map (·.1) → DqAll H (kvs.map (·.2)) (ps.map (·.2)) → Dq H (.ref a) (.dict ps)
  | dctT {a : Addr} {o : Obj} {kvs : List (List Key × V)} {ps : List (PyData × PyData)} : H a = some (.frz o (.dT kvs)) → kvs.map (fun p => PyData.tuple (p.1.map kPD)) = ps.map (·.1) → DqAll H (kvs.map (·.2)) (ps.map (·.2)) → Dq H (.ref a) (.dict ((.none, .none) :: ps))
inductive DqAll (H : Hp) : List V → List PyData → Prop
  | nil : DqAll H [] []
  | cons {v : V} {vs : List V} {d : PyData} {ds : List PyData} : Dq H v d → DqAll H vs ds → DqAll H (v :: vs) (d :: ds)
end
mutual
theorem dq_monoH {H H' : Hp} (e : Same H H') : ∀ {v : V} {d : PyData}, Dq H v d → Dq H' v d
  | _, _, .non => .non
  | _, _, .bl _ => .bl _
  | _, _, .int _ => .int _
  | _, _, .str _ => .str _
  | _, _, .lst hs ha => .lst (e _ _ hs) (dqall_monoH e ha)
  | _, _, .tup hs ha => .tup (e _ _ hs) (dqall_monoH e ha)
  | _, _, .dctK hs hk ha => .dctK (e _ _ hs) hk (dqall_monoH e ha)
  | _, _, .dctT hs hk ha => .dctT (e _ _ hs) hk (dqall_monoH e ha)
theorem dqall_monoH {H H' : Hp} (e : Same H H') : ∀ {vs : List V} {ds : List PyData}, DqAll H vs ds → DqAll H' vs ds
  | _, _, .nil => .nil
  | _, _, .cons h1 h2 => .cons (dq_monoH e h1) (dqall_monoH e h2)
end
theorem dq_mono {H H' : Hp} (e : Same H H') (d : PyData) (v : V) (h : Dq H v d) : Dq H' v d := dq_monoH e h
theorem dqall_mono {H H' : Hp} (e : Same H H') (ds : List PyData) (vs : List V) (h : DqAll H vs ds) : DqAll H' vs ds := dqall_monoH e h
mutual
theorem nod_lay : ∀ d : PyData, d.canLay0 = true → d.hasDict = false
  | .none, _ => by simp [PyData.hasDict]
  | .bool _, _ => by simp [PyData.hasDict]
  | .int _, _ => by simp [PyData.hasDict]
  | .str _, _ => by simp [PyData.hasDict]
  | .list ds, c => by
    simp only [PyData.hasDict]
    exact nodall_lay ds (by simpa [PyData.canLay0] using c)
  | .tuple ds, c => by
    simp only [PyData.hasDict]
    exact nodall_lay ds (by simpa [PyData.canLay0] using c)
  | .dict _, c => by simp [PyData.canLay0] at c
theorem nodall_lay : ∀ ds : List PyData, PyData.canLayAll0 ds = true → PyData.hasDictAll ds = false
  | [], _ => by simp [PyData.hasDictAll]
  | d :: ds, c => by
    have c2 : d.canLay0 = true ∧ PyData.canLayAll0 ds = true := by simpa [PyData.canLayAll0] using c
    simp [PyData.hasDictAll, nod_lay d c2.1, nodall_lay ds c2.2]
end
mutual
theorem dq_dp (K : PySem.W.Frag) {H : Hp} : ∀ (d : PyData) (v : V), d.hasDict = false → Dq H v d → Dp K H v d
  | .none, _, _, h => by cases h; exact .non
  | .bool _, _, _, h => by cases h; exact .bl _
  | .int _, _, _, h => by cases h; exact .int _
  | .str _, _, _, h => by cases h; exact .str _
  | .list ds, _, c, h => by
    cases h with
    | lst hs ha => exact .lst (.of hs) (dqall_dp K ds _ (by simpa [PyData.hasDict] using c) ha)
  | .tuple ds, _, c, h => by
    cases h with
    | tup hs ha => exact .tup (.of hs) (dqall_dp K ds _ (by simpa [PyData.hasDict] using c) ha)
  | .dict _, _, c, h => by simp [PyData.hasDict] at c
theorem dqall_dp (K : PySem.W.Frag) {H : Hp} : ∀ (ds : List PyData) (vs : List V), PyData.hasDictAll ds = false → DqAll H vs ds → DpAll K H vs ds
  | [], _, _, h => by cases h; exact .nil
  | d :: ds, _, c, h => by
    have c2 : d.hasDict = false ∧ PyData.hasDictAll ds = false := by simpa [PyData.hasDictAll] using c
    cases h with
    | cons h1 h2 => exact .cons (dq_dp K d _ c2.1 h1) (dqall_dp K ds _ c2.2 h2)
end
theorem same_upd {H : Hp} {p : Addr} {o : HO} (h : H p = none) : Same H (upd H p o) := fun b x e => by
  rw [upd_ne (ne_of_none e h)]
  exact e
theorem dqall_len {H : Hp} : ∀ {ds : List PyData} {vs : List V}, DqAll H vs ds → vs.length = ds.length
  | [], _, h => by cases h; rfl
  | d :: ds, _, h => by
    cases h with
    | cons h1 h2 => rw [List.length_cons, List.length_cons, dqall_len h2]
theorem dqall_get' {H : Hp} : ∀ {ds : List PyData} {vs : List V} {i : Nat} {d : PyData}, DqAll H vs ds → ds[i]? = some d → ∃ v, vs[i]? = some v ∧ Dq H v d
  | [], _, i, v, h, e => by simp at e
  | d :: ds, _, i, v, h, e => by
    cases h with
    | cons h1 h2 =>
      cases i with
      | zero =>
        simp at e
        subst e
        exact ⟨_, rfl, h1⟩
      | succ i => exact dqall_get' (i := i) h2 (by simpa using e)
theorem dqall_app {H : Hp} : ∀ {ds es : List PyData} {vs us : List V}, DqAll H vs ds → DqAll H us es → DqAll H (vs ++ us) (ds ++ es)
  | [], _, _, _, h, g => by cases h; exact g
  | d :: ds, _, _, _, h, g => by
    cases h with
    | cons h1 h2 => exact .cons h1 (dqall_app h2 g)
theorem dqall_take {H : Hp} : ∀ {ds : List PyData} {vs : List V} (n : Nat), DqAll H vs ds → DqAll H (vs.take n) (ds.take n)
  | _, _, 0, _ => .nil
  | [], _, n + 1, h => by cases h; exact .nil
  | d :: ds, _, n + 1, h => by
    cases h with
    | cons h1 h2 => exact .cons h1 (dqall_take n h2)
theorem dqall_drop {H : Hp} : ∀ {ds : List PyData} {vs : List V} (n : Nat), DqAll H vs ds → DqAll H (vs.drop n) (ds.drop n)
  | _, _, 0, h => h
  | [], _, n + 1, h => by cases h; exact .nil
  | d :: ds, _, n + 1, h => by
    cases h with
    | cons h1 h2 => exact dqall_drop n h2
theorem dqall_set {H : Hp} {v : V} {d : PyData} (hd : Dq H v d) : ∀ {ds : List PyData} {vs : List V} (i : Nat), DqAll H vs ds → DqAll H (vs.set i v) (ds.set i d)
  | [], _, _, h => by cases h; exact .nil
  | d :: ds, _, 0, h => by
    cases h with
    | cons h1 h2 => exact .cons hd h2
  | d :: ds, _, i + 1, h => by
    cases h with
    | cons h1 h2 => exact .cons h1 (dqall_set hd i h2)
theorem dqall_ints {H : Hp} : ∀ (ns : List Int), DqAll H (ns.map V.int) (ns.map PyData.int)
  | [] => .nil
  | n :: ns => .cons (.int n) (dqall_ints ns)
theorem dqall_of_ints {H : Hp} : ∀ (ns : List Int) {vs : List V}, DqAll H vs (ns.map PyData.int) → vs = ns.map V.int
  | [], _, h => by cases h; rfl
  | n :: ns, _, h => by
    cases h with
    | cons h1 h2 =>
      cases h1
      rw [dqall_of_ints ns h2, List.map_cons]
theorem dqall_of_bools {H : Hp} : ∀ (ns : List Bool) {vs : List V}, DqAll H vs (ns.map PyData.bool) → vs = ns.map V.bl
  | [], _, h => by cases h; rfl
  | n :: ns, _, h => by
    cases h with
    | cons h1 h2 =>
      cases h1
      rw [dqall_of_bools ns h2, List.map_cons]
/-- an entry: its address, what is frozen, its own piece of the heap -/
abbrev Ent := Addr → Hp → Hp → Prop
abbrev Os := List (Addr × Ent)
abbrev VP := Hp → V → Prop
abbrev Slot := Hp → Option V → Prop
def Cl (φ : VP) (F : Hp) (v : V) : Prop := ∀ F', Same F F' → φ F' v
theorem Cl.mono {φ : VP} {F F' : Hp} {v : V} (h : Cl φ F v) (e : Same F F') : Cl φ F' v := fun G g => h G (e.trans g)
theorem Cl.now {φ : VP} {F : Hp} {v : V} (h : Cl φ F v) : φ F v := h F (Same.refl F)
def dat (d : PyData) : VP := fun F v => Dq F v d
def own (p : Addr) : VP := fun _ v => v = .ref p
theorem cl_dat {d : PyData} {F : Hp} {v : V} (h : Dq F v d) : Cl (dat d) F v := fun _ e => dq_mono e d v h
theorem cl_own {p : Addr} {F : Hp} : Cl (own p) F (.ref p) := fun _ _ => rfl
/-- the heap with one thing alone -/
def one (p : Addr) (o : HO) : Hp := upd (fun _ => none) p o
theorem one_at {p : Addr} {o : HO} : one p o p = some o := upd_same
theorem one_ne {p q : Addr} {o : HO} (h : q ≠ p) : one p o q = none := by unfold one; rw [upd_ne h]
theorem one_of {p q : Addr} {o : HO} (h : one p o q ≠ none) : q = p := Classical.byContradiction fun k => h (one_ne k)
/-- a list of one's own, its items data -/
def ol (ds : List PyData) : Ent := fun p F h => ∃ vs, h = one p (.lst vs) ∧ DqAll F vs ds
def sl (φ : VP) : Slot := fun F o => ∃ v, o = some v ∧ φ F v
def un : Slot := fun _ _ => True
/-- h over H -/
def ov (h H : Hp) : Hp := fun a => match h a with
  | some o => some o
  | none => H a
theorem ov_some {h H : Hp} {a : Addr} {o : HO} (e : h a = some o) : ov h H a = some o := by unfold ov; rw [e]
theorem ov_none {h H : Hp} {a : Addr} (e : h a = none) : ov h H a = H a := by unfold ov; rw [e]
theorem ov_one {p : Addr} {o : HO} {H : Hp} : ov (one p o) H = upd H p o := by
  funext a
  by_cases h : a = p
  · subst h; rw [ov_some one_at, upd_same]
  · rw [ov_none (one_ne h), upd_ne h]
/-- apart -/
def Ap (h k : Hp) : Prop := ∀ a, h a ≠ none → k a = none
theorem Ap.symm {h k : Hp} (x : Ap h k) : Ap k h := fun a e => Classical.byContradiction fun q => e (x a q)
inductive Pcs (F : Hp) : Os → List Hp → Prop
  | nil : Pcs F [] []
  | cons {q : Addr × Ent} {os : Os} {h : Hp} {hs : List Hp} : (∀ F', Same F F' → q.2 q.1 F' h) → Pcs F os hs → Pcs F (q :: os) (h :: hs)
theorem Pcs.mono {F F' : Hp} (e : Same F F') : ∀ {os : Os} {hs : List Hp}, Pcs F os hs → Pcs F' os hs
  | _, _, .nil => .nil
  | _, _, .cons h1 h2 => .cons (fun G g => h1 G (e.trans g)) (h2.mono e)
theorem Pcs.perm {F : Hp} {os os' : Os} (p : os.Perm os') : ∀ {hs : List Hp}, Pcs F os hs → ∃ hs', Pcs F os' hs' ∧ hs.Perm hs' := by
  induction p with
  | nil => intro hs h; exact ⟨hs, h, List.Perm.refl _⟩
  | cons x p ih =>
    intro hs h
    cases h with
    | cons h1 h2 =>
      obtain ⟨hs', a, b⟩ := ih h2
      exact ⟨_, .cons h1 a, b.cons _⟩
  | swap x y l =>
    intro hs h
    cases h with
    | cons h1 h2 =>
      cases h2 with
      | cons h2 h3 => exact ⟨_, .cons h2 (.cons h1 h3), List.Perm.swap _ _ _⟩
  | trans p q ih1 ih2 =>
    intro hs h
    obtain ⟨hs1, a, b⟩ := ih1 h
    obtain ⟨hs2, c, d⟩ := ih2 a
    exact ⟨hs2, c, b.trans d⟩
/-- no tuples -/
def NT (h : Hp) : Prop := ∀ a xs, h a ≠ some (.tup xs)
theorem nt_one {p : Addr} {o : HO} (h : ∀ xs, o ≠ .tup xs) : NT (one p o) := fun a xs e => by
  by_cases q : a = p
  · rw [q, one_at] at e
    exact h xs (Option.some.inj e)
  · rw [one_ne q] at e
    cases e
structure Ow (F : Hp) (os : Os) (H : Hp) : Prop where
  ex : Same F H
  ps : ∃ hs, Pcs F os hs ∧ (∀ h ∈ hs, Same h H ∧ Ap F h ∧ NT h) ∧ hs.Pairwise Ap
section
variable {F F' H H' : Hp} {os os' : Os} {p : Addr} {e e' : Ent} {o : HO}
theorem Ow.perm (h : Ow F os H) (hp : os.Perm os') : Ow F os' H := by
  obtain ⟨hs, a, b, c⟩ := h.ps
  obtain ⟨hs', a', q⟩ := a.perm hp
  exact ⟨h.ex, hs', a', fun k hk => b k (q.mem_iff.mpr hk), q.pairwise c fun x => x.symm⟩
/-- what is new is frozen -/
theorem Ow.frozen (h : Ow F os H) (hp : H p = none) : Ow (upd F p o) os (upd H p o) := by
  have fp : F p = none := h.ex.free hp
  obtain ⟨hs, a, b, c⟩ := h.ps
  refine ⟨fun q x eb => ?_, hs, a.mono (same_upd fp), fun k hk => ?_, c⟩
  · by_cases hb : q = p
    · subst hb
      rw [upd_same] at eb ⊢
      exact eb
    · rw [upd_ne hb] at eb ⊢
      exact h.ex q x eb
  · obtain ⟨s, x, nt⟩ := b k hk
    have kp : k p = none := s.free hp
    refine ⟨s.trans (same_upd hp), fun q eq => ?_, nt⟩
    by_cases hb : q = p
    · rw [hb]; exact kp
    · rw [upd_ne hb] at eq
      exact x q eq
/-- a piece of new things -/
theorem Ow.newP {k : Hp} (h : Ow F os H) (hk : ∀ a, k a ≠ none → H a = none) (nt : NT k) (he : ∀ F', Same F F' → e p F' k) : Ow F ((p, e) :: os) (ov k H) := by
  obtain ⟨hs, a, b, c⟩ := h.ps
  have s : Same H (ov k H) := fun q x eq => by
    cases z : k q with
    | none => rw [ov_none z]; exact eq
    | some u => rw [hk q (by rw [z]; simp)] at eq; cases eq
  refine ⟨h.ex.trans s, k :: hs, .cons he a, fun g hg => ?_, List.pairwise_cons.mpr ⟨fun g hg => ?_, c⟩⟩
  · rcases List.mem_cons.mp hg with rfl | hg
    · exact ⟨fun q x eq => ov_some eq, Ap.symm fun q eq => h.ex.free (hk q eq), nt⟩
    · exact ⟨(b g hg).1.trans s, (b g hg).2⟩
  · exact fun q eq => (b g hg).1.free (hk q eq)
theorem Ow.new (h : Ow F os H) (hp : H p = none) (he : ∀ F', Same F F' → e p F' (one p o)) (nt : ∀ xs, o ≠ .tup xs := by intro _ z; cases z) : Ow F ((p, e) :: os) (upd H p o) := by
  rw [← ov_one]
  exact h.newP (fun a ha => by rw [one_of ha]; exact hp) (nt_one nt) he
/-- the first piece, and what may stand in its place -/
theorem Ow.wr (h : Ow F ((p, e) :: os) H) : ∃ k, (∀ F', Same F F' → e p F' k) ∧ Same k H ∧ Ap F k ∧ NT k ∧
    ∀ q e' k', (∀ a, k' a ≠ none → k a ≠ none ∨ H a = none) → NT k' → (∀ F', Same F F' → e' q F' k') → Ow F ((q, e') :: os) (ov k' H) := by
  obtain ⟨hs, a, b, c⟩ := h.ps
  cases a with
  | @cons _ _ k hs h1 h2 =>
    obtain ⟨c1, c2⟩ := List.pairwise_cons.mp c
    obtain ⟨s, x, nt⟩ := b k List.mem_cons_self
    refine ⟨k, h1, s, x, nt, fun q e' k' hk nt' he => ?_⟩
    have out : ∀ g : Hp, Same g H → Ap k g → Same g (ov k' H) ∧ Ap k' g := fun g sg ag => by
      have z : ∀ a, k' a ≠ none → g a = none := fun a ha => by
        rcases hk a ha with r | r
        · exact ag a r
        · exact sg.free r
      refine ⟨fun a u eu => ?_, z⟩
      cases y : k' a with
      | none => rw [ov_none y]; exact sg a u eu
      | some w =>
        rw [z a (by rw [y]; simp)] at eu
        cases eu
    obtain ⟨f1, f2⟩ := out F h.ex x.symm
    refine ⟨f1, k' :: hs, .cons he h2, fun g hg => ?_, List.pairwise_cons.mpr ⟨fun g hg => ?_, c2⟩⟩
    · rcases List.mem_cons.mp hg with rfl | hg
      · exact ⟨fun a u eu => ov_some eu, f2.symm, nt'⟩
      · exact ⟨(out g (b g (List.mem_cons_of_mem _ hg)).1 (c1 g hg)).1, (b g (List.mem_cons_of_mem _ hg)).2⟩
    · exact (out g (b g (List.mem_cons_of_mem _ hg)).1 (c1 g hg)).2
theorem Ow.drop (h : Ow F ((p, e) :: os) H) : Ow F os H := by
  obtain ⟨hs, a, b, c⟩ := h.ps
  cases a with
  | cons h1 h2 => exact ⟨h.ex, _, h2, fun g hg => b g (List.mem_cons_of_mem _ hg), (List.pairwise_cons.mp c).2⟩
theorem Ow.freeze (h : Ow F ((p, e) :: os) H) : ∃ k, (∀ F', Same F F' → e p F' k) ∧ Same k H ∧ Ap F k ∧ Same F (ov k F) ∧ Ow (ov k F) os H := by
  obtain ⟨hs, a, b, c⟩ := h.ps
  cases a with
  | @cons _ _ k hs h1 h2 =>
    obtain ⟨c1, c2⟩ := List.pairwise_cons.mp c
    obtain ⟨s, x, _⟩ := b k List.mem_cons_self
    have sf : Same F (ov k F) := fun a u eu => by
      rw [ov_none (x a (by rw [eu]; simp))]
      exact eu
    refine ⟨k, h1, s, x, sf, fun a u eu => ?_, hs, h2.mono sf, fun g hg => ⟨(b g (List.mem_cons_of_mem _ hg)).1, fun a ha => ?_, (b g (List.mem_cons_of_mem _ hg)).2.2⟩, c2⟩
    · cases y : k a with
      | none => rw [ov_none y] at eu; exact h.ex a u eu
      | some w => rw [ov_some y] at eu; cases eu; exact s a _ y
    · cases y : k a with
      | none => rw [ov_none y] at ha; exact (b g (List.mem_cons_of_mem _ hg)).2.1 a ha
      | some w => exact c1 g hg a (by rw [y]; simp)
theorem Ow.grow (h : Ow F os H) (k : Same H H') : Ow F os H' := by
  obtain ⟨hs, a, b, c⟩ := h.ps
  exact ⟨h.ex.trans k, hs, a, fun g hg => ⟨(b g hg).1.trans k, (b g hg).2⟩, c⟩
/-- a tuple that stands is frozen -/
theorem Ow.tup {xs : List V} (h : Ow F os H) (hp : H p = some (.tup xs)) : Same F (upd F p (.tup xs)) ∧ Ow (upd F p (.tup xs)) os H := by
  obtain ⟨hs, a, b, c⟩ := h.ps
  have sf : Same F (upd F p (.tup xs)) := fun q u eu => by
    by_cases z : q = p
    · subst z
      rw [upd_same, ← h.ex q u eu, hp]
    · rw [upd_ne z]
      exact eu
  refine ⟨sf, fun q u eu => ?_, hs, a.mono sf, fun g hg => ⟨(b g hg).1, fun q eq => ?_, (b g hg).2.2⟩, c⟩
  · by_cases z : q = p
    · subst z
      rw [upd_same] at eu
      rw [hp, eu]
    · rw [upd_ne z] at eu
      exact h.ex q u eu
  · by_cases z : q = p
    · subst z
      cases y : g q with
      | none => rfl
      | some w =>
        have e1 := (b g hg).1 q w y
        rw [hp] at e1
        cases e1
        exact ((b g hg).2.2 q xs y).elim
    · rw [upd_ne z] at eq
      exact (b g hg).2.1 q eq
/-- an entry known by less -/
theorem Ow.weak (h : Ow F ((p, e) :: os) H) (k : ∀ F' g, e p F' g → e' p F' g) : Ow F ((p, e') :: os) H := by
  obtain ⟨hs, a, b, c⟩ := h.ps
  cases a with
  | cons h1 h2 => exact ⟨h.ex, _, .cons (fun G g => k G _ (h1 G g)) h2, b, c⟩
/-- entries of one thing -/
def Uni (e : Ent) (r : Hp → HO → Prop) : Prop := ∀ p F h, e p F h → ∃ o, h = one p o ∧ r F o
theorem Ow.atU {r : Hp → HO → Prop} (u : Uni e r) (h : Ow F ((p, e) :: os) H) : F p = none ∧ ∃ o, H p = some o ∧ e p F (one p o) ∧ r F o := by
  obtain ⟨k, h1, s, x, _, _⟩ := h.wr
  obtain ⟨o, rfl, hr⟩ := u p F k (h1 F (Same.refl F))
  exact ⟨Classical.byContradiction fun q => (by have := x p q; rw [one_at] at this; cases this), o, s p o one_at, h1 F (Same.refl F), hr⟩
theorem Ow.putU {r : Hp → HO → Prop} (u : Uni e r) (h : Ow F ((p, e) :: os) H) (he : ∀ F', Same F F' → e' p F' (one p o)) (nt : ∀ xs, o ≠ .tup xs := by intro _ z; cases z) : Ow F ((p, e') :: os) (upd H p o) := by
  obtain ⟨k, h1, s, x, _, w⟩ := h.wr
  obtain ⟨o', rfl, hr⟩ := u p F k (h1 F (Same.refl F))
  rw [← ov_one]
  exact w p e' _ (fun a ha => .inl (by rw [one_of ha, one_at]; simp)) (nt_one nt) he
theorem Ow.freezeU {r : Hp → HO → Prop} (u : Uni e r) (h : Ow F ((p, e) :: os) H) : ∃ o, H p = some o ∧ r F o ∧ Same F (upd F p o) ∧ Ow (upd F p o) os H := by
  obtain ⟨k, h1, s, x, sf, w⟩ := h.freeze
  obtain ⟨o, rfl, hr⟩ := u p F k (h1 F (Same.refl F))
  rw [ov_one] at sf w
  exact ⟨o, s p o one_at, hr, sf, w⟩
theorem uni_ol {ds : List PyData} : Uni (ol ds) (fun F o => ∃ vs, o = .lst vs ∧ DqAll F vs ds) := fun p F h ⟨vs, e, d⟩ => ⟨_, e, vs, rfl, d⟩
theorem Ow.atL {ds : List PyData} (h : Ow F ((p, ol ds) :: os) H) : F p = none ∧ ∃ vs, H p = some (.lst vs) ∧ DqAll F vs ds := by
  obtain ⟨a, o, b, _, vs, rfl, d⟩ := h.atU uni_ol
  exact ⟨a, vs, b, d⟩
theorem Ow.putL {ds ds' : List PyData} {vs : List V} (h : Ow F ((p, ol ds) :: os) H) (hd : DqAll F vs ds') : Ow F ((p, ol ds') :: os) (upd H p (.lst vs)) :=
  h.putU uni_ol fun G g => ⟨vs, rfl, dqall_mono g _ _ hd⟩
end
theorem perm_at {α : Type} : ∀ {l : List α} {k : Nat} {q : α}, l[k]? = some q → l.Perm (q :: l.eraseIdx k)
  | [], k, q, h => by simp at h
  | x :: l, 0, q, h => by
    simp at h
    subst h
    exact List.Perm.refl _
  | x :: l, k + 1, q, h => by
    have h1 : l[k]? = some q := by simpa using h
    exact ((perm_at h1).cons x).trans (List.Perm.swap q x _)
theorem perm_set {α : Type} : ∀ {l : List α} {k : Nat} {q q' : α}, l[k]? = some q → (q' :: l.eraseIdx k).Perm (l.set k q')
  | [], k, q, q', h => by simp at h
  | x :: l, 0, q, q', h => List.Perm.refl _
  | x :: l, k + 1, q, q', h => by
    have h1 : l[k]? = some q := by simpa using h
    exact (List.Perm.swap x q' _).trans ((perm_set (q' := q') h1).cons x)
structure Sl (F : Hp) (es : List Slot) (σ : L2.St) : Prop where
  len : σ.length = es.length
  get : ∀ (i : Nat) (s : Slot), es[i]? = some s → ∃ v : Option V, σ[i]? = some v ∧ ∀ F', Same F F' → s F' v
section
variable {F F' H : Hp} {es : List Slot} {σ : L2.St} {i : Nat} {φ : VP} {v : V}
theorem Sl.mono (h : Sl F es σ) (e : Same F F') : Sl F' es σ := ⟨h.len, fun i s q => let ⟨v, a, b⟩ := h.get i s q; ⟨v, a, fun G g => b G (e.trans g)⟩⟩
theorem Sl.val (h : Sl F es σ) (q : es[i]? = some (sl φ)) : ∃ v, σ[i]? = some (some v) ∧ Cl φ F v := by
  obtain ⟨o, a, b⟩ := h.get i _ q
  obtain ⟨v, rfl, _⟩ := b F (Same.refl F)
  refine ⟨v, a, fun G g => ?_⟩
  obtain ⟨u, e, z⟩ := b G g
  cases e
  exact z
theorem Sl.set (h : Sl F es σ) {s : Slot} {o : Option V} (k : ∀ F', Same F F' → s F' o) : Sl F (es.set i s) (σ.set i o) := by
  refine ⟨by rw [List.length_set, List.length_set, h.len], fun j t q => ?_⟩
  by_cases hj : i = j
  · subst hj
    have hi : i < es.length := by
      have := (List.getElem?_eq_some_iff.mp q).1
      rw [List.length_set] at this
      exact this
    rw [List.getElem?_set_self hi] at q
    cases q
    exact ⟨o, List.getElem?_set_self (by rw [h.len]; exact hi), k⟩
  · rw [List.getElem?_set_ne hj] at q ⊢
    exact h.get j t q
theorem Sl.put (h : Sl F es σ) (k : Cl φ F v) : Sl F (es.set i (sl φ)) (σ.set i (some v)) := h.set fun G g => ⟨v, rfl, k G g⟩
/-- slots may be forgotten: each new one is the old one or un -/
def Wk : List Slot → List Slot → Prop
  | [], [] => True
  | s :: ss, t :: ts => (t = s ∨ t = un) ∧ Wk ss ts
  | _, _ => False
theorem wk_get : ∀ {es es' : List Slot} {i : Nat} {t : Slot}, Wk es es' → es'[i]? = some t → ∃ s, es[i]? = some s ∧ (t = s ∨ t = un)
  | [], [], i, t, _, h => by simp at h
  | [], _ :: _, _, _, h, _ => h.elim
  | _ :: _, [], _, _, h, _ => h.elim
  | s :: ss, t :: ts, 0, u, h, e => by
    simp at e
    subst e
    exact ⟨s, rfl, h.1⟩
  | s :: ss, t :: ts, i + 1, u, h, e => wk_get (i := i) h.2 (by simpa using e)
theorem wk_len : ∀ {es es' : List Slot}, Wk es es' → es.length = es'.length
  | [], [], _ => rfl
  | [], _ :: _, h => h.elim
  | _ :: _, [], h => h.elim
  | s :: ss, t :: ts, h => by rw [List.length_cons, List.length_cons, wk_len h.2]
theorem Sl.weak {es' : List Slot} (h : Sl F es σ) (w : Wk es es') : Sl F es' σ := by
  refine ⟨h.len.trans (wk_len w), fun i t q => ?_⟩
  obtain ⟨s, a, b⟩ := wk_get w q
  obtain ⟨v, c, d⟩ := h.get i s a
  refine ⟨v, c, fun G g => ?_⟩
  rcases b with rfl | rfl
  · exact d G g
  · trivial
end
section
variable (X : Cx)
def WE (e : Expr) (σ : L2.St) (H : Hp) (Q : VK) : Prop := ∀ pins s, Inv X pins σ H s → wpAny (model X.prog X.w) X.A (eval e X.env) (EP X pins σ Q) X.xe s
def WT (e : Expr) (σ : L2.St) (H : Hp) (Q : Bool → Hp → Prop) : Prop := ∀ pins s, Inv X pins σ H s → wpAny (model X.prog X.w) X.A (isTrue e X.env (eval e X.env)) (TP X pins σ Q) X.xe s
def WW (e : Expr) (σ : L2.St) (H : Hp) (Q : Bool → Hp → Prop) : Prop := ∀ (whole : Sem Value) pins s, Inv X pins σ H s → wpAny (model X.prog X.w) X.A (isTrue e X.env whole) (TP X pins σ Q) X.xe s
def WA (es : List Expr) (σ : L2.St) (H : Hp) (Q : List V → Hp → Prop) : Prop := ∀ pos pins s, Inv X pins σ H s → wpAny (model X.prog X.w) X.A (spliced (backTo pos (starEach es X.env))) (AP X pins σ Q) X.xe s
def WS (st : Stmt) (D : Ends) (σ : L2.St) (H : Hp) : Prop := ∀ pins s, Inv X pins σ H s → wpAny (model X.prog X.w) X.A (exec st X.env) (SP X pins D) X.xe s
def WPs (sts : List Stmt) (D : Ends) (σ : L2.St) (H : Hp) : Prop := ∀ pins s, Inv X pins σ H s → wpAny (model X.prog X.w) X.A (execs sts X.env) (SP X pins D) X.xe s
end
section
variable {X : Cx} {e : Expr} {es : List Expr} {st : Stmt} {sts : List Stmt} {σ : L2.St} {H : Hp} {Q : VK} {te : TE} {tt : TT} {ta : TA} {ts : TS}
theorem pe_u : PE X e (WE X e) := ⟨fun pins s _ _ _ I h => h pins s I⟩
theorem pt_u : PT X e (WT X e) := ⟨fun pins s _ _ _ I h => h pins s I⟩
theorem pw_u : PW X e (WW X e) := ⟨fun w pins s _ _ _ I h => h w pins s I⟩
theorem pa_u : PA X es (WA X es) := ⟨fun pos pins s _ _ _ I h => h pos pins s I⟩
theorem ps_u : PS X st (WS X st) := ⟨fun pins s _ _ _ I h => h pins s I⟩
theorem pss_u : PSs X sts (WPs X sts) := ⟨fun pins s _ _ _ I h => h pins s I⟩
theorem we_of (h : PE X e te) (q : te σ H Q) : WE X e σ H Q := fun pins s I => h.run pins s σ H Q I q
theorem wt_of {Q : Bool → Hp → Prop} (h : PT X e tt) (q : tt σ H Q) : WT X e σ H Q := fun pins s I => h.run pins s σ H Q I q
theorem ww_of {Q : Bool → Hp → Prop} (h : PW X e tt) (q : tt σ H Q) : WW X e σ H Q := fun w pins s I => h.run w pins s σ H Q I q
theorem wa_of {Q : List V → Hp → Prop} (h : PA X es ta) (q : ta σ H Q) : WA X es σ H Q := fun pos pins s I => h.run pos pins s σ H Q I q
theorem ws_of {D : Ends} (h : PS X st ts) (q : ts D σ H) : WS X st D σ H := fun pins s I => h.run pins s σ H D I q
theorem wps_of {D : Ends} (h : PSs X sts ts) (q : ts D σ H) : WPs X sts D σ H := fun pins s I => h.run pins s σ H D I q
theorem wps_cons {D : Ends} (h : WS X st { D with nx := WPs X sts D } σ H) : WPs X (st :: sts) D σ H := wps_of (pss_cons ps_u pss_u) h
theorem wps_nil {D : Ends} (h : D.nx σ H) : WPs X [] D σ H := wps_of pss_nil h
end
def ClA : List VP → Hp → List V → Prop
  | [], _, vs => vs = []
  | φ :: φs, F, vs => ∃ v r, vs = v :: r ∧ Cl φ F v ∧ ClA φs F r
theorem cla_len {F : Hp} : ∀ {φs : List VP} {vs : List V}, ClA φs F vs → vs.length = φs.length
  | [], _, h => by rw [h]; rfl
  | φ :: φs, _, ⟨v, r, e1, h1, h2⟩ => by rw [e1, List.length_cons, List.length_cons, cla_len h2]
section
variable (X : Cx) (es : List Slot) (os : Os)
/-- e gives a value of which φ holds; what is owned goes from os to os' -/
def EX (e : Expr) (φ : VP) (os' : Os) : Prop := ∀ F σ H Q, Ow F os H → Sl F es σ → (∀ F' H' v, Same F F' → Ow F' os' H' → Cl φ F' v → Q v H') → WE X e σ H Q
/-- e gives a new list, owned from now on -/
def EN (e : Expr) (n : Ent) (os' : Os) : Prop := ∀ F σ H Q, Ow F os H → Sl F es σ → (∀ F' H' p, Same F F' → Ow F' ((p, n) :: os') H' → Q (.ref p) H') → WE X e σ H Q
def TX (e : Expr) (b : Bool) (os' : Os) : Prop := ∀ F σ H Q, Ow F os H → Sl F es σ → (∀ F' H', Same F F' → Ow F' os' H' → Q b H') → WT X e σ H Q
def WX (e : Expr) (b : Bool) (os' : Os) : Prop := ∀ F σ H Q, Ow F os H → Sl F es σ → (∀ F' H', Same F F' → Ow F' os' H' → Q b H') → WW X e σ H Q
def AX (as : List Expr) (φs : List VP) (os' : Os) : Prop := ∀ F σ H Q, Ow F os H → Sl F es σ → (∀ F' H' vs, Same F F' → Ow F' os' H' → ClA φs F' vs → Q vs H') → WA X as σ H Q
def SX (F0 : Hp) (sts : List Stmt) (D : Ends) : Prop := ∀ F σ H, Same F0 F → Ow F os H → Sl F es σ → WPs X sts D σ H
end
end Z
namespace Z
open PySem PySem.Spec PyProof.Rows L2
section
variable {X : Cx} {es : List Slot} {os os1 os2 os3 : Os} {a b c : Expr} {pos : Pos}
theorem EX.is {φ ψ : VP} {e : Expr} (h : EX X es os e φ os1) (k : φ = ψ) : EX X es os e ψ os1 := k ▸ h
theorem EX.perm {φ : VP} {e : Expr} (h : EX X es os e φ os1) (k : os1.Perm os2) : EX X es os e φ os2 := fun F σ H Q ow sl q =>
  h F σ H Q ow sl fun F' H' v e o c => q F' H' v e (o.perm k) c
theorem EX.pre {φ : VP} {e : Expr} (h : EX X es os e φ os1) (k : os2.Perm os) : EX X es os2 e φ os1 := fun F σ H Q ow sl q => h F σ H Q (ow.perm k) sl q
/-- a new list, given away: it is data from now on -/
theorem EN.ex {e : Expr} {ds : List PyData} (h : EN X es os e (ol ds) os1) : EX X es os e (dat (.list ds)) os1 := fun F σ H Q ow sl q =>
  h F σ H Q ow sl fun F' H' p e o => by
    obtain ⟨u, hu, ⟨vs, rfl, hv⟩, s, o2⟩ := o.freezeU uni_ol
    exact q _ H' (.ref p) (e.trans s) o2 (cl_dat (.lst upd_same (dqall_mono s _ _ hv)))
theorem ex_name {i : Nat} {x : Str} {φ : VP} (hN : X.N[i]? = some x) (hv : Vis X.env.scope x) (hd : (x == ("__debug__" : Str)) = false) (hcd : (x == ("__classdict__" : Str)) = false) (h : es[i]? = some (sl φ)) : EX X es os (.Name x pos) φ os := fun F σ H Q ow sl q => by
  obtain ⟨v, e, k⟩ := sl.val h
  exact we_of (pe_var hN hv hd hcd) ⟨v, e, q F H v (Same.refl F) ow k⟩
theorem ex_int {i : Int} {j} : EX X es os (.Constant (.int i) j pos) (dat (.int i)) os := fun F σ H Q ow sl q => we_of pe_int (q F H _ (Same.refl F) ow (cl_dat (.int i)))
theorem ex_bool {i : Bool} {j} : EX X es os (.Constant (.bool i) j pos) (dat (.bool i)) os := fun F σ H Q ow sl q => we_of pe_bl (q F H _ (Same.refl F) ow (cl_dat (.bl i)))
theorem ex_none {j} : EX X es os (.Constant .none j pos) (dat .none) os := fun F σ H Q ow sl q => we_of pe_non (q F H _ (Same.refl F) ow (cl_dat .non))
/-- a module's constant that holds an int -/
theorem ex_gint {x : Str} {i : Int} {t : Tok} (hg : Gl X x) (hm : X.mg x = some (.int i t)) (hd : (x == ("__debug__" : Str)) = false) : EX X es os (.Name x pos) (dat (.int i)) os := fun F σ H Q ow sl q =>
  we_of (pe_glob (v := .int i) hg hm ⟨t, rfl⟩ hd) (q F H _ (Same.refl F) ow (cl_dat (.int i)))
theorem clv_int {F : Hp} {v : V} {i : Int} (h : Cl (dat (.int i)) F v) : v = .int i := by
  have := h.now
  cases this
  rfl
theorem clv_bool {F : Hp} {v : V} {i : Bool} (h : Cl (dat (.bool i)) F v) : v = .bl i := by
  have := h.now
  cases this
  rfl
theorem clv_str {F : Hp} {v : V} {i : Str} (h : Cl (dat (.str i)) F v) : v = .str i := by
  have := h.now
  cases this
  rfl
/-- by values: r gives a datum where the operands are φ and ψ -/
def R2X (X : Cx) (r : R2) (φ ψ : VP) (os : Os) (d : VP) : Prop := ∀ F H x y Q, Ow F os H → Cl φ F x → Cl ψ F y → (∀ F' H' v, Same F F' → Ow F' os H' → Cl d F' v → Q v H') → r x y H Q
theorem ex_bin {op : Operator} {r : R2} {φ ψ d : VP} (ho : OpR X (binaryOp op) r) (hr : R2X X r φ ψ os2 d) (ha : EX X es os a φ os1) (hb : EX X es os1 b ψ os2) : EX X es os (.BinOp a op b pos) d os2 := fun F σ H Q ow sl q =>
  we_of (pe_op ho pe_u pe_u) (ha F σ H _ ow sl fun F1 H1 x e1 o1 c1 => hb F1 σ H1 _ o1 (sl.mono e1) fun F2 H2 y e2 o2 c2 =>
    hr F2 H2 x y Q o2 (c1.mono e2) c2 fun F3 H3 v e3 o3 c3 => q F3 H3 v ((e1.trans e2).trans e3) o3 c3)
theorem r2_I {C : Int → Int → Prop} {g : Int → Int → Int} {i j : Int} (h : C i j) : R2X X (rI C fun i j => .int (g i j)) (dat (.int i)) (dat (.int j)) os (dat (.int (g i j))) := fun F H x y Q ow cx cy q =>
  ⟨i, j, clv_int cx, clv_int cy, h, q F H _ (Same.refl F) ow (cl_dat (.int _))⟩
theorem r2_I0 {g : Int → Int → Int} {i j : Int} : R2X X (rI0 fun i j => .int (g i j)) (dat (.int i)) (dat (.int j)) os (dat (.int (g i j))) := fun F H x y Q ow cx cy q =>
  ⟨i, j, clv_int cx, clv_int cy, q F H _ (Same.refl F) ow (cl_dat (.int _))⟩
theorem r2_B0 {g : Int → Int → Bool} {i j : Int} : R2X X (rI0 fun i j => .bl (g i j)) (dat (.int i)) (dat (.int j)) os (dat (.bool (g i j))) := fun F H x y Q ow cx cy q =>
  ⟨i, j, clv_int cx, clv_int cy, q F H _ (Same.refl F) ow (cl_dat (.bl _))⟩
theorem ex_add {i j : Int} (ha : EX X es os a (dat (.int i)) os1) (hb : EX X es os1 b (dat (.int j)) os2) : EX X es os (.BinOp a .Add b pos) (dat (.int (i + j))) os2 := ex_bin op_add r2_I0 ha hb
theorem ex_sub {i j : Int} (ha : EX X es os a (dat (.int i)) os1) (hb : EX X es os1 b (dat (.int j)) os2) : EX X es os (.BinOp a .Sub b pos) (dat (.int (i - j))) os2 := ex_bin op_sub r2_I0 ha hb
/-- a product: told by mulO, which is none where both factors are very great -/
def mulO (i j : Int) : Option Int := if i.natAbs.log2 + j.natAbs.log2 < 1000000 then some (i * j) else none
theorem ex_mul {i j m : Int} (hm : mulO i j = some m) (ha : EX X es os a (dat (.int i)) os1) (hb : EX X es os1 b (dat (.int j)) os2) : EX X es os (.BinOp a .Mult b pos) (dat (.int m)) os2 := by
  unfold mulO at hm
  split at hm
  · rename_i h
    cases hm
    exact ex_bin op_mulW (r2_I h) ha hb
  · cases hm
/-- a product with a written factor -/
theorem ex_mulL {i j : Int} (h : -(2 ^ 64) < i ∧ i < 2 ^ 64) (ha : EX X es os a (dat (.int i)) os1) (hb : EX X es os1 b (dat (.int j)) os2) : EX X es os (.BinOp a .Mult b pos) (dat (.int (i * j))) os2 := ex_bin op_mul (r2_I (.inl h)) ha hb
theorem ex_mulR {i j : Int} (h : -(2 ^ 64) < j ∧ j < 2 ^ 64) (ha : EX X es os a (dat (.int i)) os1) (hb : EX X es os1 b (dat (.int j)) os2) : EX X es os (.BinOp a .Mult b pos) (dat (.int (i * j))) os2 := ex_bin op_mul (r2_I (.inr h)) ha hb
/-- i // j, i % j: for a positive j below 2 ^ 9000 -/
def fdivO (i j : Int) : Option Int := if 0 < j ∧ j.natAbs.log2 < 9000 then some (i / j) else none
def modO (i j : Int) : Option Int := if 0 < j then some (i % j) else none
theorem ex_fdiv {i j m : Int} (hm : fdivO i j = some m) (ha : EX X es os a (dat (.int i)) os1) (hb : EX X es os1 b (dat (.int j)) os2) : EX X es os (.BinOp a .FloorDiv b pos) (dat (.int m)) os2 := by
  unfold fdivO at hm
  split at hm
  · rename_i h
    cases hm
    exact ex_bin op_fdivW (r2_I h) ha hb
  · cases hm
theorem ex_mod {i j m : Int} (hm : modO i j = some m) (ha : EX X es os a (dat (.int i)) os1) (hb : EX X es os1 b (dat (.int j)) os2) : EX X es os (.BinOp a .Mod b pos) (dat (.int m)) os2 := by
  unfold modO at hm
  split at hm
  · rename_i h
    cases hm
    exact ex_bin op_mod (r2_I (C := fun _ j => 0 < j) h) ha hb
  · cases hm
/-- i ** j -/
def powO (i j : Int) : Option Int := if 0 ≤ j ∧ (Builtin.Int.intBits i : Int) * j ≤ 2 ^ 27 then some (i ^ j.toNat) else none
theorem op_powW : OpR X (binaryOp .Pow) (rI (fun i j => 0 ≤ j ∧ (Builtin.Int.intBits i : Int) * j ≤ 2 ^ 27) fun i j => .int (i ^ j.toNat)) := opI fun _ _ _ _ _ _ _ hc q => pow_int hc.1 hc.2 q
theorem ex_pow {i j m : Int} (hm : powO i j = some m) (ha : EX X es os a (dat (.int i)) os1) (hb : EX X es os1 b (dat (.int j)) os2) : EX X es os (.BinOp a .Pow b pos) (dat (.int m)) os2 := by
  unfold powO at hm
  split at hm
  · rename_i h
    cases hm
    exact ex_bin op_powW (r2_I h) ha hb
  · cases hm
theorem ex_neg {i : Int} (ha : EX X es os a (dat (.int i)) os1) : EX X es os (.UnaryOp .USub a pos) (dat (.int (-i))) os1 := fun F σ H Q ow sl q =>
  we_of (pe_un un_neg pe_u) (ha F σ H _ ow sl fun F1 H1 x e1 o1 c1 => ⟨i, clv_int c1, q F1 H1 _ e1 o1 (cl_dat (.int _))⟩)
theorem ex_cmp {op : CmpOp} {r : R2} {φ ψ d : VP} (ho : OpR X (compareOp op) r) (hr : R2X X r φ ψ os2 d) (hm : behindInMarks op b = false) (ha : EX X es os a φ os1) (hb : EX X es os1 b ψ os2) : EX X es os (.Compare a [op] [b] pos) d os2 := fun F σ H Q ow sl q =>
  we_of (pe_cmpR ho pe_u pe_u hm) (ha F σ H _ ow sl fun F1 H1 x e1 o1 c1 => hb F1 σ H1 _ o1 (sl.mono e1) fun F2 H2 y e2 o2 c2 =>
    hr F2 H2 x y Q o2 (c1.mono e2) c2 fun F3 H3 v e3 o3 c3 => q F3 H3 v ((e1.trans e2).trans e3) o3 c3)
theorem tx_cmp {op : CmpOp} {r : R2} {φ ψ : VP} {k : Bool} (ho : OpR X (compareOp op) r) (hr : R2X X r φ ψ os2 (dat (.bool k))) (hm : behindInMarks op b = false) (ha : EX X es os a φ os1) (hb : EX X es os1 b ψ os2) : TX X es os (.Compare a [op] [b] pos) k os2 := fun F σ H Q ow sl q =>
  wt_of (pt_cmpR ho pe_u pe_u hm) (ha F σ H _ ow sl fun F1 H1 x e1 o1 c1 => hb F1 σ H1 _ o1 (sl.mono e1) fun F2 H2 y e2 o2 c2 =>
    hr F2 H2 x y _ o2 (c1.mono e2) c2 fun F3 H3 v e3 o3 c3 => ⟨k, clv_bool c3, q F3 H3 ((e1.trans e2).trans e3) o3⟩)
theorem r2_lt {i j : Int} : R2X X (rI0 fun i j => .bl (decide (i < j))) (dat (.int i)) (dat (.int j)) os (dat (.bool (decide (i < j)))) := r2_B0
theorem r2_le {i j : Int} : R2X X (rI0 fun i j => .bl (decide (i ≤ j))) (dat (.int i)) (dat (.int j)) os (dat (.bool (decide (i ≤ j)))) := r2_B0
theorem r2_gt {i j : Int} : R2X X (rI0 fun i j => .bl (decide (j < i))) (dat (.int i)) (dat (.int j)) os (dat (.bool (decide (j < i)))) := r2_B0
theorem r2_ge {i j : Int} : R2X X (rI0 fun i j => .bl (decide (j ≤ i))) (dat (.int i)) (dat (.int j)) os (dat (.bool (decide (j ≤ i)))) := r2_B0
theorem shaped_lay {d : PyData} (h : SeqAt.shaped d = true) : d.hasDict = false := by
  unfold SeqAt.shaped at h
  rw [Bool.and_eq_true] at h
  exact nod_lay d h.1
theorem r2_eqI {i j : Int} : R2X X rEq (dat (.int i)) (dat (.int j)) os (dat (.bool (decide (i = j)))) := fun F H x y Q ow cx cy q => by
  rw [clv_int cx, clv_int cy]
  refine ⟨rfl, ?_⟩
  rw [dec_int, Bool.beq_eq_decide_eq]
  exact q F H _ (Same.refl F) ow (cl_dat (.bl _))
theorem r2_neI {i j : Int} : R2X X rNe (dat (.int i)) (dat (.int j)) os (dat (.bool (!decide (i = j)))) := fun F H x y Q ow cx cy q => by
  rw [clv_int cx, clv_int cy]
  refine ⟨rfl, ?_⟩
  rw [dec_int, Bool.beq_eq_decide_eq]
  exact q F H _ (Same.refl F) ow (cl_dat (.bl _))
theorem r2_neS {i j : Str} : R2X X rNe (dat (.str i)) (dat (.str j)) os (dat (.bool (!decide (i = j)))) := fun F H x y Q ow cx cy q => by
  rw [clv_str cx, clv_str cy]
  refine ⟨rfl, ?_⟩
  have e : decide (V.str i = V.str j) = decide (i = j) := by simp only [V.str.injEq]
  rw [e]
  exact q F H _ (Same.refl F) ow (cl_dat (.bl _))
/-- a < b < c -/
theorem ex_chain {op op' : CmpOp} {r r' : R2} {φ ψ χ : VP} {k k' : Bool} (ho : OpR X (compareOp op) r) (ho' : OpR X (compareOp op') r') (hr : R2X X r φ ψ os2 (dat (.bool k))) (hr' : R2X X r' ψ χ os3 (dat (.bool k'))) (h23 : k = false → os2 = os3)
    (ha : EX X es os a φ os1) (hb : EX X es os1 b ψ os2) (hc : k = true → EX X es os2 c χ os3) (hlm : lastMarks [op, op'] [b, c] = false := by rfl) : EX X es os (.Compare a [op, op'] [b, c] pos) (dat (.bool (k && k'))) os3 := fun F σ H Q ow sl q =>
  we_of (pe_chain ho ho' pe_u pe_u pe_u hlm) (ha F σ H _ ow sl fun F1 H1 x e1 o1 c1 => hb F1 σ H1 _ o1 (sl.mono e1) fun F2 H2 y e2 o2 c2 =>
    hr F2 H2 x y _ o2 (c1.mono e2) c2 fun F3 H3 v e3 o3 c3 => ⟨k, clv_bool c3, by
      have e := (e1.trans e2).trans e3
      cases k with
      | true =>
        rw [if_pos rfl]
        refine hc rfl F3 σ H3 _ o3 (sl.mono e) fun F4 H4 z e4 o4 c4 => ?_
        exact hr' F4 H4 y z Q o4 ((c2.mono e3).mono e4) c4 fun F5 H5 v e5 o5 c5 => q F5 H5 v ((e.trans e4).trans e5) o5 (by simpa using c5)
      | false =>
        rw [if_neg Bool.false_ne_true]
        exact q F3 H3 _ e (h23 rfl ▸ o3) (cl_dat (.bl _))⟩)
theorem tx_val {e : Expr} {k : Bool} (h : EX X es os e (dat (.bool k)) os1) (he : ∀ whole, isTrue e X.env whole = (do let v ← whole; standAt e.pos; holding [v] (truthy v)) := by intro _; rfl) : TX X es os e k os1 := fun F σ H Q ow sl q =>
  wt_of (pt_val pe_u he) (h F σ H _ ow sl fun F1 H1 x e1 o1 c1 => ⟨k, clv_bool c1, q F1 H1 e1 o1⟩)
theorem tx_not {k : Bool} (h : TX X es os a k os1) : TX X es os (.UnaryOp .Not a pos) (!k) os1 := fun F σ H Q ow sl q =>
  wt_of (pt_not pt_u) (h F σ H _ ow sl fun F1 H1 e1 o1 => q F1 H1 e1 o1)
theorem WX.tx {e : Expr} {k : Bool} (h : WX X es os e k os1) : TX X es os e k os1 := fun F σ H Q ow sl q => wt_of (PW.pt pw_u) (h F σ H Q ow sl q)
theorem wx_and1 {k : Bool} (h : TX X es os a k os1) : WX X es os (.BoolOp .And [a] pos) k os1 := fun F σ H Q ow sl q => ww_of (pw_and1 pt_u) (h F σ H Q ow sl q)
theorem wx_or1 {k : Bool} (h : TX X es os a k os1) : WX X es os (.BoolOp .Or [a] pos) k os1 := fun F σ H Q ow sl q => ww_of (pw_or1 pt_u) (h F σ H Q ow sl q)
theorem wx_and {rest : List Expr} {k l m : Bool} (h1 : TX X es os a k os1) (h2 : k = true → WX X es os1 (.BoolOp .And (b :: rest) pos) l os2) (hf : k = false → os1 = os2) (hm : (k && l) = m) : WX X es os (.BoolOp .And (a :: b :: rest) pos) m os2 := fun F σ H Q ow sl q =>
  ww_of (pw_and pt_u pw_u) (h1 F σ H _ ow sl fun F1 H1 e1 o1 => by
    cases k with
    | true =>
      rw [if_pos rfl]
      exact h2 rfl F1 σ H1 Q o1 (sl.mono e1) fun F2 H2 e2 o2 => by rw [← hm] at q; exact q F2 H2 (e1.trans e2) o2
    | false =>
      rw [if_neg Bool.false_ne_true]
      rw [← hm] at q
      exact q F1 H1 e1 (hf rfl ▸ o1))
theorem wx_or {rest : List Expr} {k l m : Bool} (h1 : TX X es os a k os1) (h2 : k = false → WX X es os1 (.BoolOp .Or (b :: rest) pos) l os2) (hf : k = true → os1 = os2) (hm : (k || l) = m) : WX X es os (.BoolOp .Or (a :: b :: rest) pos) m os2 := fun F σ H Q ow sl q =>
  ww_of (pw_or pt_u pw_u) (h1 F σ H _ ow sl fun F1 H1 e1 o1 => by
    cases k with
    | false =>
      rw [if_neg Bool.false_ne_true]
      exact h2 rfl F1 σ H1 Q o1 (sl.mono e1) fun F2 H2 e2 o2 => by rw [← hm] at q; exact q F2 H2 (e1.trans e2) o2
    | true =>
      rw [if_pos rfl]
      rw [← hm] at q
      exact q F1 H1 e1 (hf rfl ▸ o1))
/-- as values -/
theorem ex_one {op} {φ : VP} (h : EX X es os a φ os1) : EX X es os (.BoolOp op [a] pos) φ os1 := fun F σ H Q ow sl q => we_of (pe_one pe_u) (h F σ H Q ow sl q)
theorem ex_and {rest : List Expr} {k l m : Bool} (h1 : EX X es os a (dat (.bool k)) os1) (h2 : k = true → EX X es os1 (.BoolOp .And (b :: rest) pos) (dat (.bool l)) os2) (hf : k = false → os1 = os2) (hm : (k && l) = m) :
    EX X es os (.BoolOp .And (a :: b :: rest) pos) (dat (.bool m)) os2 := fun F σ H Q ow sl q =>
  we_of (pe_and pe_u pe_u) (h1 F σ H _ ow sl fun F1 H1 x e1 o1 c1 => ⟨k, clv_bool c1, by
    subst hm
    cases k with
    | true =>
      rw [if_pos rfl]
      exact h2 rfl F1 σ H1 Q o1 (sl.mono e1) fun F2 H2 v e2 o2 c2 => q F2 H2 v (e1.trans e2) o2 (by simpa using c2)
    | false =>
      rw [if_neg Bool.false_ne_true]
      exact q F1 H1 _ e1 (hf rfl ▸ o1) (cl_dat (.bl _))⟩)
theorem ex_not {k : Bool} (h : EX X es os a (dat (.bool k)) os1) : EX X es os (.UnaryOp .Not a pos) (dat (.bool (!k))) os1 := fun F σ H Q ow sl q =>
  we_of (pe_not pe_u) (h F σ H _ ow sl fun F1 H1 x e1 o1 c1 => ⟨k, clv_bool c1, q F1 H1 _ e1 o1 (cl_dat (.bl _))⟩)
theorem ex_if {k : Bool} {φ : VP} (hc : TX X es os c k os1) (ha : k = true → EX X es os1 a φ os2) (hb : k = false → EX X es os1 b φ os2) : EX X es os (.IfExp c a b pos) φ os2 := fun F σ H Q ow sl q =>
  we_of (pe_ifExp pt_u pe_u pe_u) (hc F σ H _ ow sl fun F1 H1 e1 o1 => by
    cases k with
    | true =>
      rw [if_pos rfl]
      exact ha rfl F1 σ H1 Q o1 (sl.mono e1) fun F2 H2 v e2 => q F2 H2 v (e1.trans e2)
    | false =>
      rw [if_neg Bool.false_ne_true]
      exact hb rfl F1 σ H1 Q o1 (sl.mono e1) fun F2 H2 v e2 => q F2 H2 v (e1.trans e2))
theorem ax_nil : AX X es os [] [] os := fun F σ H Q ow sl q => wa_of pa_nil (q F H [] (Same.refl F) ow rfl)
theorem ax_cons {as : List Expr} {φ : VP} {φs : List VP} (ha : EX X es os a φ os1) (hr : AX X es os1 as φs os2) (hs : starEach (a :: as) X.env = (false, eval a X.env) :: starEach as X.env := by rfl) : AX X es os (a :: as) (φ :: φs) os2 := fun F σ H Q ow sl q =>
  wa_of (pa_cons pe_u pa_u hs) (ha F σ H _ ow sl fun F1 H1 x e1 o1 c1 => hr F1 σ H1 _ o1 (sl.mono e1) fun F2 H2 vs e2 o2 c2 => q F2 H2 _ (e1.trans e2) o2 ⟨x, vs, rfl, c1.mono e2, c2⟩)
theorem cla_dq {F : Hp} : ∀ {ds : List PyData} {vs : List V}, ClA (ds.map dat) F vs → DqAll F vs ds
  | [], _, h => by
    have e : _ = [] := h
    rw [e]
    exact .nil
  | d :: ds, _, ⟨v, r, e, h1, h2⟩ => by
    rw [e]
    exact .cons h1.now (cla_dq h2)
theorem ex_tup {as : List Expr} {x1} {ds : List PyData} (h : AX X es os as (ds.map dat) os1) (hl : ds.length ≤ sizeLine := by decide) : EX X es os (.Tuple as x1 pos) (dat (.tuple ds)) os1 := fun F σ H Q ow sl q =>
  we_of (pe_tup pa_u) (h F σ H _ ow sl fun F1 H1 vs e1 o1 c1 => by
    have hd := cla_dq c1
    refine ⟨by rw [dqall_len hd]; exact hl, fun p hp => ?_⟩
    have fp := o1.ex.free hp
    exact q _ _ _ (e1.trans (same_upd fp)) (o1.frozen hp) (cl_dat (.tup upd_same (dqall_mono (same_upd fp) _ _ hd))))
theorem en_lst {as : List Expr} {ds : List PyData} (h : AX X es os as (ds.map dat) os1) (hl : ds.length ≤ sizeLine := by decide) : EN X es os (.List as pos) (ol ds) os1 := fun F σ H Q ow sl q =>
  we_of (pe_lst pa_u) (h F σ H _ ow sl fun F1 H1 vs e1 o1 c1 => by
    have hd := cla_dq c1
    refine ⟨by rw [dqall_len hd]; exact hl, fun p hp => ?_⟩
    exact q _ _ _ e1 (o1.new hp fun G g => ⟨vs, rfl, dqall_mono g _ _ hd⟩))
/-- of every value of φ (its object owned or not): it is read as a list of ds -/
def RdL (X : Cx) (φ : VP) (os : Os) (ds : List PyData) : Prop := ∀ F H v, Ow F os H → Cl φ F v → ∃ a vs, v = .ref a ∧ SqL X.K H a vs ∧ DqAll F vs ds
def RdT (φ : VP) (ds : List PyData) : Prop := ∀ F v, Cl φ F v → ∃ a vs, v = .ref a ∧ F a = some (.tup vs) ∧ DqAll F vs ds
theorem rdl_dat {ds : List PyData} : RdL X (dat (.list ds)) os ds := fun F H v ow c => by
  have h := c.now
  cases h with
  | lst h1 h2 => exact ⟨_, _, rfl, .of (ow.ex _ _ h1), h2⟩
theorem rdl_own {p : Addr} {ds : List PyData} (k : Nat) (h : os[k]? = some (p, ol ds)) : RdL X (own p) os ds := fun F H v ow c => by
  obtain ⟨_, vs, ho, hv⟩ := (ow.perm (perm_at h)).atL
  exact ⟨p, vs, c.now, .of ho, hv⟩
/-- the script -/
def scr (K : PySem.W.Frag) (ns : List Int) : VP := fun F v => ∃ a, v = .ref a ∧ SqL K F a (ns.map V.int)
theorem rdl_scr {ns : List Int} : RdL X (scr X.K ns) os (ns.map PyData.int) := fun F H v ow c => by
  obtain ⟨a, rfl, h⟩ := c.now
  exact ⟨a, _, rfl, ow.ex.seq h, dqall_ints ns⟩
theorem rdt_dat {ds : List PyData} : RdT (dat (.tuple ds)) ds := fun F v c => by
  have h := c.now
  cases h with
  | tup h1 h2 => exact ⟨_, _, rfl, h1, h2⟩
/-- xs[i], i of any sign -/
def idx {α : Type} (xs : List α) (i : Int) : Option α := atI xs i
theorem atI_map {α β : Type} (f : α → β) {xs : List α} {i : Int} {v : α} (h : atI xs i = some v) : atI (xs.map f) i = some (f v) := by
  unfold atI at h ⊢
  rw [List.length_map]
  cases e : ixN xs.length i with
  | none => rw [e] at h; cases h
  | some j =>
    rw [e] at h
    have h' : xs[j]? = some v := h
    show (xs.map f)[j]? = some (f v)
    rw [List.getElem?_map, h']
    rfl
theorem atI_dq {F : Hp} {vs : List V} {ds : List PyData} {i : Int} {d : PyData} (h : DqAll F vs ds) (k : atI ds i = some d) : ∃ v, atI vs i = some v ∧ Dq F v d := by
  unfold atI at k ⊢
  rw [dqall_len h]
  cases e : ixN ds.length i with
  | none => rw [e] at k; cases k
  | some j =>
    rw [e] at k
    exact dqall_get' h k
theorem ex_ixL {φ : VP} {ds : List PyData} {i : Int} {d : PyData} (hr : RdL X φ os2 ds) (hk : atI ds i = some d) (ha : EX X es os a φ os1) (hb : EX X es os1 b (dat (.int i)) os2) (hp : PlainIx b := by exact fun _ _ => rfl) : EX X es os (.Subscript a b pos) (dat d) os2 := fun F σ H Q ow sl q =>
  we_of (pe_ix ix_list pe_u pe_u hp) (ha F σ H _ ow sl fun F1 H1 x e1 o1 c1 => hb F1 σ H1 _ o1 (sl.mono e1) fun F2 H2 y e2 o2 c2 => by
    obtain ⟨p, vs, rfl, hs, hv⟩ := hr F2 H2 x o2 (c1.mono e2)
    obtain ⟨v, hi, hd⟩ := atI_dq hv hk
    exact ⟨p, vs, i, v, rfl, clv_int c2, hs, hi, q F2 H2 v (e1.trans e2) o2 (cl_dat hd)⟩)
theorem ex_ixT {φ : VP} {ds : List PyData} {i : Int} {d : PyData} (hr : RdT φ ds) (hk : atI ds i = some d) (ha : EX X es os a φ os1) (hb : EX X es os1 b (dat (.int i)) os2) (hp : PlainIx b := by exact fun _ _ => rfl) : EX X es os (.Subscript a b pos) (dat d) os2 := fun F σ H Q ow sl q =>
  we_of (pe_ix ix_tup pe_u pe_u hp) (ha F σ H _ ow sl fun F1 H1 x e1 o1 c1 => hb F1 σ H1 _ o1 (sl.mono e1) fun F2 H2 y e2 o2 c2 => by
    obtain ⟨p, vs, rfl, hs, hv⟩ := hr F2 x (c1.mono e2)
    obtain ⟨v, hi, hd⟩ := atI_dq hv hk
    exact ⟨p, vs, i, v, rfl, clv_int c2, .of (o2.ex _ _ hs), hi, q F2 H2 v (e1.trans e2) o2 (cl_dat hd)⟩)
end
end Z
namespace Z
open PySem PySem.Spec PyProof.Rows L2
structure FnG (P : Program) (w : World) (K : PySem.W.Frag) (mg : Str → Option Value) (base : Heap) (C : CXT) (k : Nat) (f : Addr) (fd : FuncData) (ps : List Str) (sp : Sp) : Prop where
  len : ∀ vs H Q E, sp vs H Q E → vs.length = ps.length
  run : ∀ (A : Around) (outer : List Env) (s : Shared) (H : Hp) (args : Args) (us : List Value) (vs : List V) (Q : VK) (E : XK), A.guards = some [] → Room k A →
    Env0 P w K mg base A outer s H → BindsTo s fd args (ps.zip us) → Vals vs us → sp vs H Q E → codeAny (model P w) A (.call (.ref f) args) (CR C outer P w H s Q E) s
section
variable {P : Program} {w : World} {K : PySem.W.Frag} {mg : Str → Option Value} {base : Heap} {C : CXT}
theorem FnG.mono {j k : Nat} {f : Addr} {fd : FuncData} {ps : List Str} {sp : Sp} (F : FnG P w K mg base C j f fd ps sp) (h : j ≤ k) : FnG P w K mg base C k f fd ps sp :=
  ⟨F.len, fun A outer s H args us vs Q E hg hr => F.run A outer s H args us vs Q E hg (hr.mono h)⟩
/-- the body of a def is looked at once -/
theorem fun_ok {x qual : Str} {st : Stmt} {f : Addr} {fd : FuncData} {N ps : List Str} {k : Nat} {sp : Sp} (G : Fun K x qual st f fd) (S : FnScope N ps (defScope st)) (len : ∀ vs H Q E, sp vs H Q E → vs.length = ps.length)
    (body : ∀ (cdv : Value) (A : Around) (outer : List Env) (s : Shared) (H : Hp) (vs : List V) (Q : VK) (E : XK), A.guards = some [] → Room k (A.deeper (envOfC qual (defScope st) s.heap.objs.size f cdv)) → sp vs H Q E →
      WPs (cxOf C P w K mg base N qual (defScope st) f cdv A outer s H E) (defBody st) { nx := fun _ H' => Q .non H', rt := Q } (start N vs) H) : FnG P w K mg base C (k + 1) f fd ps sp := by
  obtain ⟨oc, od, kV, doc, pm, an, cdv, ct, osl, rfl, lk, hcd⟩ := G.ex
  refine ⟨len, ?_⟩
  intro A outer s H args us vs Q E hg hr e0 hb r hsp
  have inh : K.In s.heap := e0.mod.kin.keeps fun b o q => (e0.bs b o q).1
  have nol : s.heap.NoLimit := e0.mod.nolimit.keeps fun b o q => (e0.bs b o q).1
  refine codeAny_call_function hr.depth (inh _ _ lk) rfl S.co S.gen rfl (PySem.W.codeRec_of inh hcd) (hb _ _ _ _ ?_)
  refine wpAny_newFunctionEnv_cells S.kind ?_ ?_
  · rintro ⟨n, v⟩ hy
    rcases S.par n (List.of_mem_zip hy).1 with q | q
    · exact .inl q
    · exact .inr ⟨q, PySem.W.cellsFrom_some _ _ _ (.inl q)⟩
  · intro env he s1 x
    subst he
    refine ⟨nol.keeps x.toInCall.keep, codeAny_func ?_⟩
    have I := inv_start (CX := C) (P := P) (w := w) (E := E) S hr.hd e0 (len _ _ _ _ hsp) r x
    refine wpAny_mono (body cdv A outer s H vs Q E hg (hr.deeper _) hsp [] s1 I) ?_ fun _ _ z => z
    intro fl s' z
    cases fl with
    | ret u =>
      obtain ⟨v, σ', H', J, rv, q⟩ := z
      exact ⟨v, H', J.os, J.bare, J.base, J.hok, rv, q⟩
    | next =>
      obtain ⟨σ', H', J, q⟩ := z
      exact ⟨.non, H', J.os, J.bare, J.base, J.hok, rfl, q⟩
    | brk =>
      obtain ⟨_, _, _, q⟩ := z
      exact q.elim
    | cont =>
      obtain ⟨_, _, _, q⟩ := z
      exact q.elim
end
def visB (sc : Scope) (x : Str) : Bool := match sc.names.lookup x with
  | some .local => true
  | some .cell => true
  | some .free => true
  | _ => false
def locB (sc : Scope) (x : Str) : Bool := match sc.names.lookup x with
  | some .local => true
  | some .cell => true
  | _ => false
def glB (sc : Scope) (x : Str) : Bool := match sc.names.lookup x with
  | some .globalImplicit => true
  | _ => false
def dunB (x : Str) : Bool := !(x == ("__debug__" : Str)) && !(x == ("__classdict__" : Str)) && !(x == ("__name__" : Str))
theorem vis_of {sc : Scope} {x : Str} (h : visB sc x = true) : Vis sc x := by
  unfold visB at h
  split at h
  · exact .inl (by assumption)
  · exact .inr (.inl (by assumption))
  · exact .inr (.inr (by assumption))
  · cases h
theorem loc_of {sc : Scope} {x : Str} (h : locB sc x = true) : Loc sc x := by
  unfold locB at h
  split at h
  · exact .inl (by assumption)
  · exact .inr (by assumption)
  · cases h
/-- in X: the i-th name stands at its slot and is seen; the j-th global one is one -/
structure Bd (X : Cx) (N : List Str) (V G : List Str) (k : Nat) : Prop where
  hN : X.N = N
  nd : N.Nodup
  calm : X.calm = true
  gd : X.A.guards = some []
  room : Room k X.A
  vis : ∀ x ∈ V, Vis X.env.scope x ∧ dunB x = true
  gl : ∀ x ∈ G, Gl X x ∧ dunB x = true
theorem dun_d {x : Str} (h : dunB x = true) : (x == ("__debug__" : Str)) = false := by
  unfold dunB at h
  simp only [Bool.and_eq_true, Bool.not_eq_true'] at h
  exact h.1.1
theorem dun_c {x : Str} (h : dunB x = true) : (x == ("__classdict__" : Str)) = false := by
  unfold dunB at h
  simp only [Bool.and_eq_true, Bool.not_eq_true'] at h
  exact h.1.2
theorem dun_n {x : Str} (h : dunB x = true) : x ≠ "__name__" := by
  unfold dunB at h
  simp only [Bool.and_eq_true, Bool.not_eq_true', beq_eq_false_iff_ne, ne_eq] at h
  exact h.2
/-- the names of a body, all at once -/
def namB (sc : Scope) (V G : List Str) : Bool := (V.all fun x => visB sc x && dunB x) && (G.all fun x => glB sc x && dunB x)
theorem nam_vis {sc : Scope} {V G : List Str} (h : namB sc V G = true) : ∀ x ∈ V, Vis sc x ∧ dunB x = true := fun x hx => by
  unfold namB at h
  rw [Bool.and_eq_true, List.all_eq_true] at h
  have := h.1 x hx
  rw [Bool.and_eq_true] at this
  exact ⟨vis_of this.1, this.2⟩
theorem nam_gl {sc : Scope} {V G : List Str} (h : namB sc V G = true) : ∀ x ∈ G, sc.names.lookup x = some .globalImplicit ∧ dunB x = true := fun x hx => by
  unfold namB at h
  rw [Bool.and_eq_true, List.all_eq_true, List.all_eq_true] at h
  have := h.2 x hx
  rw [Bool.and_eq_true] at this
  refine ⟨?_, this.2⟩
  have q := this.1
  unfold glB at q
  split at q
  · assumption
  · cases q
section
variable {X : Cx} {es : List Slot} {os os1 os2 os3 : Os} {N V G : List Str} {k : Nat} {x : Str} {p pos : Pos} {e : Expr} {as : List Expr}
theorem ex_v {i j : Nat} {φ : VP} (B : Bd X N V G k) (hi : N[i]? = some x) (hj : V[j]? = some x) (h : es[i]? = some (sl φ)) : EX X es os (.Name x pos) φ os :=
  let ⟨a, b⟩ := B.vis x (List.mem_of_getElem? hj)
  ex_name (B.hN ▸ hi) a (dun_d b) (dun_c b) h
theorem ex_g {j : Nat} {i : Int} {t : Tok} (B : Bd X N V G k) (hj : G[j]? = some x) (hm : X.mg x = some (.int i t)) : EX X es os (.Name x pos) (dat (.int i)) os :=
  let ⟨a, b⟩ := B.gl x (List.mem_of_getElem? hj)
  ex_gint a hm (dun_d b)
def RCX (r : List L2.V → Hp → VK → Prop) (φs : List VP) (os : Os) (d : VP) (os' : Os) : Prop := ∀ F H vs Q, Ow F os H → ClA φs F vs → (∀ F' H' v, Same F F' → Ow F' os' H' → Cl d F' v → Q v H') → r vs H Q
def RCN (r : List L2.V → Hp → VK → Prop) (φs : List VP) (os : Os) (n : Ent) (os' : Os) : Prop := ∀ F H vs Q, Ow F os H → ClA φs F vs → (∀ F' H' p, Same F F' → Ow F' ((p, n) :: os') H' → Q (.ref p) H') → r vs H Q
theorem ex_fn {id : String} {r : List L2.V → Hp → VK → Prop} {φs : List VP} {d : VP} {j : Nat} (B : Bd X N V G k) (hj : G[j]? = some x) (hm : X.mg x = none) (hv : bootBuiltins x = some (.builtin id)) (hc : CallR X (.builtin id) r) (hr : RCX r φs os1 d os2)
    (ha : AX X es os (e :: as) φs os1) (he : starEach (e :: as) X.env = (false, eval e X.env) :: starEach as X.env := by rfl) (hpl : (backTo pos (starEach as X.env)).any (·.1) = false := by rfl) : EX X es os (.Call (.Name x p) (e :: as) [] pos) d os2 := fun F σ H Q ow sl q =>
  let ⟨a, b⟩ := B.gl x (List.mem_of_getElem? hj)
  we_of (pe_callB hc a hm hv pa_u (dun_n b) (dun_d b) he hpl) (ha F σ H _ ow sl fun F1 H1 vs e1 o1 c1 => hr F1 H1 vs Q o1 c1 fun F2 H2 v e2 => q F2 H2 v (e1.trans e2))
theorem ex_ty {T : String} {r : List L2.V → Hp → VK → Prop} {φs : List VP} {d : VP} {j : Nat} (B : Bd X N V G k) (hj : G[j]? = some x) (hm : X.mg x = none) (hv : bootBuiltins x = some (.type T)) (hc : CallR X (.type T) r) (hr : RCX r φs os1 d os2)
    (ha : AX X es os (e :: as) φs os1) (he : starEach (e :: as) X.env = (false, eval e X.env) :: starEach as X.env := by rfl) (hpl : (backTo pos (starEach as X.env)).any (·.1) = false := by rfl) : EX X es os (.Call (.Name x p) (e :: as) [] pos) d os2 := fun F σ H Q ow sl q =>
  let ⟨a, b⟩ := B.gl x (List.mem_of_getElem? hj)
  we_of (pe_callTy hc a hm hv pa_u (dun_n b) (dun_d b) he hpl) (ha F σ H _ ow sl fun F1 H1 vs e1 o1 c1 => hr F1 H1 vs Q o1 c1 fun F2 H2 v e2 => q F2 H2 v (e1.trans e2))
theorem en_ty {T : String} {r : List L2.V → Hp → VK → Prop} {φs : List VP} {n : Ent} {j : Nat} (B : Bd X N V G k) (hj : G[j]? = some x) (hm : X.mg x = none) (hv : bootBuiltins x = some (.type T)) (hc : CallR X (.type T) r) (hr : RCN r φs os1 n os2)
    (ha : AX X es os (e :: as) φs os1) (he : starEach (e :: as) X.env = (false, eval e X.env) :: starEach as X.env := by rfl) (hpl : (backTo pos (starEach as X.env)).any (·.1) = false := by rfl) : EN X es os (.Call (.Name x p) (e :: as) [] pos) n os2 := fun F σ H Q ow sl q =>
  let ⟨a, b⟩ := B.gl x (List.mem_of_getElem? hj)
  we_of (pe_callTy hc a hm hv pa_u (dun_n b) (dun_d b) he hpl) (ha F σ H _ ow sl fun F1 H1 vs e1 o1 c1 => hr F1 H1 vs Q o1 c1 fun F2 H2 v e2 => q F2 H2 v (e1.trans e2))
theorem cla1 {φ : VP} {F : Hp} {vs : List L2.V} (h : ClA [φ] F vs) : ∃ v, vs = [v] ∧ Cl φ F v := by
  obtain ⟨v, r, e, h1, h2⟩ := h
  have e2 : r = [] := h2
  subst e2
  exact ⟨v, e, h1⟩
theorem cla2 {φ ψ : VP} {F : Hp} {vs : List L2.V} (h : ClA [φ, ψ] F vs) : ∃ v u, vs = [v, u] ∧ Cl φ F v ∧ Cl ψ F u := by
  obtain ⟨v, r, e, h1, h2⟩ := h
  obtain ⟨u, e2, h3⟩ := cla1 h2
  subst e2
  exact ⟨v, u, e, h1, h3⟩
theorem rc_abs {i : Int} : RCX (fun xs H Q => ∃ i, xs = [L2.V.int i] ∧ Q (.int (if i < 0 then -i else i)) H) [dat (.int i)] os (dat (.int (if i < 0 then -i else i))) os := fun F H vs Q ow c q => by
  obtain ⟨v, rfl, h⟩ := cla1 c
  exact ⟨i, by rw [clv_int h], q F H _ (Same.refl F) ow (cl_dat (.int _))⟩
theorem rc_max {i j : Int} : RCX (fun xs H Q => ∃ i j, xs = [L2.V.int i, .int j] ∧ Q (.int (if j > i then j else i)) H) [dat (.int i), dat (.int j)] os (dat (.int (if j > i then j else i))) os := fun F H vs Q ow c q => by
  obtain ⟨v, u, rfl, h, h2⟩ := cla2 c
  exact ⟨i, j, by rw [clv_int h, clv_int h2], q F H _ (Same.refl F) ow (cl_dat (.int _))⟩
theorem rc_min {i j : Int} : RCX (fun xs H Q => ∃ i j, xs = [L2.V.int i, .int j] ∧ Q (.int (if j < i then j else i)) H) [dat (.int i), dat (.int j)] os (dat (.int (if j < i then j else i))) os := fun F H vs Q ow c q => by
  obtain ⟨v, u, rfl, h, h2⟩ := cla2 c
  exact ⟨i, j, by rw [clv_int h, clv_int h2], q F H _ (Same.refl F) ow (cl_dat (.int _))⟩
theorem rc_intI {i : Int} : RCX (fun xs H Q => (∃ i, xs = [L2.V.int i] ∧ Q (.int i) H) ∨ ∃ k, xs = [.bl k] ∧ Q (.int (if k then 1 else 0)) H) [dat (.int i)] os (dat (.int i)) os := fun F H vs Q ow c q => by
  obtain ⟨v, rfl, h⟩ := cla1 c
  exact .inl ⟨i, by rw [clv_int h], q F H _ (Same.refl F) ow (cl_dat (.int _))⟩
theorem rc_intB {i : Bool} : RCX (fun xs H Q => (∃ i, xs = [L2.V.int i] ∧ Q (.int i) H) ∨ ∃ k, xs = [.bl k] ∧ Q (.int (if k then 1 else 0)) H) [dat (.bool i)] os (dat (.int (if i then 1 else 0))) os := fun F H vs Q ow c q => by
  obtain ⟨v, rfl, h⟩ := cla1 c
  exact .inr ⟨i, by rw [clv_bool h], q F H _ (Same.refl F) ow (cl_dat (.int _))⟩
theorem rc_lenL {φ : VP} {ds : List PyData} (hr : RdL X φ os ds) : RCX (fun xs H Q => ∃ p ys, xs = [L2.V.ref p] ∧ (SqL X.K H p ys ∨ SqT X.K H p ys) ∧ Q (.int ys.length) H) [φ] os (dat (.int (ds.length : Int))) os := fun F H vs Q ow c q => by
  obtain ⟨v, rfl, h⟩ := cla1 c
  obtain ⟨a, us, rfl, h1, h2⟩ := hr F H v ow h
  exact ⟨a, us, rfl, .inl h1, by rw [dqall_len h2]; exact q F H _ (Same.refl F) ow (cl_dat (.int _))⟩
theorem rc_lenT {φ : VP} {ds : List PyData} (hr : RdT φ ds) : RCX (fun xs H Q => ∃ p ys, xs = [L2.V.ref p] ∧ (SqL X.K H p ys ∨ SqT X.K H p ys) ∧ Q (.int ys.length) H) [φ] os (dat (.int (ds.length : Int))) os := fun F H vs Q ow c q => by
  obtain ⟨v, rfl, h⟩ := cla1 c
  obtain ⟨a, us, rfl, h1, h2⟩ := hr F v h
  exact ⟨a, us, rfl, .inr (.of (ow.ex _ _ h1)), by rw [dqall_len h2]; exact q F H _ (Same.refl F) ow (cl_dat (.int _))⟩
theorem rc_sum {φ : VP} {ns : List Int} (hr : RdL X φ os (ns.map PyData.int)) : RCX (rSum X.K) [φ] os (dat (.int ns.sum)) os := fun F H vs Q ow c q => by
  obtain ⟨v, rfl, h⟩ := cla1 c
  obtain ⟨a, us, rfl, h1, h2⟩ := hr F H v ow h
  have e := dqall_of_ints ns h2
  subst e
  exact ⟨a, ns, rfl, h1, q F H _ (Same.refl F) ow (cl_dat (.int _))⟩
theorem rc_all {φ : VP} {bs : List Bool} (hr : RdL X φ os (bs.map PyData.bool)) : RCX (rAll X.K) [φ] os (dat (.bool (bs.all id))) os := fun F H vs Q ow c q => by
  obtain ⟨v, rfl, h⟩ := cla1 c
  obtain ⟨a, us, rfl, h1, h2⟩ := hr F H v ow h
  have e := dqall_of_bools bs h2
  subst e
  exact ⟨a, bs, rfl, h1, q F H _ (Same.refl F) ow (cl_dat (.bl _))⟩
theorem rc_any {φ : VP} {bs : List Bool} (hr : RdL X φ os (bs.map PyData.bool)) : RCX (rAny X.K) [φ] os (dat (.bool (bs.any id))) os := fun F H vs Q ow c q => by
  obtain ⟨v, rfl, h⟩ := cla1 c
  obtain ⟨a, us, rfl, h1, h2⟩ := hr F H v ow h
  have e := dqall_of_bools bs h2
  subst e
  exact ⟨a, bs, rfl, h1, q F H _ (Same.refl F) ow (cl_dat (.bl _))⟩
theorem rc_tupL {φ : VP} {ds : List PyData} (hr : RdL X φ os ds) : RCX (fun xs H Q => ∃ p ys, xs = [L2.V.ref p] ∧ ((SqL X.K H p ys ∧ ∀ l, H l = none → Q (.ref l) (upd H l (.tup ys))) ∨ (SqT X.K H p ys ∧ Q (.ref p) H))) [φ] os (dat (.tuple ds)) os := fun F H vs Q ow c q => by
  obtain ⟨v, rfl, h⟩ := cla1 c
  obtain ⟨a, us, rfl, h1, h2⟩ := hr F H v ow h
  refine ⟨a, us, rfl, .inl ⟨h1, fun l hl => ?_⟩⟩
  have fp := ow.ex.free hl
  exact q _ _ _ (same_upd fp) (ow.frozen hl) (cl_dat (.tup upd_same (dqall_mono (same_upd fp) _ _ h2)))
theorem rc_lstL {φ : VP} {ds : List PyData} (hr : RdL X φ os ds) : RCN (fun xs H Q => ∃ p ys, xs = [L2.V.ref p] ∧ (SqL X.K H p ys ∨ SqT X.K H p ys) ∧ ∀ l, H l = none → Q (.ref l) (upd H l (.lst ys))) [φ] os (ol ds) os := fun F H vs Q ow c q => by
  obtain ⟨v, rfl, h⟩ := cla1 c
  obtain ⟨a, us, rfl, h1, h2⟩ := hr F H v ow h
  exact ⟨a, us, rfl, .inl h1, fun l hl => q F _ l (Same.refl F) (ow.new hl fun G g => ⟨us, rfl, dqall_mono g _ _ h2⟩)⟩
def isI : PyData → Bool
  | .int _ => true
  | _ => false
def shortO (d : PyData) : Bool := isI d || decide (d.shown.length ≤ sizeLine)
/-- repr of data -/
def rRepr (K : PySem.W.Frag) : List L2.V → Hp → VK → Prop := fun xs H Q => ∃ v d, xs = [v] ∧ Dp K H v d ∧ d.showable = true ∧ d.hasDict = false ∧ d.depth ≤ 60 ∧ shortO d = true ∧ Q (.str d.shown) H
theorem call_repr (gd : X.A.guards = some []) (room : Room k X.A) : CallR X (.builtin "repr") (rRepr X.K) := by
  intro pins s σ H vs us Q I r h
  obtain ⟨v, d, rfl, hd, h1, h2, h3, h4, q⟩ := h
  obtain ⟨u, rfl, ru⟩ := vals1 r
  have un := room.un
  have h5 : isI d = false → d.shown.length ≤ sizeLine := fun z => by
    unfold shortO at h4
    rw [z, Bool.false_or] at h4
    exact of_decide_eq_true h4
  cases hd with
  | non =>
    obtain rfl : u = Value.none := ru
    have e : (PyData.none).shown = ("None" : Str) := by simp only [PyData.shown]
    rw [e] at q
    exact PySem.P.repr_of_none ⟨.str _, H, I.tok _, ⟨_, rfl⟩, q⟩
  | bl b =>
    obtain rfl : u = Value.bool b := ru
    have e : (PyData.bool b).shown = (if b then "True" else "False" : Str) := by simp only [PyData.shown]
    rw [e] at q
    exact PySem.P.repr_of_bool ⟨.str _, H, I.tok _, ⟨_, rfl⟩, q⟩
  | int i =>
    obtain ⟨t, rfl⟩ := ru
    have e : (PyData.int i).shown = toString i := by simp only [PyData.shown]
    have h1' : i.natAbs.log2 < 1920 := by simpa only [PyData.showable, decide_eq_true_eq] using h1
    rw [e] at q
    exact PySem.P.repr_of_int h1' ⟨.str _, H, I.tok _, ⟨_, rfl⟩, q⟩
  | str x =>
    obtain ⟨t, rfl⟩ := ru
    have e : (PyData.str x).shown = reprText x := by simp only [PyData.shown]
    have h6 := h5 rfl
    rw [e] at q h6
    exact PySem.P.repr_of_str ⟨.str _, H, I.tok _, ⟨_, rfl⟩, q⟩ h6
  | lst hs ha =>
    obtain rfl : u = Value.ref _ := ru
    obtain ⟨as, hr⟩ := Dp.reads I _ _ (.ref _) (Dp.lst hs ha) rfl
    exact repr_of_reads' hr h1 (PyData.noDict_hsm h2) gd (by omega) (fun _ _ e => e) (fun h' tk t' hk => ⟨.str _, H, I.kept hk, ⟨_, rfl⟩, q⟩) (h5 rfl)
  | tup hs ha =>
    obtain rfl : u = Value.ref _ := ru
    obtain ⟨as, hr⟩ := Dp.reads I _ _ (.ref _) (Dp.tup hs ha) rfl
    exact repr_of_reads' hr h1 (PyData.noDict_hsm h2) gd (by omega) (fun _ _ e => e) (fun h' tk t' hk => ⟨.str _, H, I.kept hk, ⟨_, rfl⟩, q⟩) (h5 rfl)
def reprO (d : PyData) : Option Str := if d.showable = true ∧ d.hasDict = false ∧ d.depth ≤ 60 ∧ shortO d = true then some d.shown else none
theorem rc_repr {d : PyData} {t : Str} (h : reprO d = some t) : RCX (rRepr X.K) [dat d] os (dat (.str t)) os := fun F H vs Q ow c q => by
  unfold reprO at h
  split at h
  · rename_i hl
    cases h
    obtain ⟨v, rfl, h⟩ := cla1 c
    exact ⟨v, d, rfl, dq_dp _ _ _ hl.2.1 (dq_mono ow.ex _ _ h.now), hl.1, hl.2.1, hl.2.2.1, hl.2.2.2, q F H _ (Same.refl F) ow (cl_dat (.str _))⟩
  · cases h
end
end Z
namespace Z
open PySem PySem.Spec PyProof.Rows L2
/-- a def of the text that keeps a promise, as callers see it -/
structure Cal (P : Program) (w : World) (K : PySem.W.Frag) (mg : Str → Option Value) (base : Heap) (k : Nat) (x : Str) (st : Stmt) (ps : List Str) (sp : Sp) : Prop where
  ex : ∃ (f : Addr) (fd : FuncData), Fun K x x st f fd ∧ FnG P w K mg base CX0 k f fd ps sp ∧ mg x = some (.ref f) ∧ Binds K fd ps []
theorem Cal.mono {P : Program} {w : World} {K : PySem.W.Frag} {mg : Str → Option Value} {base : Heap} {j k : Nat} {x : Str} {st : Stmt} {ps : List Str} {sp : Sp} (c : Cal P w K mg base j x st ps sp) (h : j ≤ k) : Cal P w K mg base k x st ps sp :=
  let ⟨f, fd, a, b, d⟩ := c.ex
  ⟨f, fd, a, b.mono h, d⟩
section
variable {X : Cx} {k : Nat} {f : Addr} {fd : FuncData} {ps : List Str} {sp : Sp} {x : Str} {p pos : Pos} {e : Expr} {as : List Expr} {t tk : TA} {kws : List Keyword}
theorem run_g {pins : List (Addr × Obj)} {σ : L2.St} {H : Hp} {s : Shared} {Q : VK} {us zs : List Value} {kv : List (Str × Value)} {vs : List L2.V} (c : FnG X.prog X.w X.K X.mg X.base CX0 k f fd ps sp) (gd : X.A.guards = some []) (hr : Room k X.A)
    (I : Inv X pins σ H s) (b : BindsTo s fd ⟨us, kv⟩ (ps.zip zs)) (r : Vals vs zs) (h : sp vs H Q E0) : wpAny (model X.prog X.w) X.A (call (.ref f) us kv) (EP X pins σ Q) X.xe s := by
  refine wpAny_call (codeAny_mono (c.run X.A X.stack s H ⟨us, kv⟩ zs vs Q E0 gd hr I.env0 b r h) ?_)
  intro res s' hq
  cases res with
  | error e => exact hq.elim
  | ok fl =>
    cases fl with
    | ret u => exact I.after hq
    | next => exact hq.elim
    | brk => exact hq.elim
    | cont => exact hq.elim
theorem pe_g {st : Stmt} (c : Cal X.prog X.w X.K X.mg X.base k x st ps sp) (gd : X.A.guards = some []) (hr : Room k X.A) (hg : Gl X x) (ha : PA X (e :: as) t) (hdb : (x == ("__debug__" : Str)) = false)
    (he : starEach (e :: as) X.env = (false, eval e X.env) :: starEach as X.env := by rfl) (hpl : (backTo pos (starEach as X.env)).any (·.1) = false := by rfl) : PE X (.Call (.Name x p) (e :: as) [] pos) (fun σ H Q => t σ H fun vs H1 => sp vs H1 Q E0) := by
  obtain ⟨f, fd, Fn, G, hm, hb⟩ := c.ex
  refine ⟨fun pins s σ H Q I h => wpAny_Call_Name_kw (ld_glob I hg hm ?_ hdb)⟩
  refine PySem.W.callWith_K (h₀ := X.base) I.ok.mod.kin Fn.kp (thn (ha.run pos pins s σ H _ I h) ?_) he hpl
  rintro us s1 ⟨vs, H1, I1, r, q⟩
  refine ⟨I1.kIn, run_g G gd hr I1 ?_ r q⟩
  have := hb s1 us I1.kIn (by rw [List.append_nil, ← r.length]; exact G.len _ _ _ _ q)
  rw [List.append_nil] at this
  exact this
def kperm {α : Type} (n m : Nat) (pi : List Nat) (us ws : List α) : List α := if us.length = n ∧ ws.length = m then pi.filterMap fun i => (us ++ ws)[i]? else []
theorem vals_fm {vs : List L2.V} {us : List Value} (h : Vals vs us) : ∀ pi : List Nat, Vals (pi.filterMap fun i => vs[i]?) (pi.filterMap fun i => us[i]?)
  | [] => .nil
  | i :: pi => by
    rw [List.filterMap_cons, List.filterMap_cons]
    cases e : vs[i]? with
    | none =>
      rw [h.none_of e]
      exact vals_fm h pi
    | some v =>
      obtain ⟨u, e2, r⟩ := h.get e
      rw [e2]
      exact .cons r (vals_fm h pi)
theorem vals_kperm {n m : Nat} {pi : List Nat} {vs zs : List L2.V} {us ws : List Value} (h : Vals vs us) (h' : Vals zs ws) : Vals (kperm n m pi vs zs) (kperm n m pi us ws) := by
  unfold kperm
  rw [h.length, h'.length]
  split
  · exact vals_fm (h.append h') pi
  · exact .nil
/-- how the def st binds positional values and keywords ks -/
def KwOk (x : Str) (st : Stmt) (ps ks : List Str) (n : Nat) (pi : List Nat) : Prop := ∀ (kV doc pm : Value) (an : Option Addr) (cdv ct : Value) (us ws : List Value), us.length = n → ws.length = ks.length →
  bindArgs (PySem.W.fnOf x x (defArgs st) (defBody st) (defScope st) .none kV doc pm an cdv ct) ⟨us, ks.zip ws⟩ = pure (ps.zip (pi.filterMap fun i => (us ++ ws)[i]?))
theorem pe_gk0 {st : Stmt} {ks : List Str} {pi : List Nat} (c : Cal X.prog X.w X.K X.mg X.base k x st ps sp) (kw : KwOk x st ps ks 0 pi) (hps : 0 < ps.length) (gd : X.A.guards = some []) (hr : Room k X.A) (hg : Gl X x) (hk : PK X kws tk) (hdb : (x == ("__debug__" : Str)) = false)
    (hall : (backToKw pos (keywordEach kws X.env)).all (·.1.isSome) = true := by rfl) (hks : (backToKw pos (keywordEach kws X.env)).filterMap (·.1) = ks := by rfl)
    (hpl : ((backTo pos (starEach [] X.env)).any (·.1) || (backToKw pos (keywordEach kws X.env)).any (·.1.isNone)) = false := by rfl) :
    PE X (.Call (.Name x p) [] kws pos) (fun σ H Q => tk σ H fun zs H2 => sp (kperm 0 ks.length pi [] zs) H2 Q E0) := by
  obtain ⟨f, fd, Fn, G, hm, hb⟩ := c.ex
  refine ⟨fun pins s σ H Q I h => wpAny_Call_Name_kw (ld_glob I hg hm ?_ hdb)⟩
  refine PySem.W.callWith_KW0 (h₀ := X.base) I.ok.mod.kin Fn.kp hall ?_ hpl
  refine thn (hk.run pos pins s σ H _ I h) ?_
  rintro ws s2 ⟨zs, H2, I2, rz, q2⟩
  refine ⟨I2.kIn, ?_⟩
  rw [hks]
  have rk := vals_kperm (n := 0) (m := ks.length) (pi := pi) (show Vals [] [] from .nil) rz
  refine run_g (us := []) G gd hr I2 (.of_eq ?_) rk q2
  have hl := G.len _ _ _ _ q2
  obtain ⟨oc, od, kV, doc, pm, an, cdv, ct, osl, rfl, _, _⟩ := Fn.ex
  unfold kperm at hl ⊢
  split at hl
  · rename_i hh
    rw [if_pos (by rw [← rz.length]; exact hh)]
    exact kw kV doc pm an cdv ct [] ws rfl (by rw [← rz.length]; exact hh.2)
  · have : ps.length = 0 := hl.symm
    omega
end
/-- it hands back the value of which res tells -/
def spZ {α β : Type} (ps : α → List VP) (pre : α → Os) (m : α → Option β) (res : α → β → VP) (post : α → β → Os) : Sp := fun vs H Q _ =>
  ∃ (a : α) (b : β) (F : Hp) (os : Os), ClA (ps a) F vs ∧ Ow F (pre a ++ os) H ∧ m a = some b ∧ ∀ F' H' v, Same F F' → Ow F' (post a b ++ os) H' → Cl (res a b) F' v → Q v H'
/-- it hands back a new list -/
def spN {α β : Type} (ps : α → List VP) (pre : α → Os) (m : α → Option β) (n : α → β → Ent) (post : α → β → Os) : Sp := fun vs H Q _ =>
  ∃ (a : α) (b : β) (F : Hp) (os : Os), ClA (ps a) F vs ∧ Ow F (pre a ++ os) H ∧ m a = some b ∧ ∀ F' H' p, Same F F' → Ow F' ((p, n a b) :: (post a b ++ os)) H' → Q (.ref p) H'
theorem spZ_len {α β : Type} {ps : α → List VP} {pre : α → Os} {m : α → Option β} {res : α → β → VP} {post : α → β → Os} {n : Nat} (h : ∀ a, (ps a).length = n) : ∀ vs H Q E, spZ ps pre m res post vs H Q E → vs.length = n :=
  fun vs H Q E ⟨a, b, F, os, c, _⟩ => (cla_len c).trans (h a)
theorem spN_len {α β : Type} {ps : α → List VP} {pre : α → Os} {m : α → Option β} {n : α → β → Ent} {post : α → β → Os} {k : Nat} (h : ∀ a, (ps a).length = k) : ∀ vs H Q E, spN ps pre m n post vs H Q E → vs.length = k :=
  fun vs H Q E ⟨a, b, F, os, c, _⟩ => (cla_len c).trans (h a)
section
variable {X : Cx} {es : List Slot} {os os1 os2 rest : Os} {N V G : List Str} {k j : Nat} {x : Str} {p pos : Pos} {e : Expr} {as : List Expr} {kws : List Keyword} {ks : List Str} {st : Stmt} {pn : List Str} {α β : Type} {ps : α → List VP} {pre : α → Os} {m : α → Option β} {res : α → β → VP} {post : α → β → Os} {n : α → β → Ent} {gi : Nat}
theorem ex_call (B : Bd X N V G k) (hj : G[gi]? = some x) (c : Cal X.prog X.w X.K X.mg X.base j x st pn (spZ ps pre m res post)) (hl : j ≤ k) {a : α} {b : β} (hm : m a = some b) (ha : AX X es os (e :: as) (ps a) (pre a ++ rest))
    (he : starEach (e :: as) X.env = (false, eval e X.env) :: starEach as X.env := by rfl) (hpl : (backTo pos (starEach as X.env)).any (·.1) = false := by rfl) : EX X es os (.Call (.Name x p) (e :: as) [] pos) (res a b) (post a b ++ rest) := fun F σ H Q ow sl q =>
  let ⟨u, v⟩ := B.gl x (List.mem_of_getElem? hj)
  we_of (pe_g (c.mono hl) B.gd B.room u pa_u (dun_d v) he hpl) (ha F σ H _ ow sl fun F1 H1 vs e1 o1 c1 => ⟨a, b, F1, rest, c1, o1, hm, fun F2 H2 v e2 o2 c2 => q F2 H2 v (e1.trans e2) o2 c2⟩)
theorem en_call (B : Bd X N V G k) (hj : G[gi]? = some x) (c : Cal X.prog X.w X.K X.mg X.base j x st pn (spN ps pre m n post)) (hl : j ≤ k) {a : α} {b : β} (hm : m a = some b) (ha : AX X es os (e :: as) (ps a) (pre a ++ rest))
    (he : starEach (e :: as) X.env = (false, eval e X.env) :: starEach as X.env := by rfl) (hpl : (backTo pos (starEach as X.env)).any (·.1) = false := by rfl) : EN X es os (.Call (.Name x p) (e :: as) [] pos) (n a b) (post a b ++ rest) := fun F σ H Q ow sl q =>
  let ⟨u, v⟩ := B.gl x (List.mem_of_getElem? hj)
  we_of (pe_g (c.mono hl) B.gd B.room u pa_u (dun_d v) he hpl) (ha F σ H _ ow sl fun F1 H1 vs e1 o1 c1 => ⟨a, b, F1, rest, c1, o1, hm, fun F2 H2 v e2 o2 => q F2 H2 v (e1.trans e2) o2⟩)
/-- the values of keywords -/
def KX (X : Cx) (es : List Slot) (os : Os) (kws : List Keyword) (φs : List VP) (os' : Os) : Prop := ∀ F σ H, Ow F os H → Sl F es σ → ∀ Q : List L2.V → Hp → Prop, (∀ F' H' vs, Same F F' → Ow F' os' H' → ClA φs F' vs → Q vs H') →
  ∀ pos pins s, Inv X pins σ H s → wpAny (model X.prog X.w) X.A (evalAll ((backToKw pos (keywordEach kws X.env)).map (·.2))) (AP X pins σ Q) X.xe s
def WK (X : Cx) (kws : List Keyword) (σ : L2.St) (H : Hp) (Q : List L2.V → Hp → Prop) : Prop := ∀ pos pins s, Inv X pins σ H s → wpAny (model X.prog X.w) X.A (evalAll ((backToKw pos (keywordEach kws X.env)).map (·.2))) (AP X pins σ Q) X.xe s
theorem pk_u : PK X kws (WK X kws) := ⟨fun pos pins s _ _ _ I h => h pos pins s I⟩
theorem kx_nil : KX X es os [] [] os := fun F σ H ow sl Q q pos pins s I => pk_nil.run pos pins s σ H Q I (q F H [] (Same.refl F) ow rfl)
theorem kx_cons {nm : Option Str} {kpos : Pos} {φ : VP} {φs : List VP} (ha : EX X es os e φ os1) (hr : KX X es os1 kws φs os2) : KX X es os (⟨nm, e, kpos⟩ :: kws) (φ :: φs) os2 := fun F σ H ow sl Q q pos pins s I =>
  (pk_cons pe_u pk_u).run pos pins s σ H Q I (ha F σ H _ ow sl fun F1 H1 x e1 o1 c1 => hr F1 σ H1 o1 (sl.mono e1) _ fun F2 H2 vs e2 o2 c2 => q F2 H2 _ (e1.trans e2) o2 ⟨x, vs, rfl, c1.mono e2, c2⟩)
theorem cla_get {F : Hp} : ∀ {φs : List VP} {vs : List L2.V} {i : Nat}, ClA φs F vs → (φs[i]? = none ∧ vs[i]? = none) ∨ ∃ φ v, φs[i]? = some φ ∧ vs[i]? = some v ∧ Cl φ F v
  | [], _, i, h => by
    have e : _ = [] := h
    subst e
    exact .inl ⟨rfl, rfl⟩
  | φ :: φs, _, 0, ⟨v, r, e, h1, h2⟩ => by
    subst e
    exact .inr ⟨φ, v, rfl, rfl, h1⟩
  | φ :: φs, _, i + 1, ⟨v, r, e, h1, h2⟩ => by
    subst e
    rw [List.getElem?_cons_succ, List.getElem?_cons_succ]
    exact cla_get h2
theorem cla_fm {F : Hp} {φs : List VP} {vs : List L2.V} (h : ClA φs F vs) : ∀ pi : List Nat, ClA (pi.filterMap fun i => φs[i]?) F (pi.filterMap fun i => vs[i]?)
  | [] => rfl
  | i :: pi => by
    rw [List.filterMap_cons, List.filterMap_cons]
    rcases cla_get (i := i) h with ⟨e1, e2⟩ | ⟨φ, v, e1, e2, c⟩
    · rw [e1, e2]
      exact cla_fm h pi
    · rw [e1, e2]
      exact ⟨v, _, rfl, c, cla_fm h pi⟩
theorem cla_app {F : Hp} : ∀ {φs ψs : List VP} {vs us : List L2.V}, ClA φs F vs → ClA ψs F us → ClA (φs ++ ψs) F (vs ++ us)
  | [], _, _, _, h, g => by
    have e : _ = [] := h
    subst e
    exact g
  | φ :: φs, _, _, _, ⟨v, r, e, h1, h2⟩, g => by
    subst e
    exact ⟨v, _, rfl, h1, cla_app h2 g⟩
theorem cla_kperm {F : Hp} {φs ψs : List VP} {vs us : List L2.V} {n m : Nat} {pi : List Nat} (h : ClA φs F vs) (g : ClA ψs F us) : ClA (kperm n m pi φs ψs) F (kperm n m pi vs us) := by
  unfold kperm
  rw [cla_len h, cla_len g]
  split
  · exact cla_fm (cla_app h g) pi
  · rfl
theorem ex_callk0 {ψs : List VP} {pi : List Nat} (B : Bd X N V G k) (hj : G[gi]? = some x) (c : Cal X.prog X.w X.K X.mg X.base j x st pn (spZ ps pre m res post)) (hl : j ≤ k) (kw : KwOk x st pn ks 0 pi) (hpn : 0 < pn.length) {a : α} {b : β} (hm : m a = some b) (hk : KX X es os kws ψs (pre a ++ rest))
    (hp : ps a = kperm 0 ks.length pi [] ψs)
    (hall : (backToKw pos (keywordEach kws X.env)).all (·.1.isSome) = true := by rfl) (hks : (backToKw pos (keywordEach kws X.env)).filterMap (·.1) = ks := by rfl)
    (hpl : ((backTo pos (starEach [] X.env)).any (·.1) || (backToKw pos (keywordEach kws X.env)).any (·.1.isNone)) = false := by rfl) : EX X es os (.Call (.Name x p) [] kws pos) (res a b) (post a b ++ rest) := fun F σ H Q ow sl q =>
  let ⟨u, v⟩ := B.gl x (List.mem_of_getElem? hj)
  we_of (pe_gk0 (c.mono hl) kw hpn B.gd B.room u pk_u (dun_d v) hall hks hpl) (hk F σ H ow sl _ fun F2 H2 zs e2 o2 c2 =>
    ⟨a, b, F2, rest, by rw [hp]; exact cla_kperm (φs := []) (vs := []) rfl c2, o2, hm, fun F3 H3 v e3 o3 c3 => q F3 H3 v (e2.trans e3) o3 c3⟩)
end
end Z
namespace Z
open PySem PySem.Spec PyProof.Rows L2
/-- what a body's statements need beside Bd -/
structure Bt (X : Cx) (V : List Str) : Prop where
  fn : ∀ x, X.fn x = true
  loc : ∀ x ∈ V, Loc X.env.scope x
  po : PassesOwn (model X.prog X.w) X.A X.env X.xe
/-- the state fits -/
def At (F0 : Hp) (es : List Slot) (os : Os) (σ : L2.St) (H : Hp) : Prop := ∃ F, Same F0 F ∧ Ow F os H ∧ Sl F es σ
section
variable {X : Cx} {es es' : List Slot} {os os1 os2 : Os} {F0 : Hp} {rest : List Stmt} {D : Ends} {N V G W : List Str} {k i vi : Nat} {x : Str} {pos pos' : Pos} {e : Expr} {φ : VP} {n : Ent}
theorem SX.at (h : SX X es os F0 rest D) {σ : L2.St} {H : Hp} (a : At F0 es os σ H) : WPs X rest D σ H := let ⟨F, s, ow, sl⟩ := a; h F σ H s ow sl
theorem SX.perm (h : SX X es os F0 rest D) (p : os1.Perm os) : SX X es os1 F0 rest D := fun F σ H s ow sl => h F σ H s (ow.perm p) sl
theorem SX.weak (h : SX X es' os F0 rest D) (w : Wk es es') : SX X es os F0 rest D := fun F σ H s ow sl => h F σ H s ow (sl.weak w)
theorem SX.drop {q : Addr × Ent} (h : SX X es os F0 rest D) : SX X es (q :: os) F0 rest D := fun F σ H s ow sl => h F σ H s ow.drop sl
theorem sx_nil (h : ∀ σ H, At F0 es os σ H → D.nx σ H) : SX X es os F0 [] D := fun F σ H s ow sl => wps_nil (h σ H ⟨F, s, ow, sl⟩)
/-- behind a branch the rest goes on -/
theorem sx_fall {D' : Ends} (h : SX X es os F0 rest D') (e : D.nx = WPs X rest D') : SX X es os F0 [] D := sx_nil fun σ H a => by
  rw [e]
  exact h.at a
theorem sx_asg (B : Bd X N W G k) (T : Bt X V) (hi : N[i]? = some x) (hv : V[vi]? = some x) (he : EX X es os e φ os1) (h : SX X (es.set i (sl φ)) os1 F0 rest D) (hs : swapsWith e (some (.Name x pos')) pos.line X.env = pure false := by rfl) :
    SX X es os F0 (.Assign [.Name x pos'] e pos :: rest) D := fun F σ H s ow sl =>
  wps_cons (ws_of (ps_set (B.hN ▸ B.nd) (B.hN ▸ hi) (T.loc x (List.mem_of_getElem? hv)) pe_u hs (.inl (T.fn x))) (he F σ H _ ow sl fun F1 H1 v e1 o1 c1 => h F1 _ H1 (s.trans e1) o1 ((sl.mono e1).put c1)))
theorem sx_asgN (B : Bd X N W G k) (T : Bt X V) (hi : N[i]? = some x) (hv : V[vi]? = some x) (he : EN X es os e n os1) (h : ∀ p, SX X (es.set i (sl (own p))) ((p, n) :: os1) F0 rest D) (hs : swapsWith e (some (.Name x pos')) pos.line X.env = pure false := by rfl) :
    SX X es os F0 (.Assign [.Name x pos'] e pos :: rest) D := fun F σ H s ow sl =>
  wps_cons (ws_of (ps_set (B.hN ▸ B.nd) (B.hN ▸ hi) (T.loc x (List.mem_of_getElem? hv)) pe_u hs (.inl (T.fn x))) (he F σ H _ ow sl fun F1 H1 p e1 o1 => h p F1 _ H1 (s.trans e1) o1 ((sl.mono e1).put cl_own)))
theorem sx_expr (he : EX X es os e φ os1) (h : SX X es os1 F0 rest D) (hs : swapsWith e none pos.line X.env = pure false := by rfl) : SX X es os F0 (.Expr e pos :: rest) D := fun F σ H s ow sl =>
  wps_cons (ws_of (ps_expr pe_u hs) (he F σ H _ ow sl fun F1 H1 v e1 o1 c1 => h F1 σ H1 (s.trans e1) o1 (sl.mono e1)))
theorem sx_ret (he : EX X es os e φ os1) (h : ∀ F H v, Same F0 F → Ow F os1 H → Cl φ F v → D.rt v H) : SX X es os F0 (.Return (some e) pos :: rest) D := fun F σ H s ow sl =>
  wps_cons (ws_of (ps_ret pe_u) (he F σ H _ ow sl fun F1 H1 v e1 o1 c1 => h F1 H1 v (s.trans e1) o1 c1))
theorem sx_retN (he : EN X es os e n os1) (h : ∀ F H p, Same F0 F → Ow F ((p, n) :: os1) H → D.rt (.ref p) H) : SX X es os F0 (.Return (some e) pos :: rest) D := fun F σ H s ow sl =>
  wps_cons (ws_of (ps_ret pe_u) (he F σ H _ ow sl fun F1 H1 v e1 o1 => h F1 H1 v (s.trans e1) o1))
theorem sx_if {c : Expr} {a b : List Stmt} {t : Bool} (hc : TX X es os c t os1) (ha : t = true → SX X es os1 F0 a { D with nx := WPs X rest D }) (hb : t = false → SX X es os1 F0 b { D with nx := WPs X rest D }) : SX X es os F0 (.If c a b pos :: rest) D := fun F σ H s ow sl =>
  wps_cons (ws_of (ps_if pt_u pss_u pss_u) (hc F σ H _ ow sl fun F1 H1 e1 o1 => by
    cases t with
    | true =>
      rw [if_pos rfl]
      exact ha rfl F1 σ H1 (s.trans e1) o1 (sl.mono e1)
    | false =>
      rw [if_neg Bool.false_ne_true]
      exact hb rfl F1 σ H1 (s.trans e1) o1 (sl.mono e1)))
theorem sx_brk (h : ∀ σ H, At F0 es os σ H → D.bk σ H) : SX X es os F0 (.Break pos :: rest) D := fun F σ H s ow sl => wps_cons (ws_of ps_break (h σ H ⟨F, s, ow, sl⟩))
/-- x += e (ints) -/
theorem sx_addI {a b : Int} (B : Bd X N W G k) (T : Bt X V) (hi : N[i]? = some x) (hv : V[vi]? = some x) (hx : es[i]? = some (sl (dat (.int a)))) (he : EX X es os e (dat (.int b)) os1) (h : SX X (es.set i (sl (dat (.int (a + b))))) os1 F0 rest D) :
    SX X es os F0 (.AugAssign (.Name x pos') .Add e pos :: rest) D := fun F σ H s ow sl => by
  obtain ⟨v, ev, cv⟩ := sl.val hx
  refine wps_cons (ws_of (ps_aug (B.hN ▸ B.nd) (B.hN ▸ hi) (T.loc x (List.mem_of_getElem? hv)) pe_u ip_add (.inl (T.fn x))) ⟨v, ev, he F σ H _ ow sl fun F1 H1 y e1 o1 c1 => ?_⟩)
  exact ⟨a, b, clv_int cv, clv_int c1, h F1 _ H1 (s.trans e1) o1 ((sl.mono e1).put (cl_dat (.int _)))⟩
def WG (X : Cx) (tg : Expr) : TG := fun v σ H Q => ∀ pins s u, Inv X pins σ H s → RelV v u → wpAny (model X.prog X.w) X.A (assign tg X.env u) (fun _ s' => ∃ σ' H', Inv X pins σ' H' s' ∧ Q σ' H') X.xe s
theorem pg_u {tg : Expr} : PG X tg (WG X tg) := ⟨fun pins s _ _ _ u _ I r h => h pins s u I r⟩
theorem wg_of {tg : Expr} {g : TG} {v : L2.V} {σ : L2.St} {H : Hp} {Q : L2.St → Hp → Prop} (h : PG X tg g) (q : g v σ H Q) : WG X tg v σ H Q := fun pins s u I r => h.run pins s σ H v u Q I r q
/-- to assign a value of φ to tg changes the slots as f tells -/
def GX (X : Cx) (tg : Expr) (φ : VP) (f : List Slot → List Slot) : Prop := ∀ es os F σ H v Q, Ow F os H → Sl F es σ → Cl φ F v → (∀ σ', Sl F (f es) σ' → Q σ' H) → WG X tg v σ H Q
theorem gx_name (B : Bd X N W G k) (T : Bt X V) (hi : N[i]? = some x) (hv : V[vi]? = some x) : GX X (.Name x pos) φ (fun es => es.set i (sl φ)) := fun es os F σ H v Q ow sl c q =>
  wg_of (pg_name (B.hN ▸ B.nd) (B.hN ▸ hi) (T.loc x (List.mem_of_getElem? hv)) (.inl (T.fn x))) (q _ (sl.put c))
theorem gx_pair {a b : Expr} {kk : Nat} {d1 d2 : PyData} {f g : List Slot → List Slot} (B : Bd X N W G k) (h1 : GX X a (dat d1) f) (h2 : GX X b (dat d2) g) (hn : (assignEach [a, b] X.env).length = 2 := by rfl) (hst : (assignEach [a, b] X.env).findIdx? (·.1) = none := by rfl)
    (hs : (assignEach [a, b] X.env).map (·.2) = assign a X.env :: (assignEach [b] X.env).map (·.2) := by rfl) (hs2 : (assignEach [b] X.env).map (·.2) = assign b X.env :: (assignEach [] X.env).map (·.2) := by rfl) :
    GX X (.Tuple [a, b] kk pos) (dat (.tuple [d1, d2])) (fun es => g (f es)) := fun es os F σ H v Q ow sl c q => by
  obtain ⟨p, vs, rfl, hp, hv⟩ := rdt_dat F v c
  cases hv with
  | cons k1 r =>
    cases r with
    | cons k2 r =>
      cases r
      refine wg_of (pg_tup (n := 2) B.calm (pgs_cons pg_u (pgs_cons pg_u pgs_nil hs2) hs) hn hst) ⟨p, _, rfl, .of (ow.ex _ _ hp), rfl, _, _, rfl, ?_⟩
      refine h1 es os F σ H _ _ ow sl (cl_dat k1) fun σ1 s1 => ⟨_, _, rfl, ?_⟩
      exact h2 _ os F σ1 H _ _ ow s1 (cl_dat k2) fun σ2 s2 => ⟨rfl, q σ2 s2⟩
/-- a, b = e: e a tuple -/
theorem sx_unp {tg : Expr} {f : List Slot → List Slot} (hg : GX X tg φ f) (he : EX X es os e φ os1) (h : SX X (f es) os1 F0 rest D) (hs : swapsWithSole [tg] e pos.line X.env = pure false := by rfl) (hw : swappedStores [tg] e X.env = pure none := by rfl)
    (h1 : (assignEach [tg] X.env).map (·.2) = [assign tg X.env] := by rfl) : SX X es os F0 (.Assign [tg] e pos :: rest) D := fun F σ H s ow sl =>
  wps_cons (ws_of (ps_asg pe_u pg_u hs hw h1) (he F σ H _ ow sl fun F1 H1 v e1 o1 c1 => hg es os1 F1 σ H1 v _ o1 (sl.mono e1) c1 fun σ1 s1 => h F1 σ1 H1 (s.trans e1) o1 s1))
theorem ty_own {F H : Hp} {K : PySem.W.Frag} {p : Addr} {ds : List PyData} {j : Nat} (ow : Ow F os H) (hj : os[j]? = some (p, ol ds)) : ∃ vs, H p = some (.lst vs) ∧ DqAll F vs ds ∧ tyV K "list" (.ref p) H := by
  obtain ⟨_, vs, ho, hv⟩ := (ow.perm (perm_at hj)).atL
  exact ⟨vs, ho, hv, .inl ⟨rfl, vs, .of ho⟩⟩
/-- a list that is one's own is rewritten -/
theorem ow_set {F H : Hp} {p : Addr} {ds ds' : List PyData} {vs' : List L2.V} {j : Nat} (ow : Ow F os H) (hj : os[j]? = some (p, ol ds)) (h : DqAll F vs' ds') : Ow F (os.set j (p, ol ds')) (upd H p (.lst vs')) :=
  ((ow.perm (perm_at hj)).putL h).perm (perm_set hj)
theorem ex_append {a : Expr} {apos cpos : Pos} {p : Addr} {ds : List PyData} {d : PyData} {j : Nat} (ho : EX X es os a (own p) os) (he : EX X es os e (dat d) os1) (h0 : os[j]? = some (p, ol ds0)) (hj : os1[j]? = some (p, ol ds)) (hz : ds.length < sizeLine)
    (hbase : attributeBase a "append" X.env (eval a X.env) = eval a X.env := by rfl) (hline : (apos.endLine == cpos.line) = true := by rfl) (hs : starEach [e] X.env = (false, eval e X.env) :: starEach [] X.env := by rfl)
    (hfew : ((backTo cpos (starEach [e] X.env)).all (fun x => !x.1) && (backToKw cpos (keywordEach [] X.env)).all (fun x => x.1.isSome) && decide ([e].length + ([] : List Keyword).length + (if ([] : List Keyword).isEmpty then 0 else 1) < 30)) = true := by rfl)
    (hplain : (backTo cpos (starEach [] X.env)).any (·.1) = false := by rfl) : EX X es os (.Call (.Attribute a "append" apos) [e] [] cpos) (dat .none) (os1.set j (p, ol (ds ++ [d]))) := fun F σ H Q ow sl q =>
  we_of (pe_bm PySem.F.plainAttrs_list PySem.F.slot_list_append PySem.F.type_list_append mt_append pe_u pa_u hbase hfew hline hs hplain) (ho F σ H _ ow sl fun F1 H1 v e1 o1 c1 => by
    obtain rfl : v = .ref p := c1.now
    obtain ⟨_, _, _, ty⟩ := ty_own (K := X.K) o1 h0
    refine ⟨ty, wa_of (pa_cons pe_u pa_nil hs) (he F1 σ H1 _ o1 (sl.mono e1) fun F2 H2 u e2 o2 c2 => ?_)⟩
    obtain ⟨vs, hp, hv, _⟩ := ty_own (K := X.K) o2 hj
    exact ⟨p, vs, u, rfl, rfl, hp, by rw [dqall_len hv]; exact hz, q F2 _ .non (e1.trans e2) (ow_set o2 hj (dqall_app hv (.cons c2.now .nil))) (cl_dat .non)⟩)
theorem dqall_last {F : Hp} : ∀ {ds : List PyData} {vs : List L2.V} {d : PyData}, DqAll F vs ds → ds.getLast? = some d → ∃ v, vs[vs.length - 1]? = some v ∧ Dq F v d ∧ DqAll F vs.dropLast ds.dropLast := fun {ds vs d} h e => by
  rw [List.getLast?_eq_getElem?] at e
  obtain ⟨v, e2, hd⟩ := dqall_get' h e
  refine ⟨v, by rw [dqall_len h]; exact e2, hd, ?_⟩
  rw [List.dropLast_eq_take, List.dropLast_eq_take, dqall_len h]
  exact dqall_take _ h
theorem ex_pop {a : Expr} {apos cpos : Pos} {p : Addr} {ds : List PyData} {d : PyData} {j : Nat} (ho : EX X es os a (own p) os) (hj : os[j]? = some (p, ol ds)) (hd : ds.getLast? = some d)
    (hbase : attributeBase a "pop" X.env (eval a X.env) = eval a X.env := by rfl) (hline : (apos.endLine == cpos.line) = true := by rfl) : EX X es os (.Call (.Attribute a "pop" apos) [] [] cpos) (dat d) (os.set j (p, ol ds.dropLast)) := fun F σ H Q ow sl q =>
  we_of (pe_bm0 PySem.F.plainAttrs_list PySem.F.slot_list_pop PySem.F.type_list_pop mt_pop pe_u hbase hline) (ho F σ H _ ow sl fun F1 H1 v e1 o1 c1 => by
    obtain rfl : v = .ref p := c1.now
    obtain ⟨vs, hp, hv, ty⟩ := ty_own (K := X.K) o1 hj
    obtain ⟨u, eu, hu, hr⟩ := dqall_last hv hd
    exact ⟨ty, p, vs, u, rfl, rfl, hp, eu, q F1 _ u e1 (ow_set o1 hj hr) (cl_dat hu)⟩)
/-- xs[i] = e -/
theorem sx_setL {a b : Expr} {tpos : Pos} {p : Addr} {ds : List PyData} {d : PyData} {j m : Nat} {z : Int} (he : EX X es os e (dat d) os1) (ho : EX X es os1 a (own p) os1) (hb : EX X es os1 b (dat (.int z)) os2) (hj : os2[j]? = some (p, ol ds)) (hz : ixN ds.length z = some m) (h : SX X es (os2.set j (p, ol (ds.set m d))) F0 rest D)
    (hs : swapsWithSole [.Subscript a b tpos] e pos.line X.env = pure false := by rfl) (hw : swappedStores [.Subscript a b tpos] e X.env = pure none := by rfl) (h1 : (assignEach [.Subscript a b tpos] X.env).map (·.2) = [assign (.Subscript a b tpos) X.env] := by rfl)
    (hsub : ∀ v, assign (.Subscript a b tpos) X.env v = (do
      let ov ← holding [v] (eval a X.env)
      let iv ← holding [v, ov] (eval b X.env)
      standAt tpos
      holding [v, ov, iv] (setItem ov iv v)
      release [v, ov, iv] []) := by intro _; rfl) : SX X es os F0 (.Assign [.Subscript a b tpos] e pos :: rest) D := fun F σ H s ow sl =>
  wps_cons (ws_of (ps_asg pe_u (pg_sub pe_u pe_u set_list hsub) hs hw h1) (he F σ H _ ow sl fun F1 H1 v e1 o1 c1 => ho F1 σ H1 _ o1 (sl.mono e1) fun F2 H2 w e2 o2 c2 => hb F2 σ H2 _ o2 (sl.mono (e1.trans e2)) fun F3 H3 u e3 o3 c3 => by
    obtain rfl : w = .ref p := c2.now
    obtain ⟨vs, hp, hv, _⟩ := ty_own (K := X.K) o3 hj
    refine ⟨p, vs, z, m, rfl, clv_int c3, hp, by rw [dqall_len hv]; exact hz, ?_⟩
    have e := (e1.trans e2).trans e3
    exact h F3 σ _ (s.trans e) (ow_set o3 hj (dqall_set ((c1.mono e2).mono e3).now m hv)) (sl.mono e)))
end
end Z
namespace Z
open PySem PySem.Spec PyProof.Rows L2
/-- one turn after another; none: it raises -/
def lp {α S : Type} (f : S → α → Option S) : List α → S → Option S
  | [], s => some s
  | x :: xs, s => (f s x).bind (lp f xs)
inductive Step (R S : Type) where
  | go (s : S) | brk (s : S) | ret (r : R)
/-- what follows a turn -/
def Step.aft {R S : Type} (k : S → Option (Sum R S)) : Step R S → Option (Sum R S)
  | .go s => k s
  | .brk s => some (.inr s)
  | .ret r => some (.inl r)
/-- .. that may be left: inl, what is handed back; inr, the state behind -/
def lpR {α R S : Type} (f : S → α → Option (Step R S)) : List α → S → Option (Sum R S)
  | [], s => some (.inr s)
  | x :: xs, s => (f s x).bind (Step.aft (lpR f xs))
/-- while, at most so many turns -/
def wh {R S : Type} (c : S → Option Bool) (f : S → Option (Step R S)) : Nat → S → Option (Sum R S)
  | 0, _ => none
  | n + 1, s => (c s).bind fun b => if b = true then (f s).bind (Step.aft (wh c f n)) else some (.inr s)
/-- a comprehension whose element may change the state -/
def lcS {α β S : Type} (f : S → α → Option (Option β × S)) : List α → S → Option (List β × S)
  | [], s => some ([], s)
  | x :: xs, s => (f s x).bind fun t => (lcS f xs t.2).bind fun u => some (t.1.toList ++ u.1, u.2)
def range' (a b : Int) : List Int := (List.range (b - a).toNat).map fun (i : Nat) => a + (i : Int)
section
variable {X : Cx} {es : List Slot} {os os1 os2 : Os} {F0 : Hp} {rest : List Stmt} {D : Ends} {N V G W : List Str} {k i vi gi : Nat} {x : Str} {p pos : Pos} {e e2 : Expr} {α : Type}
def WI (X : Cx) (tg iter : Expr) (σ : L2.St) (H : Hp) (R : It → Hp → Prop) : Prop := ∀ pins s, Inv X pins σ H s →
    wpAny (model X.prog X.w) X.A (eval iter X.env) (fun v s1 => wpAny (model X.prog X.w) X.A (pyIter v) (PIE X pins σ tg R) X.xe s1) X.xe s
theorem pi_u {tg iter : Expr} : PI X tg iter (WI X tg iter) := ⟨fun pins s _ _ _ I h => h pins s I⟩
theorem wi_of {tg iter : Expr} {w : TI} {σ : L2.St} {H : Hp} {R : It → Hp → Prop} (h : PI X tg iter w) (q : w σ H R) : WI X tg iter σ H R := fun pins s I => h.run pins s σ H R I q
/-- J yields the xs, as vp tells of each, from F on, while c holds of what is owned -/
def Good (J : It) (F : Hp) (xs : List α) (vp : α → VP) (c : Os → Prop) : Prop := ∀ F2 H2 os2 i, Same F F2 → Ow F2 os2 H2 → c os2 →
  (xs.length ≤ i → J.stop i H2) ∧ ∀ x, xs[i]? = some x → J.go i H2 ∧ ∀ v H3, J.yld i H2 v H3 → ∃ F3, Same F2 F3 ∧ Ow F3 os2 H3 ∧ Cl (vp x) F3 v
def IX (X : Cx) (tg : Expr) (es : List Slot) (os : Os) (iter : Expr) (xs : List α) (vp : α → VP) (c : Os → Prop) (os' : Os) : Prop := ∀ F σ H R, Ow F os H → Sl F es σ → (∀ F' H' J, Same F F' → Ow F' os' H' → Good J F' xs vp c → R J H') → WI X tg iter σ H R
def anyOs : Os → Prop := fun _ => True
theorem range_get {n i : Nat} {lo x : Int} (h : ((List.range n).map fun (i : Nat) => lo + (i : Int))[i]? = some x) : i < n ∧ x = lo + (i : Int) := by
  rw [List.getElem?_map] at h
  by_cases hi : i < n
  · rw [List.getElem?_range hi] at h
    exact ⟨hi, (Option.some.inj h).symm⟩
  · rw [List.getElem?_eq_none (by rw [List.length_range]; omega)] at h
    cases h
theorem good_range {F : Hp} {lo : Int} {n : Nat} : Good (Itr lo n) F ((List.range n).map fun (i : Nat) => lo + (i : Int)) (fun x => dat (.int x)) anyOs := fun F2 H2 os2 i s ow _ => by
  refine ⟨fun h => show n ≤ i by simpa using h, fun x hx => ?_⟩
  obtain ⟨h1, rfl⟩ := range_get hx
  refine ⟨h1, fun v H3 y => ?_⟩
  obtain ⟨rfl, rfl⟩ := y
  exact ⟨F2, Same.refl F2, ow, cl_dat (.int _)⟩
theorem ix_range1 {tg : Expr} {b : Int} (B : Bd X N W G k) (hj : G[gi]? = some "range") (hm : X.mg "range" = none) (hb : -(2 ^ 62) ≤ b ∧ b < 2 ^ 62) (ha : EX X es os e (dat (.int b)) os1) (hs : starEach [e] X.env = [(false, eval e X.env)] := by rfl) :
    IX X tg es os (.Call (.Name "range" p) [e] [] pos) (range' 0 b) (fun x => dat (.int x)) anyOs os1 := fun F σ H R ow sl q =>
  wi_of (pi_range1 (B.gl _ (List.mem_of_getElem? hj)).1 hm pa_u hs) (wa_of (pa_cons pe_u pa_nil hs) (ha F σ H _ ow sl fun F1 H1 v e1 o1 c1 => ⟨b, by rw [clv_int c1], hb.1, hb.2, q F1 H1 _ e1 o1 (by
    have := good_range (F := F1) (lo := 0) (n := b.toNat)
    unfold range'
    rw [Int.sub_zero]
    exact this)⟩))
theorem ix_range2 {tg : Expr} {a b : Int} (B : Bd X N W G k) (hj : G[gi]? = some "range") (hm : X.mg "range" = none) (hab : -(2 ^ 62) ≤ a ∧ a < 2 ^ 62 ∧ -(2 ^ 62) ≤ b ∧ b < 2 ^ 62) (ha : EX X es os e (dat (.int a)) os1) (hb : EX X es os1 e2 (dat (.int b)) os2)
    (hs : starEach [e, e2] X.env = [(false, eval e X.env), (false, eval e2 X.env)] := by rfl) (hs2 : starEach [e2] X.env = [(false, eval e2 X.env)] := by rfl) :
    IX X tg es os (.Call (.Name "range" p) [e, e2] [] pos) (range' a b) (fun x => dat (.int x)) anyOs os2 := fun F σ H R ow sl q =>
  wi_of (pi_range2 (B.gl _ (List.mem_of_getElem? hj)).1 hm pa_u hs hs2) (wa_of (pa_cons pe_u (pa_cons pe_u pa_nil hs2) (by rw [hs, hs2])) (ha F σ H _ ow sl fun F1 H1 v e1 o1 c1 => hb F1 σ H1 _ o1 (sl.mono e1) fun F2 H2 u e2 o2 c2 =>
    ⟨a, b, by rw [clv_int c1, clv_int c2], hab, q F2 H2 _ (e1.trans e2) o2 good_range⟩))
theorem dqall_map {F : Hp} {xs : List α} {enc : α → PyData} {vs : List L2.V} {i : Nat} {x : α} (h : DqAll F vs (xs.map enc)) (e : xs[i]? = some x) : ∃ v, vs[i]? = some v ∧ Dq F v (enc x) := dqall_get' h (by rw [List.getElem?_map, e]; rfl)
/-- a list (read as rl tells) -/
theorem ix_list {tg : Expr} {φ : VP} {xs : List α} {enc : α → PyData} {c : Os → Prop} (he : EX X es os e φ os1) (hc : ∀ o, c o → RdL X φ o (xs.map enc)) (h0 : c os1) : IX X tg es os e xs (fun x => dat (enc x)) c os1 := fun F σ H R ow sl q =>
  wi_of (pi_list pe_u) (he F σ H _ ow sl fun F1 H1 v e1 o1 c1 => by
    obtain ⟨a, vs, rfl, h1, h2⟩ := hc os1 h0 F1 H1 v o1 c1
    refine ⟨a, rfl, ⟨vs, h1⟩, q F1 H1 _ e1 o1 fun F2 H2 os2 i s ow2 k2 => ?_⟩
    obtain ⟨a', us, ea, g1, g2⟩ := hc os2 k2 F2 H2 _ ow2 (c1.mono s)
    cases ea
    have hl := dqall_len g2
    rw [List.length_map] at hl
    refine ⟨fun h => ⟨us, g1, by omega⟩, fun x hx => ?_⟩
    obtain ⟨u, hu, hd⟩ := dqall_map g2 hx
    refine ⟨⟨us, u, g1, hu⟩, fun w H3 y => ?_⟩
    obtain ⟨rfl, hy⟩ := y
    have ew : us[i]? = some w := hy us g1
    rw [hu] at ew
    cases ew
    exact ⟨F2, Same.refl F2, ow2, cl_dat hd⟩)
theorem ix_tup {tg : Expr} {φ : VP} {xs : List α} {enc : α → PyData} (he : EX X es os e φ os1) (hr : RdT φ (xs.map enc)) : IX X tg es os e xs (fun x => dat (enc x)) anyOs os1 := fun F σ H R ow sl q =>
  wi_of (pi_tup pe_u) (he F σ H _ ow sl fun F1 H1 v e1 o1 c1 => by
    obtain ⟨a, vs, rfl, h1, h2⟩ := hr F1 v c1
    refine ⟨a, rfl, ⟨vs, .of (o1.ex _ _ h1)⟩, q F1 H1 _ e1 o1 fun F2 H2 os2 i s ow2 k2 => ?_⟩
    have g1 := ow2.ex _ _ (s _ _ h1)
    have g2 := dqall_mono s _ _ h2
    have hl := dqall_len g2
    rw [List.length_map] at hl
    refine ⟨fun h => ⟨vs, .of g1, by omega⟩, fun x hx => ?_⟩
    obtain ⟨u, hu, hd⟩ := dqall_map g2 hx
    refine ⟨⟨vs, u, .of g1, hu⟩, fun w H3 y => ?_⟩
    obtain ⟨rfl, hy⟩ := y
    have ew : vs[i]? = some w := hy vs (.of g1)
    rw [hu] at ew
    cases ew
    exact ⟨F2, Same.refl F2, ow2, cl_dat hd⟩)
theorem drop_cons' {xs : List α} {i : Nat} {x : α} (h : xs[i]? = some x) : xs.drop i = x :: xs.drop (i + 1) := by
  obtain ⟨h1, h2⟩ := List.getElem?_eq_some_iff.mp h
  rw [List.drop_eq_getElem_cons h1, h2]
/-- what a turn is to reach -/
def LpD {R S γ : Type} (F0 : Hp) (ES : S → γ → List Slot) (OS : S → γ → Os) (RT : R → L2.V → Hp → Prop) (t : Step R S) : Ends where
  nx := fun σ H => ∃ s g, t = .go s ∧ At F0 (ES s g) (OS s g) σ H
  ct := fun σ H => ∃ s g, t = .go s ∧ At F0 (ES s g) (OS s g) σ H
  bk := fun σ H => ∃ s g, t = .brk s ∧ At F0 (ES s g) (OS s g) σ H
  rt := fun v H => ∃ r, t = .ret r ∧ RT r v H
/-- a loop that may be left. γ: what changes beside the mirror's state (addresses) -/
theorem sx_forR {R S γ : Type} {tg iter : Expr} {body : List Stmt} {xs : List α} {vp : α → VP} {c : Os → Prop} {up : α → List Slot → List Slot} {fpos : Pos} (f : S → α → Option (Step R S)) (ES : S → γ → List Slot) (OS : S → γ → Os) (RT : R → L2.V → Hp → Prop)
    (B : Bd X N W G k) (T : Bt X V) (hg : ∀ x, GX X tg (vp x) (up x)) (s0 : S) (g0 : γ) (o : Sum R S) (hl : lpR f xs s0 = some o) (hi : IX X tg es os iter xs vp c (OS s0 g0)) (h0 : Wk es (ES s0 g0)) (hc : ∀ s g, c (OS s g))
    (hb : ∀ F1, Same F0 F1 → ∀ s g x t, x ∈ xs → f s x = some t → SX X (up x (ES s g)) (OS s g) F1 body (LpD F1 ES OS RT t))
    (hn : ∀ s g, o = .inr s → SX X (ES s g) (OS s g) F0 rest D) (hr : ∀ r v H, o = .inl r → RT r v H → D.rt v H) (hs : ∀ x, foldedSetIterable iter X.env x = pure x := by intro _; rfl) : SX X es os F0 (.For tg iter body [] fpos :: rest) D := fun F σ H s ow sl => by
  refine wps_cons (ws_of (ps_for T.po B.calm pi_u pg_u pss_u hs) (hi F σ H _ ow sl fun F1 H1 J e1 o1 good => ?_))
  refine ⟨fun i m σ' H' => m = xs.length - i ∧ i ≤ xs.length ∧ ∃ s' g', lpR f (xs.drop i) s' = some o ∧ ∃ F', Same F1 F' ∧ Ow F' (OS s' g') H' ∧ Sl F' (ES s' g') σ', ⟨_, rfl, Nat.zero_le _, s0, g0, hl, F1, Same.refl F1, o1, (sl.mono e1).weak h0⟩, ?_⟩
  rintro i m σ' H' ⟨rfl, hi, s', g', hl', F', e', o', sl'⟩
  obtain ⟨stop, go⟩ := good F' H' (OS s' g') i e' o' (hc s' g')
  cases hx : xs[i]? with
  | none =>
    have hi2 : xs.length ≤ i := List.getElem?_eq_none_iff.mp hx
    refine .inl ⟨stop hi2, ?_⟩
    rw [List.drop_eq_nil_of_le hi2] at hl'
    cases hl'
    exact hn s' g' rfl F' σ' H' ((s.trans e1).trans e') o' sl'
  | some x =>
    obtain ⟨hgo, hy⟩ := go x hx
    have hlt : i < xs.length := (List.getElem?_eq_some_iff.mp hx).1
    rw [drop_cons' hx] at hl'
    cases hf : f s' x with
    | none =>
      unfold lpR at hl'
      rw [hf] at hl'
      cases hl'
    | some t =>
      unfold lpR at hl'
      rw [hf] at hl'
      have hl2 : Step.aft (lpR f (xs.drop (i + 1))) t = some o := hl'
      refine .inr ⟨hgo, fun σ2 H2 => ∃ s2 g2, t = .go s2 ∧ ∃ F2, Same F1 F2 ∧ Ow F2 (OS s2 g2) H2 ∧ Sl F2 (ES s2 g2) σ2, ?_, ?_⟩
      · rintro σ2 H2 ⟨s2, g2, rfl, F2, e2, o2, sl2⟩
        exact ⟨_, by omega, rfl, by omega, s2, g2, hl2, F2, e2, o2, sl2⟩
      · intro v H3 yv
        obtain ⟨F3, e3, o3, c3⟩ := hy v H3 yv
        refine hg x _ _ F3 σ' H3 v _ o3 (sl'.mono e3) c3 fun σ4 sl4 => ?_
        have key := hb F1 (s.trans e1) s' g' x t (List.mem_of_getElem? hx) hf
        have q3 : Same F1 F3 := e'.trans e3
        -- the body, from F3; its ends are at least as strong as is wanted
        intro pins sh I
        refine wpAny_mono (key F3 σ4 H3 q3 o3 sl4 pins sh I) (fun fl s5 z => ?_) fun _ _ z => z
        cases fl with
        | next =>
          obtain ⟨σ5, H5, J5, s5', g5, et, F5, e5, o5, sl5⟩ := z
          exact ⟨σ5, H5, J5, s5', g5, et, F5, e5, o5, sl5⟩
        | cont =>
          obtain ⟨σ5, H5, J5, s5', g5, et, F5, e5, o5, sl5⟩ := z
          exact ⟨σ5, H5, J5, s5', g5, et, F5, e5, o5, sl5⟩
        | brk =>
          obtain ⟨σ5, H5, J5, s5', g5, et, F5, e5, o5, sl5⟩ := z
          subst et
          cases hl2
          exact ⟨σ5, H5, J5, hn s5' g5 rfl F5 σ5 H5 ((s.trans e1).trans e5) o5 sl5⟩
        | ret u =>
          obtain ⟨w, σ5, H5, J5, rv, r, et, rr⟩ := z
          subst et
          cases hl2
          exact ⟨w, σ5, H5, J5, rv, hr r w H5 rfl rr⟩
end
end Z
namespace Z
open PySem PySem.Spec PyProof.Rows L2
theorem lp_lpR {α S : Type} (f : S → α → Option S) : ∀ (xs : List α) (s fin : S), lp f xs s = some fin → lpR (R := Empty) (fun s x => (f s x).map Step.go) xs s = some (.inr fin)
  | [], s, fin, h => by
    cases h
    rfl
  | x :: xs, s, fin, h => by
    unfold lp at h
    unfold lpR
    cases e : f s x with
    | none =>
      rw [e] at h
      cases h
    | some s' =>
      rw [e] at h
      exact lp_lpR f xs s' fin h
section
variable {X : Cx} {es : List Slot} {os os1 os2 : Os} {F0 : Hp} {rest : List Stmt} {D : Ends} {N V G W : List Str} {k i vi gi : Nat} {x : Str} {p pos : Pos} {e e2 : Expr} {α : Type}
/-- what a turn of a plain loop is to reach -/
def LgD {S γ : Type} (F0 : Hp) (ES : S → γ → List Slot) (OS : S → γ → Os) (s : S) : Ends where
  nx := fun σ H => ∃ g, At F0 (ES s g) (OS s g) σ H
  ct := fun σ H => ∃ g, At F0 (ES s g) (OS s g) σ H
  bk := fun _ _ => False
  rt := fun _ _ => False
theorem sx_for {S γ : Type} {tg iter : Expr} {body : List Stmt} {xs : List α} {vp : α → VP} {c : Os → Prop} {up : α → List Slot → List Slot} {fpos : Pos} (f : S → α → Option S) (ES : S → γ → List Slot) (OS : S → γ → Os)
    (B : Bd X N W G k) (T : Bt X V) (hg : ∀ x, GX X tg (vp x) (up x)) (s0 : S) (g0 : γ) (fin : S) (hl : lp f xs s0 = some fin) (hi : IX X tg es os iter xs vp c (OS s0 g0)) (h0 : Wk es (ES s0 g0)) (hc : ∀ s g, c (OS s g))
    (hb : ∀ F1, Same F0 F1 → ∀ s g x s', x ∈ xs → f s x = some s' → SX X (up x (ES s g)) (OS s g) F1 body (LgD F1 ES OS s'))
    (hn : ∀ g, SX X (ES fin g) (OS fin g) F0 rest D) (hs : ∀ x, foldedSetIterable iter X.env x = pure x := by intro _; rfl) : SX X es os F0 (.For tg iter body [] fpos :: rest) D := by
  refine sx_forR (R := Empty) (fun s x => (f s x).map Step.go) ES OS (fun _ _ _ => False) B T hg s0 g0 (.inr fin) (lp_lpR f xs s0 fin hl) hi h0 hc (fun F1 h1 s g x t hx ht => ?_) (fun s g e => ?_) (fun r _ _ _ z => z.elim) hs
  · cases e : f s x with
    | none =>
      rw [e] at ht
      cases ht
    | some s' =>
      rw [e] at ht
      cases ht
      intro F σ H a b c pins sh I
      refine wpAny_mono (hb F1 h1 s g x s' hx e F σ H a b c pins sh I) (fun fl s5 z => ?_) fun _ _ z => z
      cases fl with
      | next =>
        obtain ⟨σ5, H5, J5, g5, a5⟩ := z
        exact ⟨σ5, H5, J5, s', g5, rfl, a5⟩
      | cont =>
        obtain ⟨σ5, H5, J5, g5, a5⟩ := z
        exact ⟨σ5, H5, J5, s', g5, rfl, a5⟩
      | brk =>
        obtain ⟨σ5, H5, J5, z⟩ := z
        exact z.elim
      | ret u =>
        obtain ⟨w, σ5, H5, J5, rv, z⟩ := z
        exact z.elim
  · cases e
    exact hn g
theorem sx_while {R S γ : Type} {cd : Expr} {body : List Stmt} {fpos : Pos} (c : S → Option Bool) (f : S → Option (Step R S)) (ES : S → γ → List Slot) (OS : S → γ → Os) (RT : R → L2.V → Hp → Prop)
    (T : Bt X V) (n : Nat) (s0 : S) (g0 : γ) (o : Sum R S) (hl : wh c f n s0 = some o) (h0 : Wk es (ES s0 g0)) (ho : os = OS s0 g0)
    (hc : ∀ s g b, c s = some b → TX X (ES s g) (OS s g) cd b (OS s g))
    (hb : ∀ F1, Same F0 F1 → ∀ s g t, c s = some true → f s = some t → SX X (ES s g) (OS s g) F1 body (LpD F1 ES OS RT t))
    (hn : ∀ s g, o = .inr s → SX X (ES s g) (OS s g) F0 rest D) (hr : ∀ r v H, o = .inl r → RT r v H → D.rt v H) : SX X es os F0 (.While cd body [] fpos :: rest) D := fun F σ H s ow sl => by
  subst ho
  refine wps_cons (ws_of (ps_while T.po pt_u pss_u) ⟨fun m σ' H' => ∃ s' g', wh c f m s' = some o ∧ At F (ES s' g') (OS s' g') σ' H', ⟨n, s0, g0, hl, F, Same.refl F, ow, sl.weak h0⟩, ?_⟩)
  rintro m σ' H' ⟨s', g', hl', F', e', o', sl'⟩
  cases m with
  | zero => cases hl'
  | succ m =>
    unfold wh at hl'
    cases hcs : c s' with
    | none =>
      rw [hcs] at hl'
      cases hl'
    | some b =>
      rw [hcs] at hl'
      refine hc s' g' b hcs F' σ' H' _ o' sl' fun F1 H1 e1 o1 => ?_
      cases b with
      | false =>
        have hl2 : some (.inr s') = some o := hl'
        cases hl2
        rw [if_neg Bool.false_ne_true]
        exact hn s' g' rfl F1 σ' H1 ((s.trans e').trans e1) o1 (sl'.mono e1)
      | true =>
        have hl2 : (f s').bind (Step.aft (wh c f m)) = some o := hl'
        rw [if_pos rfl]
        cases hf : f s' with
        | none =>
          rw [hf] at hl2
          cases hl2
        | some t =>
          rw [hf] at hl2
          have hl3 : Step.aft (wh c f m) t = some o := hl2
          refine ⟨fun σ2 H2 => ∃ s2 g2, t = .go s2 ∧ At F (ES s2 g2) (OS s2 g2) σ2 H2, ?_, ?_⟩
          · rintro σ2 H2 ⟨s2, g2, rfl, a2⟩
            exact ⟨m, Nat.lt_succ_self m, s2, g2, hl3, a2⟩
          · intro pins sh I
            refine wpAny_mono (hb F s s' g' t hcs hf F1 σ' H1 (e'.trans e1) o1 (sl'.mono e1) pins sh I) (fun fl s5 z => ?_) fun _ _ z => z
            cases fl with
            | next => exact z
            | cont => exact z
            | brk =>
              obtain ⟨σ5, H5, J5, s5', g5, et, F5, e5, o5, sl5⟩ := z
              subst et
              cases hl3
              exact ⟨σ5, H5, J5, hn s5' g5 rfl F5 σ5 H5 (s.trans e5) o5 sl5⟩
            | ret u =>
              obtain ⟨w, σ5, H5, J5, rv, r, et, rr⟩ := z
              subst et
              cases hl3
              exact ⟨w, σ5, H5, J5, rv, hr r w H5 rfl rr⟩
theorem sl_wipe {F : Hp} {σ : L2.St} (h : Sl F es σ) : ∀ vs : List Nat, (∀ j ∈ vs, ∃ s, es[j]? = some s ∧ s = un) → Sl F es (wipe σ vs)
  | [], _ => h
  | v :: vs, hv => by
    have ih := sl_wipe h vs fun j hj => hv j (List.mem_cons_of_mem _ hj)
    obtain ⟨s, e, eu⟩ := hv v List.mem_cons_self
    subst eu
    have := ih.set (i := v) (s := un) (o := none) fun _ _ => trivial
    have e2 : es.set v un = es := by
      refine List.ext_getElem? fun j => ?_
      by_cases hj : v = j
      · subst hj
        rw [List.getElem?_set_self (List.getElem?_eq_some_iff.mp e).1, e]
      · rw [List.getElem?_set_ne hj]
    rw [e2] at this
    exact this
/-- the contexts in which the block of a comprehension runs -/
def Fam (X : Cx) (scope : Scope) (X' : Cx) : Prop := ∃ s H C cl fp, X' = X.blk s H scope (compEnvC scope cl C X.env) fp
/-- the tests of a comprehension: none, or one -/
inductive PTX (X : Cx) (es : List Slot) (os : Os) : List Expr → Bool → Os → Prop
  | nil : PTX X es os [] true os
  | one {c : Expr} {b : Bool} {os' : Os} : TX X es os c b os' → PTX X es os [c] b os'
def tIfs (X : Cx) (scope : Scope) (ifs : List Expr) : TT := fun σ H Q => match ifs with
  | [] => Q true H
  | [c] => ∀ X', Fam X scope X' → WT X' c σ H Q
  | _ => False
theorem pts_u {scope : Scope} {X' : Cx} (hf : Fam X scope X') : ∀ ifs : List Expr, PTs X' ifs (tIfs X scope ifs)
  | [] => pts_nil
  | [c] => pts_one ⟨fun pins s _ _ _ I h => h X' hf pins s I⟩
  | _ :: _ :: _ => ⟨fun _ _ _ _ _ _ h => h.elim⟩
def tElt (X : Cx) (scope : Scope) (e : Expr) : TE := fun σ H Q => ∀ X', Fam X scope X' → WE X' e σ H Q
theorem pe_elt {scope : Scope} {X' : Cx} (hf : Fam X scope X') : PE X' e (tElt X scope e) := ⟨fun pins s _ _ _ I h => h X' hf pins s I⟩
/-- the own names of a comprehension may be stored -/
def ownB (scope sc : Scope) (x : Str) : Bool := match (relS scope sc).names.lookup x with
  | some .local => true
  | some .cell => scope.names.lookup x == some .cell
  | _ => false
theorem pg_own {scope : Scope} {X' : Cx} {j : Nat} {y : Str} {tpos : Pos} (hf : Fam X scope X') (B : Bd X N W G k) (hj : N[j]? = some y) (ho : ownB scope X.env.scope y = true) : PG X' (.Name y tpos) (gName j) := by
  obtain ⟨s, H, C, cl, fp, rfl⟩ := hf
  unfold ownB at ho
  have e : (X.blk s H scope (compEnvC scope cl C X.env) fp).env.scope = relS scope X.env.scope := rfl
  split at ho
  · rename_i hl
    exact pg_name (B.hN ▸ B.nd) (B.hN ▸ hj) (.inl (by rw [e]; exact hl)) (.inr (by rw [e]; exact hl))
  · rename_i hl
    exact pg_name (B.hN ▸ B.nd) (B.hN ▸ hj) (.inr (by rw [e]; exact hl)) (.inl ho)
  · cases ho
/-- the state of a comprehension: the list so far, what is still to come -/
def LcS {S β : Type} (f : S → α → Option (Option β × S)) (OS : S → Os → Os) (enc : β → PyData) (xs : List α) (ys : List β) (sf : S) (os0 : Os) (Dl : Addr) (F1 : Hp) (i : Nat) (H : Hp) : Prop :=
  ∃ s d r F, lcS f (xs.drop i) s = some (r, sf) ∧ ys = d ++ r ∧ d.length ≤ i ∧ Same F1 F ∧ Ow F (OS s ((Dl, ol (d.map enc)) :: os0)) H
theorem lc_elt {S β : Type} {elt : Expr} {scope : Scope} {xs : List α} {enc : β → PyData} {f : S → α → Option (Option β × S)} {OS : S → Os → Os} {ys : List β} {sf : S} {os0 : Os} {Dl : Addr} {F1 F4 : Hp} {i : Nat} {up : List Slot} {t : Option β × S} {d r : List β} {σ : L2.St} {H4 : Hp} {os1 : Os}
    (hperm : ∀ s q tl, (OS s (q :: tl)).Perm (q :: OS s tl)) (hi : i < xs.length) (hz : xs.length < sizeLine) (hd : d.length ≤ i) (hr : ((lcS f (xs.drop (i + 1)) t.2).bind fun u => some (t.1.toList ++ u.1, u.2)) = some (r, sf)) (hy : ys = d ++ r)
    (e4 : Same F1 F4) (o4 : Ow F4 os1 H4) (sl : Sl F4 up σ) (key : ∀ X', Fam X scope X' → ∃ y, t.1 = some y ∧ EX X' up os1 elt (dat (enc y)) (OS t.2 ((Dl, ol (d.map enc)) :: os0))) :
    tElt X scope elt σ H4 fun y H5 => ∃ acc, H5 Dl = some (.lst acc) ∧ acc.length < sizeLine ∧ LcS f OS enc xs ys sf os0 Dl F1 (i + 1) (upd H5 Dl (.lst (acc ++ [y]))) := by
  intro X' hX'
  obtain ⟨y, hy1, he⟩ := key X' hX'
  refine he F4 σ H4 _ o4 sl fun F5 H5 v e5 o5 c5 => ?_
  have o6 := o5.perm (hperm t.2 _ os0)
  obtain ⟨_, vs, hu, hv⟩ := o6.atL
  have hl := dqall_len hv
  rw [List.length_map] at hl
  refine ⟨vs, hu, by omega, ?_⟩
  cases hu2 : lcS f (xs.drop (i + 1)) t.2 with
  | none =>
    rw [hu2] at hr
    cases hr
  | some w =>
    rw [hu2, hy1] at hr
    have hr2 : (y :: w.1, w.2) = (r, sf) := Option.some.inj hr
    obtain ⟨rfl, rfl⟩ := Prod.mk.inj hr2
    refine ⟨t.2, d ++ [y], w.1, F5, by rw [hu2], by rw [hy, List.append_assoc]; rfl, by rw [List.length_append, List.length_singleton]; omega, e4.trans e5, ?_⟩
    refine (o6.putL (ds' := (d ++ [y]).map enc) ?_).perm (hperm t.2 _ os0).symm
    rw [List.map_append]
    exact dqall_app hv (.cons c5.now .nil)
theorem lc_read {S β : Type} {elt iter tg : Expr} {ifs : List Expr} {scope : Scope} {vs : List Nat} {xs : List α} {vp : α → VP} {c : Os → Prop} {g : TG} {up : α → List Slot → List Slot} {enc : β → PyData} {f : S → α → Option (Option β × S)} {OS : S → Os → Os}
    {s0 : S} {os0 : Os} {ys : List β} {sf : S} (hv : ∀ j ∈ vs, es[j]? = some un) (hid : ∀ σ : L2.St, wipe (wipe σ vs) vs = wipe σ vs)
    (hg : ∀ x F σ H v Q os2, Sl F es σ → wipe σ vs = σ → Ow F os2 H → Cl (vp x) F v → (∀ σ', Sl F (up x es) σ' → wipe σ' vs = σ → Q σ' H) → g v σ H Q)
    (hif : ifs.length ≤ 1) (hl : lcS f xs s0 = some (ys, sf)) (hz : xs.length < sizeLine) (hi : IX X tg es os iter xs vp c (OS s0 os0)) (hc : ∀ s tl, c (OS s tl)) (hperm : ∀ s q tl, (OS s (q :: tl)).Perm (q :: OS s tl))
    (hb : ∀ s x t tl, x ∈ xs → f s x = some t → ∃ b os1, ∀ X', Fam X scope X' → PTX X' (up x es) (OS s tl) ifs b os1 ∧ (b = true → ∃ y, t.1 = some y ∧ EX X' (up x es) os1 elt (dat (enc y)) (OS t.2 tl)) ∧ (b = false → t.1 = none ∧ os1 = OS t.2 tl))
    {F σ H Q} (ow : Ow F os H) (sl : Sl F es σ) (q : ∀ F' H' p, Same F F' → Ow F' ((p, ol (ys.map enc)) :: OS sf os0) H' → Q (.ref p) H') : tLc (WI X tg iter) g (tIfs X scope ifs) (tElt X scope elt) vs σ H Q := by
  refine hi F σ H _ ow sl fun F1 H1 J e1 o1 good Dl hD => ?_
  refine ⟨fun i m H => m = xs.length - i ∧ i ≤ xs.length ∧ LcS f OS enc xs ys sf os0 Dl F1 i H, ⟨_, rfl, Nat.zero_le _, s0, [], ys, F1, hl, rfl, Nat.le_refl _, Same.refl F1, ?_⟩, ?_⟩
  · exact (o1.new hD fun G g => ⟨[], rfl, .nil⟩).perm (hperm s0 _ os0).symm
  · rintro i m H' ⟨rfl, hi, s, d, r, F', hr, hy, hdl, e', o'⟩
    obtain ⟨stop, go⟩ := good F' H' _ i e' o' (hc s _)
    cases hx : xs[i]? with
    | none =>
      have hi2 : xs.length ≤ i := List.getElem?_eq_none_iff.mp hx
      rw [List.drop_eq_nil_of_le hi2] at hr
      cases hr
      refine .inl ⟨stop hi2, q F' H' Dl (e1.trans e') ?_⟩
      rw [hy, List.append_nil]
      exact o'.perm (hperm _ _ os0)
    | some x =>
      obtain ⟨hgo, hyl⟩ := go x hx
      have hlt : i < xs.length := (List.getElem?_eq_some_iff.mp hx).1
      rw [drop_cons' hx] at hr
      unfold lcS at hr
      cases hf : f s x with
      | none =>
        rw [hf] at hr
        cases hr
      | some t =>
        rw [hf] at hr
        have hr : ((lcS f (xs.drop (i + 1)) t.2).bind fun u => some (t.1.toList ++ u.1, u.2)) = some (r, sf) := hr
        refine .inr ⟨hgo, LcS f OS enc xs ys sf os0 Dl F1 (i + 1), fun H2 hH2 => ⟨_, by omega, rfl, by omega, hH2⟩, fun v H3 yv => ?_⟩
        obtain ⟨F3, e3, o3, c3⟩ := hyl v H3 yv
        have slw : Sl F3 es (wipe σ vs) := sl_wipe (sl.mono ((e1.trans e').trans e3)) vs fun j hj => ⟨un, hv j hj, rfl⟩
        refine hg x F3 (wipe σ vs) H3 v _ _ slw (hid σ) o3 c3 fun σ' sl' hw => ⟨hw, ?_⟩
        obtain ⟨b, os1, key⟩ := hb s x t ((Dl, ol (d.map enc)) :: os0) (List.mem_of_getElem? hx) hf
        have e4 := e'.trans e3
        match ifs, hif, key with
        | [], _, key =>
          refine lc_elt hperm hlt hz hdl hr hy e4 o3 sl' fun X' hX' => ?_
          obtain ⟨k1, k2, _⟩ := key X' hX'
          cases k1
          exact k2 rfl
        | [cd], _, key =>
          intro X' hX'
          obtain ⟨k1, k2, k3⟩ := key X' hX'
          cases k1 with
          | one ht =>
            refine ht F3 σ' H3 _ o3 sl' fun F4 H4 e5 o4 => ?_
            cases b with
            | true =>
              rw [if_pos rfl]
              exact lc_elt hperm hlt hz hdl hr hy (e4.trans e5) o4 (sl'.mono e5) fun X'' hX'' => (key X'' hX'').2.1 rfl
            | false =>
              rw [if_neg Bool.false_ne_true]
              obtain ⟨k4, rfl⟩ := k3 rfl
              cases hu2 : lcS f (xs.drop (i + 1)) t.2 with
              | none =>
                rw [hu2] at hr
                cases hr
              | some w =>
                rw [hu2, k4] at hr
                have hr2 : (w.1, w.2) = (r, sf) := Option.some.inj hr
                obtain ⟨rfl, rfl⟩ := Prod.mk.inj hr2
                exact ⟨t.2, d, w.1, F4, by rw [hu2], hy, by omega, e4.trans e5, o4⟩
        | _ :: _ :: _, hif, key =>
          rw [List.length_cons, List.length_cons] at hif
          omega
/-- all that a comprehension asks -/
structure LcOk (X : Cx) (es : List Slot) (os : Os) {α S β : Type} (tg iter elt : Expr) (ifs : List Expr) (scope : Scope) (own : List (Str × Nat)) (xs : List α) (vp : α → VP) (c : Os → Prop) (g : TG) (up : α → List Slot → List Slot) (enc : β → PyData)
    (f : S → α → Option (Option β × S)) (OS : S → Os → Os) (s0 : S) (os0 : Os) (ys : List β) (sf : S) : Prop where
  calm : X.calm = true
  nd : X.N.Nodup
  ok : BlkOk X.N X.env.scope scope own
  pg : ∀ X', Fam X scope X' → PG X' tg g
  hv : ∀ j ∈ own.map (·.2), es[j]? = some un
  hid : ∀ σ : L2.St, wipe (wipe σ (own.map (·.2))) (own.map (·.2)) = wipe σ (own.map (·.2))
  hg : ∀ x F σ H v Q os2, Sl F es σ → wipe σ (own.map (·.2)) = σ → Ow F os2 H → Cl (vp x) F v → (∀ σ', Sl F (up x es) σ' → wipe σ' (own.map (·.2)) = σ → Q σ' H) → g v σ H Q
  hif : ifs.length ≤ 1
  hl : lcS f xs s0 = some (ys, sf)
  hz : xs.length < sizeLine
  hi : IX X tg es os iter xs vp c (OS s0 os0)
  hc : ∀ s tl, c (OS s tl)
  hperm : ∀ s q tl, (OS s (q :: tl)).Perm (q :: OS s tl)
  hb : ∀ s x t tl, x ∈ xs → f s x = some t → ∃ b os1, ∀ X', Fam X scope X' → PTX X' (up x es) (OS s tl) ifs b os1 ∧ (b = true → ∃ y, t.1 = some y ∧ EX X' (up x es) os1 elt (dat (enc y)) (OS t.2 tl)) ∧ (b = false → t.1 = none ∧ os1 = OS t.2 tl)
section
variable {α S β : Type} {tg iter elt : Expr} {ifs : List Expr} {scope : Scope} {own : List (Str × Nat)} {xs : List α} {vp : α → VP} {c : Os → Prop} {g : TG} {up : α → List Slot → List Slot} {enc : β → PyData}
    {f : S → α → Option (Option β × S)} {OS : S → Os → Os} {s0 : S} {os0 : Os} {ys : List β} {sf : S}
theorem en_lc (h : LcOk X es os tg iter elt ifs scope own xs vp c g up enc f OS s0 os0 ys sf) (hs : ∀ x, foldedSetIterable iter X.env x = pure x := by intro _; rfl) : EN X es os (.ListComp elt [⟨tg, iter, ifs, 0⟩] scope pos) (ol (ys.map enc)) (OS sf os0) := fun F σ H Q ow sl q =>
  we_of (pe_lc h.calm h.nd pi_u h.ok (fun s H C cl fp => h.pg _ ⟨s, H, C, cl, fp, rfl⟩) (fun s H C cl fp => pts_u ⟨s, H, C, cl, fp, rfl⟩ ifs) (fun s H C cl fp => pe_elt ⟨s, H, C, cl, fp, rfl⟩) hs)
    (lc_read h.hv h.hid h.hg h.hif h.hl h.hz h.hi h.hc h.hperm h.hb ow sl q)
theorem sx_asgLc {y : Str} {py spos : Pos} (B : Bd X N W G k) (T : Bt X V) (hi : N[i]? = some y) (hyl : X.env.scope.names.lookup y = some .local) (h : LcOk X es os tg iter elt ifs scope own xs vp c g up enc f OS s0 os0 ys sf)
    (hsw : swapsWith (.ListComp elt [⟨tg, iter, ifs, 0⟩] scope pos) (some (.Name y py)) spos.line X.env = pure true)
    (hn : ∀ p, SX X (es.set i (sl (Z.own p))) ((p, ol (ys.map enc)) :: OS sf os0) F0 rest D) (hs : ∀ x, foldedSetIterable iter X.env x = pure x := by intro _; rfl) : SX X es os F0 (.Assign [.Name y py] (.ListComp elt [⟨tg, iter, ifs, 0⟩] scope pos) spos :: rest) D := fun F σ H s ow sl =>
  wps_cons (ws_of (ps_setLc h.calm h.nd (B.hN ▸ hi) hyl hsw pi_u h.ok (fun s H C cl fp => h.pg _ ⟨s, H, C, cl, fp, rfl⟩) (fun s H C cl fp => pts_u ⟨s, H, C, cl, fp, rfl⟩ ifs) (fun s H C cl fp => pe_elt ⟨s, H, C, cl, fp, rfl⟩) hs)
    (lc_read (Q := fun v H1 => gName i v σ H1 (WPs X rest D)) h.hv h.hid h.hg h.hif h.hl h.hz h.hi h.hc h.hperm h.hb ow sl fun F1 H1 p e1 o1 => hn p F1 _ H1 (s.trans e1) o1 ((sl.mono e1).put cl_own)))
end
/-- the target is one name -/
theorem lc_gname {α : Type} {vp : α → VP} {j : Nat} (x : α) (F : Hp) (σ : L2.St) (H : Hp) (v : L2.V) (Q : L2.St → Hp → Prop) (os2 : Os) (sl : Sl F es σ) (hw : wipe σ [j] = σ) (ow : Ow F os2 H) (c : Cl (vp x) F v) (q : ∀ σ', Sl F (es.set j (Z.sl (vp x))) σ' → wipe σ' [j] = σ → Q σ' H) : gName j v σ H Q := by
  refine q _ (sl.put c) ?_
  show (σ.set j (some v)).set j none = σ
  rw [List.set_set]
  exact hw
theorem lc_id1 {j : Nat} (σ : L2.St) : wipe (wipe σ [j]) [j] = wipe σ [j] := by
  show (σ.set j none).set j none = σ.set j none
  rw [List.set_set]
/-- a pair of names -/
theorem lc_id2 {i j : Nat} (hij : i ≠ j) (σ : L2.St) : wipe (wipe σ [i, j]) [i, j] = wipe σ [i, j] := by
  show (((σ.set j none).set i none).set j none).set i none = (σ.set j none).set i none
  rw [List.set_comm _ _ hij, List.set_set, List.set_set]
theorem lc_gpair {α : Type} {K : PySem.W.Frag} {d1 d2 : α → PyData} {i j : Nat} (hij : i ≠ j) (x : α) (F : Hp) (σ : L2.St) (H : Hp) (v : L2.V) (Q : L2.St → Hp → Prop) (os2 : Os) (sl : Sl F es σ) (hw : wipe σ [i, j] = σ) (ow : Ow F os2 H) (c : Cl (dat (.tuple [d1 x, d2 x])) F v)
    (q : ∀ σ', Sl F ((es.set i (Z.sl (dat (d1 x)))).set j (Z.sl (dat (d2 x)))) σ' → wipe σ' [i, j] = σ → Q σ' H) : gTup K 2 (gCons (gName i) (gCons (gName j) gNil)) v σ H Q := by
  obtain ⟨p, vs, rfl, hp, hv⟩ := rdt_dat F v c
  cases hv with
  | cons k1 r =>
    cases r with
    | cons k2 r =>
      cases r
      refine ⟨p, _, rfl, .of (ow.ex _ _ hp), rfl, _, _, rfl, _, _, rfl, rfl, ?_⟩
      refine q _ ((sl.put (cl_dat k1)).put (cl_dat k2)) ?_
      have hw2 : (σ.set j none).set i none = σ := hw
      show (((σ.set i _).set j _).set j none).set i none = σ
      rw [List.set_set, List.set_comm _ _ hij, List.set_set, List.set_comm _ _ (Ne.symm hij)]
      rw [List.set_comm _ _ hij]
      exact hw2
theorem pg_own2 {scope : Scope} {X' : Cx} {i j : Nat} {y z : Str} {p1 p2 tpos : Pos} {kk : Nat} (hf : Fam X scope X') (B : Bd X N W G k) (hi : N[i]? = some y) (hj : N[j]? = some z) (ho : ownB scope X.env.scope y = true) (ho2 : ownB scope X.env.scope z = true) :
    PG X' (.Tuple [.Name y p1, .Name z p2] kk tpos) (gTup X'.K 2 (gCons (gName i) (gCons (gName j) gNil))) := by
  have hc : X'.calm = true := by
    obtain ⟨s, H, C, cl, fp, rfl⟩ := hf
    exact B.calm
  exact pg_tup hc (pgs_cons (pg_own hf B hi ho) (pgs_cons (pg_own hf B hj ho2) pgs_nil))
/-- a body's facts hold in a comprehension's block -/
theorem Bd.fam {scope : Scope} {X' : Cx} {W' G' : List Str} (B : Bd X N W G k) (hf : Fam X scope X') (h : namB (relS scope X.env.scope) W' G' = true) : Bd X' N W' G' k := by
  obtain ⟨s, H, C, cl, fp, rfl⟩ := hf
  exact ⟨B.hN, B.nd, B.calm, B.gd, B.room, nam_vis h, nam_gl h⟩
end
end Z
namespace Z
open PySem PySem.Spec PyProof.Rows L2
section
variable {P : Program} {w : World} {K : PySem.W.Frag} {mg : Str → Option Value} {base : Heap}
theorem pass_nox {N : List Str} {qual : Str} {sc : Scope} {f : Addr} {cdv : Value} {A : Around} {outer : List Env} {s : Shared} {H : Hp} {E : XK} {sts : List Stmt} {D : Ends} {σ : L2.St} {H' : Hp}
    (h : WPs (cxOf CX0 P w K mg base N qual sc f cdv A outer s H E).nox sts D σ H') : WPs (cxOf CX0 P w K mg base N qual sc f cdv A outer s H E) sts D σ H' :=
  wps_of (PSs.nox (pss_u (X := (cxOf CX0 P w K mg base N qual sc f cdv A outer s H E).nox))) h
theorem cla_start {F : Hp} : ∀ {φs : List VP} {vs : List L2.V} (n : Nat), ClA φs F vs → Sl F (φs.map sl ++ List.replicate n un) (vs.map some ++ List.replicate n none)
  | [], _, n, h => by
    have e : _ = [] := h
    subst e
    refine ⟨by simp, fun i t q => ?_⟩
    have q' : (List.replicate n un)[i]? = some t := q
    rw [List.getElem?_replicate] at q'
    split at q'
    · rename_i hi
      cases q'
      refine ⟨none, ?_, fun _ _ => trivial⟩
      show (List.replicate n none)[i]? = some none
      rw [List.getElem?_replicate, if_pos hi]
    · cases q'
  | φ :: φs, _, n, ⟨v, r, e, h1, h2⟩ => by
    subst e
    have ih := cla_start n h2
    refine ⟨by simpa using ih.len, fun i t q => ?_⟩
    cases i with
    | zero =>
      have q' : some (sl φ) = some t := q
      cases q'
      exact ⟨some v, rfl, fun G g => ⟨v, rfl, h1 G g⟩⟩
    | succ i => exact ih.get i t q
/-- how a body hands back what a promise tells -/
structure RetZ (F0 : Hp) (os : Os) (φ : VP) (D : Ends) : Prop where
  rt : ∀ F H v, Same F0 F → Ow F os H → Cl φ F v → D.rt v H
  nx : ∀ σ H, D.rt .non H → D.nx σ H
structure RetN (F0 : Hp) (os : Os) (n : Ent) (D : Ends) : Prop where
  rt : ∀ F H p, Same F0 F → Ow F ((p, n) :: os) H → D.rt (.ref p) H
variable {α β : Type} {ps : α → List VP} {pre : α → Os} {m : α → Option β} {res : α → β → VP} {post : α → β → Os} {n : α → β → Ent} {x : Str} {st : Stmt} {f : Addr} {fd : FuncData} {N V Gs pn : List Str} {k nl : Nat}
theorem cal_Z (Fn : Fun K x x st f fd) (S : FnScope N pn (defScope st)) (nam : namB (defScope st) V Gs = true) (loc : V.all (locB (defScope st)) = true) (hmg : mg x = some (.ref f)) (hb : Binds K fd pn []) (hps : ∀ a, (ps a).length = pn.length) (hN : N.length = pn.length + nl)
    (body : ∀ (f : Addr) (cdv : Value) (A : Around) (outer : List Env) (s : Shared) (H : Hp) (E : XK) (a : α) (b : β) (F0 : Hp) (os : Os) (D : Ends), Bd (cxOf CX0 P w K mg base N x (defScope st) f cdv A outer s H E).nox N V Gs k → Bt (cxOf CX0 P w K mg base N x (defScope st) f cdv A outer s H E).nox V →
      m a = some b → RetZ F0 (post a b ++ os) (res a b) D → SX (cxOf CX0 P w K mg base N x (defScope st) f cdv A outer s H E).nox ((ps a).map sl ++ List.replicate nl un) (pre a ++ os) F0 (defBody st) D) : Cal P w K mg base (k + 1) x st pn (spZ ps pre m res post) := by
  refine ⟨f, fd, Fn, fun_ok Fn S (spZ_len hps) ?_, hmg, hb⟩
  rintro cdv A outer s H vs Q E hg hr ⟨a, b, F, os, c, ow, hm, q⟩
  refine pass_nox ?_
  have hl := (cla_len c).trans (hps a)
  have hst : L2.start N vs = vs.map some ++ List.replicate nl none := by
    unfold L2.start
    rw [hl, hN, Nat.add_sub_cancel_left]
  rw [hst]
  refine body f cdv A outer s H E a b F os _ ⟨rfl, S.nd, rfl, hg, hr, nam_vis nam, nam_gl nam⟩ ⟨fun _ => rfl, fun y hy => loc_of (List.all_eq_true.mp loc y hy), PassesOwn.never⟩ hm ⟨fun F' H' v e o c => q F' H' v e o c, fun _ _ z => z⟩ F _ H (Same.refl F) ow (cla_start nl c)
theorem cal_N (Fn : Fun K x x st f fd) (S : FnScope N pn (defScope st)) (nam : namB (defScope st) V Gs = true) (loc : V.all (locB (defScope st)) = true) (hmg : mg x = some (.ref f)) (hb : Binds K fd pn []) (hps : ∀ a, (ps a).length = pn.length) (hN : N.length = pn.length + nl)
    (body : ∀ (f : Addr) (cdv : Value) (A : Around) (outer : List Env) (s : Shared) (H : Hp) (E : XK) (a : α) (b : β) (F0 : Hp) (os : Os) (D : Ends), Bd (cxOf CX0 P w K mg base N x (defScope st) f cdv A outer s H E).nox N V Gs k → Bt (cxOf CX0 P w K mg base N x (defScope st) f cdv A outer s H E).nox V →
      m a = some b → RetN F0 (post a b ++ os) (n a b) D → SX (cxOf CX0 P w K mg base N x (defScope st) f cdv A outer s H E).nox ((ps a).map sl ++ List.replicate nl un) (pre a ++ os) F0 (defBody st) D) : Cal P w K mg base (k + 1) x st pn (spN ps pre m n post) := by
  refine ⟨f, fd, Fn, fun_ok Fn S (spN_len hps) ?_, hmg, hb⟩
  rintro cdv A outer s H vs Q E hg hr ⟨a, b, F, os, c, ow, hm, q⟩
  refine pass_nox ?_
  have hl := (cla_len c).trans (hps a)
  have hst : L2.start N vs = vs.map some ++ List.replicate nl none := by
    unfold L2.start
    rw [hl, hN, Nat.add_sub_cancel_left]
  rw [hst]
  refine body f cdv A outer s H E a b F os _ ⟨rfl, S.nd, rfl, hg, hr, nam_vis nam, nam_gl nam⟩ ⟨fun _ => rfl, fun y hy => loc_of (List.all_eq_true.mp loc y hy), PassesOwn.never⟩ hm ⟨fun F' H' p e o => q F' H' p e o⟩ F _ H (Same.refl F) ow (cla_start nl c)
end
/-- the law's call keeps a promise -/
def LawSp (K : PySem.W.Frag) (m : List Int → Option Bool) : Sp := spZ (fun ns => [scr K ns]) (fun _ => []) m (fun _ b => dat (.bool b)) (fun _ _ => [])
theorem law_run {P : Program} {w : World} {K : PySem.W.Frag} {mg mb : Str → Option Value} {k : Nat} {fa a : Addr} {fd : FuncData} {x : Str} {sp : Sp} {s1 : Shared} {vs : List Value} {ns : List Int}
    (KX : K.In s1.heap) (hns : s1.heap.Ns mainGlobals mg) (hb : s1.heap.Ns builtinsNs mb) (hbb : ∀ x : Str, x ≠ "__name__" → mb x = bootBuiltins x) (hlim : s1.heap.NoLimit) (hg : s1.gens = #[])
    (ha : s1.heap.get? a = some { cls := .type "list", data := .seq vs.toArray }) (hi : IntsAre vs ns) (hl : ns.length ≤ sizeLine) (hr : Room k callerA)
    (F : ∀ base : Heap, K.In base → base.Ns mainGlobals mg → FnG P w K mg base CX0 k fa fd [x] sp) (hbind : ∀ (s : Shared) (u : Value), BindsTo s fd ⟨[u], []⟩ [(x, u)])
    (hsp : ∀ H : Hp, Only H → SqL K H a (ns.map V.int) → sp [.ref a] H (fun v _ => v = .bl true) E0) :
    codeAny (model P w) callerA (.call (.ref fa) ⟨[.ref a], []⟩) (fun r s' => r = .ok (.ret (.bool true)) ∧ OldK s1.heap s'.heap ∧ s'.os = s1.os ∧ AllBare s'.gens) s1 := by
  have rv := vals_ints hi
  have step : ∀ H : Hp, Only H → SqL K H a (ns.map V.int) → HOk P w H s1.heap → (∀ b, H b ≠ none → b = a) → (H a ≠ none → K.lookup a = none) →
      codeAny (model P w) callerA (.call (.ref fa) ⟨[.ref a], []⟩) (fun r s' => r = .ok (.ret (.bool true)) ∧ OldK s1.heap s'.heap ∧ s'.os = s1.os ∧ AllBare s'.gens) s1 := by
    intro H only seq hok single lone
    have nsH : ∀ {b : Addr} {m : Str → Option Value}, s1.heap.Ns b m → (hidT s1.heap H).Ns b m := by
      rintro b m ⟨o, es, ep, e, d, r⟩
      refine ⟨o, es, ep, hidT_get e ?_, d, r⟩
      cases q : H b with
      | none => rfl
      | some u =>
        obtain rfl : b = a := single b (by rw [q]; simp)
        rw [ha] at e
        cases e
        have d' : Data.seq vs.toArray _ = Data.dict es ep := d
        cases d'
    have kin : K.In (hidT s1.heap H) := by
      intro b o e
      refine hidT_get (KX b o e) ?_
      cases q : H b with
      | none => rfl
      | some u =>
        obtain rfl : b = a := single b (by rw [q]; simp)
        have := lone (by rw [q]; simp)
        rw [this] at e
        cases e
    obtain ⟨mc, lim1, lim2⟩ := hlim
    have e0 : Env0 P w K mg (hidT s1.heap H) callerA [] s1 H :=
      { frames := rfl
        mod := ⟨kin, nsH hns, ⟨mb, nsH hb, hbb⟩, ⟨mc, nsH lim1, lim2⟩⟩
        bs := fun b o e => of_hidT e
        bsz := Nat.le_of_eq (hidT_size _ _)
        funs := trivial
        frf := fun b hb => nomatch (show b ∈ ([] : List Addr) from hb)
        hok := hok
        bare := .of_eq hg }
    refine codeAny_mono ((F _ kin (nsH hns)).run callerA [] s1 H ⟨[.ref a], []⟩ [.ref a] [.ref a] _ _ rfl hr e0 (hbind s1 (.ref a)) (.cons rfl .nil) (hsp H only seq)) ?_
    intro r s' h
    cases r with
    | error e => exact h.elim
    | ok fl =>
      cases fl with
      | next => exact h.elim
      | brk => exact h.elim
      | cont => exact h.elim
      | ret u =>
        obtain ⟨v, H', os, bare, un, hok', r', q⟩ := h
        obtain rfl : v = .bl true := q
        obtain rfl : u = Value.bool true := r'
        refine ⟨rfl, OldK.of_keep ?_, os, bare⟩
        intro b o e
        cases q : H b with
        | none => exact un.keep b o e q (fun z => nomatch (show b ∈ ([] : List Addr) from z)) (fun z => nomatch z)
        | some u =>
          rcases only b with z | ⟨ob, xs, z⟩
          · rw [q] at z
            cases z
          · obtain ⟨e1, _⟩ := hok b _ z
            obtain ⟨e2, _⟩ := hok' b _ (un.frzs b ob _ z)
            rw [e] at e1
            cases e1
            exact e2
  cases hk : K.lookup a with
  | some o =>
    have e := KX a o hk
    rw [ha] at e
    cases e
    exact step (fun _ => none) (fun _ => .inl rfl) (.inr ⟨_, vs.toArray, _, hk, rfl, rfl, rfl, by rw [List.size_toArray, hi.length]; exact hl, by simpa using rv⟩) (fun b u z => nomatch z) (fun b z => absurd rfl z) fun z => absurd rfl z
  | none =>
    let Hs : Hp := fun b => if b = a then some (.frz { cls := .type "list", data := .seq vs.toArray } (.lst (ns.map V.int))) else none
    have at_ : Hs a = some (.frz { cls := .type "list", data := .seq vs.toArray } (.lst (ns.map V.int))) := if_pos rfl
    have off : ∀ b, b ≠ a → Hs b = none := fun b h => if_neg h
    refine step Hs (fun b => ?_) (.inl (.inr ⟨_, at_⟩)) (fun b u z => ?_) (fun b z => Classical.byContradiction fun h => z (off b h)) fun _ => hk
    · by_cases h : b = a
      · exact .inr ⟨_, _, h ▸ at_⟩
      · exact .inl (off b h)
    · by_cases h : b = a
      · subst h
        rw [at_] at z
        cases z
        exact ⟨ha, by rw [List.length_map]; exact hl, vs, _, rv, ha⟩
      · rw [off b h] at z
        cases z
theorem law_sp {K : PySem.W.Frag} {m : List Int → Option Bool} {H : Hp} {a : Addr} {ns : List Int} (hm : m ns = some true) (hS : SqL K H a (ns.map V.int)) : LawSp K m [.ref a] H (fun v _ => v = .bl true) E0 :=
  ⟨ns, true, H, [], ⟨_, [], rfl, fun G g => ⟨a, rfl, g.seq hS⟩, rfl⟩, ⟨Same.refl H, [], .nil, (fun _ z => nomatch z), .nil⟩, hm, fun F' H' v _ _ c => clv_bool c⟩
/-- the goal that k_head leaves -/
theorem walk_ofG {l : PySem.W.OpenLaw} {n k : Nat} {q : Program} {loose : List Str} {XP : (Str → Option Value) → Heap → Prop} {YP : World → Heap → Prop} {d : DefRec} {K : Params → PySem.W.Frag} {m : List Int → Option Bool} {x : Str}
    (hn : l.most = some n) (hn2 : n ≤ sizeLine) (hdf : d.params.defaults = []) (hr : Room k callerA) (hY : ∀ (w : World) (h : Heap), YP w h → (K w.params).In h)
    (F : ∀ (w : World) (mg : Str → Option Value) (fa : Addr) (h : Heap), (K w.params).In h → h.Ns mainGlobals mg → mg d.name = some (.ref fa) →
      ∃ fd : FuncData, (∀ (s : Shared) (u : Value), BindsTo s fd ⟨[u], []⟩ [(x, u)]) ∧ ∀ base : Heap, (K w.params).In base → base.Ns mainGlobals mg → FnG l.prog w (K w.params) mg base CX0 k fa fd [x] (LawSp (K w.params) m))
    (hm : ∀ ns : List Int, ns.length ≤ n → m ns = some true) : PySem.W.WalkO q loose XP YP l.row.toRowW d [] (fun f vs => PySem.call f vs) := by
  refine Att.attach_call hn hdf ?_
  intro w s0 s1 mg mb fa o pm cd doc a vs ns G Y ho hd hcd hmg hobj hints hlen hg
  have KX := hY w _ Y
  obtain ⟨fd, hb, hF⟩ := F w mg fa _ KX G.T.g hmg
  exact law_run KX G.T.g G.T.b G.T.builtins G.T.nolimit hg hobj hints (Nat.le_trans hlen hn2) hr hF hb fun H _ hS => law_sp (hm ns hlen) hS
end Z
namespace Z
open PySem PySem.Spec PyProof.Rows L2
theorem bnd {α β : Type} {m : Option α} {k : α → Option β} {b : β} (h : m.bind k = some b) : ∃ a, m = some a ∧ k a = some b := by
  cases m with
  | none => cases h
  | some a => exact ⟨a, rfl, h⟩
theorem ifT {α : Type} {c : Bool} {a b : Option α} {r : α} (h : (if c = true then a else b) = some r) (hc : c = true) : a = some r := by
  rw [if_pos hc] at h
  exact h
theorem ifF {α : Type} {c : Bool} {a b : Option α} {r : α} (h : (if c = true then a else b) = some r) (hc : c = false) : b = some r := by
  rw [if_neg (by rw [hc]; exact Bool.false_ne_true)] at h
  exact h
theorem som {α : Type} {a b : α} (h : some a = some b) : a = b := Option.some.inj h
/-- the ends of range(..) in bounds -/
def rngO (a b : Int) : Option (List Int) := if -(2 ^ 62) ≤ a ∧ a < 2 ^ 62 ∧ -(2 ^ 62) ≤ b ∧ b < 2 ^ 62 then some (range' a b) else none
/-- a list may grow by so many -/
def appO {α : Type} (xs : List α) (x : α) : Option (List α) := if xs.length < sizeLine then some (xs ++ [x]) else none
def popO {α : Type} (xs : List α) : Option (α × List α) := match xs.getLast? with
  | some x => some (x, xs.dropLast)
  | none => none
def setO {α : Type} (xs : List α) (i : Int) (x : α) : Option (List α) := (ixN xs.length i).bind fun m => some (xs.set m x)
abbrev eL {α : Type} (e : α → PyData) : List α → PyData := fun xs => .list (xs.map e)
abbrev eT {α : Type} (e : α → PyData) : List α → PyData := fun xs => .tuple (xs.map e)
abbrev eP {α β : Type} (e : α → PyData) (f : β → PyData) : α × β → PyData := fun x => .tuple [e x.1, f x.2]
structure Tri (α β γ : Type) where
  a : α
  b : β
  c : γ
  deriving DecidableEq
abbrev eP3 {α β γ : Type} (e : α → PyData) (f : β → PyData) (g : γ → PyData) : Tri α β γ → PyData := fun x => .tuple [e x.a, f x.b, g x.c]
abbrev eO {α : Type} (e : α → PyData) : Option α → PyData := fun
  | none => .none
  | some a => e a
section
variable {X : Cx} {es es' : List Slot} {os os1 os2 : Os} {F0 : Hp} {rest : List Stmt} {D : Ends} {N V G W : List Str} {k i vi gi : Nat} {x : Str} {p pos : Pos} {e e2 a b : Expr} {φ : VP} {n : Ent} {α : Type}
theorem At.weak {σ : L2.St} {H : Hp} (h : At F0 es os σ H) (w : Wk es es') : At F0 es' os σ H := let ⟨F, s, o, l⟩ := h; ⟨F, s, o, l.weak w⟩
theorem At.perm {σ : L2.St} {H : Hp} (h : At F0 es os σ H) (w : os.Perm os1) : At F0 es os1 σ H := let ⟨F, s, o, l⟩ := h; ⟨F, s, o.perm w, l⟩
theorem At.drop {σ : L2.St} {H : Hp} {q : Addr × Ent} (h : At F0 es (q :: os) σ H) : At F0 es os σ H := let ⟨F, s, o, l⟩ := h; ⟨F, s, o.drop, l⟩
theorem EX.weak (h : EX X es' os e φ os1) (w : Wk es es') : EX X es os e φ os1 := fun F σ H Q ow sl q => h F σ H Q ow (sl.weak w) q
theorem EN.weak (h : EN X es' os e n os1) (w : Wk es es') : EN X es os e n os1 := fun F σ H Q ow sl q => h F σ H Q ow (sl.weak w) q
theorem EN.perm (h : EN X es os e n os1) (k : os1.Perm os2) : EN X es os e n os2 := fun F σ H Q ow sl q => h F σ H Q ow sl fun F' H' v e o => q F' H' v e (o.perm (k.cons _))
/-- an own list at the slot i is data from now on -/
theorem sx_frz {j : Nat} {q : Addr} {ds : List PyData} (hj : os[j]? = some (q, ol ds)) (hi : es[i]? = some (sl (own q))) (h : SX X (es.set i (sl (dat (.list ds)))) (os.eraseIdx j) F0 rest D) : SX X es os F0 rest D := fun F σ H s ow sl => by
  obtain ⟨u, hu, ⟨vs, rfl, hv⟩, e1, o1⟩ := (ow.perm (perm_at hj)).freezeU uni_ol
  have hv := dqall_mono e1 _ _ hv
  obtain ⟨v, ev, cv⟩ := sl.val hi
  obtain rfl : v = .ref q := cv.now
  have sl2 := (sl.mono e1).put (i := i) (v := .ref q) (φ := dat (.list ds)) (cl_dat (.lst upd_same hv))
  have e2 : σ.set i (some (.ref q)) = σ := by
    refine List.ext_getElem? fun m => ?_
    by_cases hm : i = m
    · subst hm
      rw [List.getElem?_set_self (List.getElem?_eq_some_iff.mp ev).1, ev]
    · rw [List.getElem?_set_ne hm]
  rw [e2] at sl2
  exact h _ σ H (s.trans e1) o1 sl2
theorem ix_rng1 {tg : Expr} {b : Int} {xs : List Int} (B : Bd X N W G k) (hj : G[gi]? = some "range") (hm : X.mg "range" = none) (hr : rngO 0 b = some xs) (ha : EX X es os e (dat (.int b)) os1) (hs : starEach [e] X.env = [(false, eval e X.env)] := by rfl) :
    IX X tg es os (.Call (.Name "range" p) [e] [] pos) xs (fun x => dat (.int x)) anyOs os1 := by
  unfold rngO at hr
  split at hr
  · rename_i h
    cases hr
    exact ix_range1 B hj hm h.2.2 ha hs
  · cases hr
theorem ix_rng2 {tg : Expr} {a b : Int} {xs : List Int} (B : Bd X N W G k) (hj : G[gi]? = some "range") (hm : X.mg "range" = none) (hr : rngO a b = some xs) (ha : EX X es os e (dat (.int a)) os1) (hb : EX X es os1 e2 (dat (.int b)) os2)
    (hs : starEach [e, e2] X.env = [(false, eval e X.env), (false, eval e2 X.env)] := by rfl) (hs2 : starEach [e2] X.env = [(false, eval e2 X.env)] := by rfl) :
    IX X tg es os (.Call (.Name "range" p) [e, e2] [] pos) xs (fun x => dat (.int x)) anyOs os2 := by
  unfold rngO at hr
  split at hr
  · rename_i h
    cases hr
    exact ix_range2 B hj hm h ha hb hs hs2
  · cases hr
/-- xs.append(e) of an own list -/
theorem ex_app {β : Type} {apos cpos : Pos} {q : Addr} {enc : β → PyData} {xs xs0 ys : List β} {y : β} {j : Nat} (ha : appO xs y = some ys) (ho : EX X es os a (own q) os) (h0 : os[j]? = some (q, ol (xs0.map enc))) (he : EX X es os e (dat (enc y)) os1) (hj : os1[j]? = some (q, ol (xs.map enc)))
    (hbase : attributeBase a "append" X.env (eval a X.env) = eval a X.env := by rfl) (hline : (apos.endLine == cpos.line) = true := by rfl) (hs : starEach [e] X.env = (false, eval e X.env) :: starEach [] X.env := by rfl)
    (hfew : ((backTo cpos (starEach [e] X.env)).all (fun x => !x.1) && (backToKw cpos (keywordEach [] X.env)).all (fun x => x.1.isSome) && decide ([e].length + ([] : List Keyword).length + (if ([] : List Keyword).isEmpty then 0 else 1) < 30)) = true := by rfl)
    (hplain : (backTo cpos (starEach [] X.env)).any (·.1) = false := by rfl) : EX X es os (.Call (.Attribute a "append" apos) [e] [] cpos) (dat .none) (os1.set j (q, ol (ys.map enc))) := by
  unfold appO at ha
  split at ha
  · rename_i h
    cases ha
    rw [List.map_append]
    exact ex_append ho he h0 hj (by rw [List.length_map]; exact h) hbase hline hs hfew hplain
  · cases ha
theorem ex_popO {β : Type} {apos cpos : Pos} {q : Addr} {enc : β → PyData} {xs : List β} {r : β × List β} {j : Nat} (hr : popO xs = some r) (ho : EX X es os a (own q) os) (hj : os[j]? = some (q, ol (xs.map enc)))
    (hbase : attributeBase a "pop" X.env (eval a X.env) = eval a X.env := by rfl) (hline : (apos.endLine == cpos.line) = true := by rfl) : EX X es os (.Call (.Attribute a "pop" apos) [] [] cpos) (dat (enc r.1)) (os.set j (q, ol (r.2.map enc))) := by
  unfold popO at hr
  split at hr
  · rename_i z hz
    cases hr
    have e : (xs.map enc).getLast? = some (enc z) := by rw [List.getLast?_map, hz]; rfl
    have h := ex_pop ho hj e hbase hline
    rw [← List.map_dropLast] at h
    exact h
  · cases hr
theorem sx_setO {β : Type} {tpos : Pos} {q : Addr} {enc : β → PyData} {xs ys : List β} {y : β} {j : Nat} {z : Int} (hy : setO xs z y = some ys) (he : EX X es os e (dat (enc y)) os1) (ho : EX X es os1 a (own q) os1) (hb : EX X es os1 b (dat (.int z)) os2) (hj : os2[j]? = some (q, ol (xs.map enc))) (h : SX X es (os2.set j (q, ol (ys.map enc))) F0 rest D)
    (hs : swapsWithSole [.Subscript a b tpos] e pos.line X.env = pure false := by rfl) (hw : swappedStores [.Subscript a b tpos] e X.env = pure none := by rfl) (h1 : (assignEach [.Subscript a b tpos] X.env).map (·.2) = [assign (.Subscript a b tpos) X.env] := by rfl)
    (hsub : ∀ v, assign (.Subscript a b tpos) X.env v = (do
      let ov ← holding [v] (eval a X.env)
      let iv ← holding [v, ov] (eval b X.env)
      standAt tpos
      holding [v, ov, iv] (setItem ov iv v)
      release [v, ov, iv] []) := by intro _; rfl) : SX X es os F0 (.Assign [.Subscript a b tpos] e pos :: rest) D := by
  obtain ⟨m, hm, h2⟩ := bnd hy
  cases h2
  rw [List.map_set] at h
  exact sx_setL he ho hb hj (by rw [List.length_map]; exact hm) h hs hw h1 hsub
theorem ex_idxL {β : Type} {enc : β → PyData} {xs : List β} {y : β} {z : Int} (hk : idx xs z = some y) (hr : RdL X φ os2 (xs.map enc)) (ha : EX X es os a φ os1) (hb : EX X es os1 b (dat (.int z)) os2) (hp : PlainIx b := by exact fun _ _ => rfl) : EX X es os (.Subscript a b pos) (dat (enc y)) os2 := ex_ixL hr (atI_map enc hk) ha hb hp
theorem ex_idxT {β : Type} {enc : β → PyData} {xs : List β} {y : β} {z : Int} (hk : idx xs z = some y) (hr : RdT φ (xs.map enc)) (ha : EX X es os a φ os1) (hb : EX X es os1 b (dat (.int z)) os2) (hp : PlainIx b := by exact fun _ _ => rfl) : EX X es os (.Subscript a b pos) (dat (enc y)) os2 := ex_ixT hr (atI_map enc hk) ha hb hp
/-- a literal list or tuple of one kind is a map -/
theorem EN.list {ds ds' : List PyData} (h : EN X es os e (ol ds) os1) (k : ds = ds') : EN X es os e (ol ds') os1 := k ▸ h
theorem EX.to {d d' : PyData} (h : EX X es os e (dat d) os1) (k : d = d') : EX X es os e (dat d') os1 := k ▸ h
theorem TX.to {t t' : Bool} (h : TX X es os e t os1) (k : t = t') : TX X es os e t' os1 := k ▸ h
end
/-- two lists of data are equal exactly if they are alike -/
def EqvOk {α : Type} [DecidableEq α] (e : α → PyData) : Prop := ∀ a b, PyData.eqv (e a) (e b) = decide (a = b)
theorem eqv_int : EqvOk PyData.int := fun a b => by
  simp only [PyData.eqv]
  exact Bool.beq_eq_decide_eq a b
theorem eqvAll_map {α : Type} [DecidableEq α] {e : α → PyData} (h : EqvOk e) : ∀ xs ys : List α, PyData.eqvAll (xs.map e) (ys.map e) = decide (xs = ys)
  | [], [] => by simp [PyData.eqvAll]
  | [], y :: ys => by simp [PyData.eqvAll]
  | x :: xs, [] => by simp [PyData.eqvAll]
  | x :: xs, y :: ys => by
    simp only [List.map_cons, PyData.eqvAll, h x y, eqvAll_map h xs ys, List.cons.injEq, Bool.decide_and]
theorem eqv_list {α : Type} [DecidableEq α] {e : α → PyData} (h : EqvOk e) : EqvOk (eL e) := fun a b => by
  simp only [PyData.eqv]
  exact eqvAll_map h a b
theorem eqv_tup {α : Type} [DecidableEq α] {e : α → PyData} (h : EqvOk e) : EqvOk (eT e) := fun a b => by
  simp only [PyData.eqv]
  exact eqvAll_map h a b
/-- data of bounded depth without dicts -/
structure ShOk {α : Type} (e : α → PyData) (n : Nat) : Prop where
  lay : ∀ a, (e a).canLay0 = true
  dep : ∀ a, (e a).depth ≤ n
theorem ShOk.shaped {α : Type} {e : α → PyData} {n : Nat} (h : ShOk e n) (hn : n ≤ 64) (a : α) : SeqAt.shaped (e a) = true := by
  unfold SeqAt.shaped
  rw [h.lay a, Bool.true_and]
  exact decide_eq_true (Nat.le_trans (h.dep a) hn)
theorem sh_int : ShOk PyData.int 0 := ⟨fun _ => by simp only [PyData.canLay0], fun _ => by simp only [PyData.depth]; exact Nat.le_refl 0⟩
theorem layAll_map {α : Type} {e : α → PyData} {n : Nat} (h : ShOk e n) : ∀ xs : List α, PyData.canLayAll0 (xs.map e) = true ∧ PyData.depthAll (xs.map e) ≤ n
  | [] => by
    simp only [List.map_nil, PyData.canLayAll0, PyData.depthAll]
    exact ⟨trivial, Nat.zero_le _⟩
  | x :: xs => by
    obtain ⟨a, b⟩ := layAll_map h xs
    simp only [List.map_cons, PyData.canLayAll0, PyData.depthAll, h.lay x, a]
    exact ⟨rfl, Nat.max_le.mpr ⟨h.dep x, b⟩⟩
theorem sh_list {α : Type} {e : α → PyData} {n : Nat} (h : ShOk e n) : ShOk (eL e) (n + 1) :=
  ⟨fun xs => by simp only [PyData.canLay0]; exact (layAll_map h xs).1, fun xs => by simp only [PyData.depth]; exact Nat.succ_le_succ (layAll_map h xs).2⟩
theorem sh_tup {α : Type} {e : α → PyData} {n : Nat} (h : ShOk e n) : ShOk (eT e) (n + 1) :=
  ⟨fun xs => by simp only [PyData.canLay0]; exact (layAll_map h xs).1, fun xs => by simp only [PyData.depth]; exact Nat.succ_le_succ (layAll_map h xs).2⟩
end Z
namespace Z
open PySem PySem.Spec PyProof.Rows L2
section
variable {X : Cx} {es es' : List Slot} {os os1 os2 : Os} {F0 : Hp} {rest : List Stmt} {D : Ends} {N V G W : List Str} {k i j l vi gi : Nat} {x y z : Str} {p pos : Pos} {e e2 a b c : Expr} {φ : VP} {n : Ent} {α : Type}
def AQ (X : Cx) (es : List Slot) (as : List Expr) (os : Os) (Rel : List VP → Os → Prop) : Prop := ∀ F σ H Q, Ow F os H → Sl F es σ → (∀ F' H' vs φs os', Same F F' → Rel φs os' → Ow F' os' H' → ClA φs F' vs → Q vs H') → WA X as σ H Q
theorem aq_nil : AQ X es [] os (fun φs os' => φs = [] ∧ os' = os) := fun F σ H Q ow sl q => wa_of pa_nil (q F H [] [] os (Same.refl F) ⟨rfl, rfl⟩ ow rfl)
theorem aq_x {as : List Expr} {Rel : List VP → Os → Prop} (ha : EX X es os a φ os1) (hr : AQ X es as os1 Rel) (hs : starEach (a :: as) X.env = (false, eval a X.env) :: starEach as X.env := by rfl) : AQ X es (a :: as) os (fun φs os' => ∃ r, φs = φ :: r ∧ Rel r os') := fun F σ H Q ow sl q =>
  wa_of (pa_cons pe_u pa_u hs) (ha F σ H _ ow sl fun F1 H1 v e1 o1 c1 => hr F1 σ H1 _ o1 (sl.mono e1) fun F2 H2 vs φs os' e2 rel o2 c2 => q F2 H2 _ _ os' (e1.trans e2) ⟨φs, rfl, rel⟩ o2 ⟨v, vs, rfl, c1.mono e2, c2⟩)
theorem aq_n {as : List Expr} {Rel : Addr → List VP → Os → Prop} (ha : EN X es os a n os1) (hr : ∀ p, AQ X es as ((p, n) :: os1) (Rel p)) (hs : starEach (a :: as) X.env = (false, eval a X.env) :: starEach as X.env := by rfl) : AQ X es (a :: as) os (fun φs os' => ∃ p r, φs = own p :: r ∧ Rel p r os') := fun F σ H Q ow sl q =>
  wa_of (pa_cons pe_u pa_u hs) (ha F σ H _ ow sl fun F1 H1 p e1 o1 => hr p F1 σ H1 _ o1 (sl.mono e1) fun F2 H2 vs φs os' e2 rel o2 c2 => q F2 H2 _ _ os' (e1.trans e2) ⟨p, φs, rfl, rel⟩ o2 ⟨_, vs, rfl, cl_own, c2⟩)
/-- the names are stored from the right -/
def swpB (sc : Scope) (ts : List Expr) (v : Expr) (xs : List Str) : Prop := ∀ env : Env, env.scope = sc → swappedStores ts v env = pure (some xs)
def nswB (sc : Scope) (ts : List Expr) (v : Expr) : Prop := ∀ env : Env, env.scope = sc → swappedStores ts v env = pure none
def lclB (sc : Scope) (x : Str) : Bool := match sc.names.lookup x with
  | some .local => true
  | _ => false
theorem lcl_of {sc : Scope} {x : Str} (h : lclB sc x = true) : sc.names.lookup x = some .local := by
  unfold lclB at h
  split at h
  · assumption
  · cases h
theorem sx_par2 {px py pt p2 : Pos} {kt k2 : Nat} {Rel : List VP → Os → Prop} (sc : Scope) (hsc : X.env.scope = sc) (B : Bd X N W G k) (hi : N[i]? = some x) (hj : N[j]? = some y) (hij : i ≠ j) (hx : lclB sc x = true) (hy : lclB sc y = true) (hw : swpB sc [.Tuple [.Name x px, .Name y py] kt pt] (.Tuple [a, b] k2 p2) [x, y])
    (ha : AQ X es [a, b] os Rel) (h : ∀ φ ψ os', Rel [φ, ψ] os' → SX X ((es.set i (sl φ)).set j (sl ψ)) os' F0 rest D) (hR : ∀ φs os', Rel φs os' → ∃ φ ψ, φs = [φ, ψ])
    (hs : swapsWithSole [.Tuple [.Name x px, .Name y py] kt pt] (.Tuple [a, b] k2 p2) pos.line X.env = pure false := by rfl) : SX X es os F0 (.Assign [.Tuple [.Name x px, .Name y py] kt pt] (.Tuple [a, b] k2 p2) pos :: rest) D := fun F σ H s ow sl =>
  wps_cons (ws_of (ps_par B.calm (B.hN ▸ B.nd) (B.hN ▸ hi) (B.hN ▸ hj) hij (by rw [hsc]; exact lcl_of hx) (by rw [hsc]; exact lcl_of hy) pa_u (hw _ hsc) hs) (ha F σ H _ ow sl fun F1 H1 vs φs os' e1 rel o1 c1 => by
    obtain ⟨φ, ψ, rfl⟩ := hR φs os' rel
    obtain ⟨v, u, rfl, h1, h2⟩ := cla2 c1
    exact ⟨v, u, rfl, h φ ψ os' rel F1 _ H1 (s.trans e1) o1 (((sl.mono e1).put h1).put h2)⟩))
theorem cla3 {φ ψ χ : VP} {F : Hp} {vs : List L2.V} (h : ClA [φ, ψ, χ] F vs) : ∃ v u w, vs = [v, u, w] ∧ Cl φ F v ∧ Cl ψ F u ∧ Cl χ F w := by
  obtain ⟨v, r, e, h1, h2⟩ := h
  obtain ⟨u, w, e2, h3, h4⟩ := cla2 h2
  subst e2
  exact ⟨v, u, w, e, h1, h3, h4⟩
theorem sx_par3 {px py pz pt p2 : Pos} {kt k2 : Nat} {Rel : List VP → Os → Prop} (sc : Scope) (hsc : X.env.scope = sc) (B : Bd X N W G k) (hi : N[i]? = some x) (hj : N[j]? = some y) (hl : N[l]? = some z) (hij : i ≠ j) (hil : i ≠ l) (hjl : j ≠ l) (hx : lclB sc x = true) (hy : lclB sc y = true) (hz : lclB sc z = true)
    (hw : swpB sc [.Tuple [.Name x px, .Name y py, .Name z pz] kt pt] (.Tuple [a, b, c] k2 p2) [x, y, z])
    (ha : AQ X es [a, b, c] os Rel) (h : ∀ φ ψ χ os', Rel [φ, ψ, χ] os' → SX X (((es.set i (sl φ)).set j (sl ψ)).set l (sl χ)) os' F0 rest D) (hR : ∀ φs os', Rel φs os' → ∃ φ ψ χ, φs = [φ, ψ, χ])
    (hs : swapsWithSole [.Tuple [.Name x px, .Name y py, .Name z pz] kt pt] (.Tuple [a, b, c] k2 p2) pos.line X.env = pure false := by rfl) : SX X es os F0 (.Assign [.Tuple [.Name x px, .Name y py, .Name z pz] kt pt] (.Tuple [a, b, c] k2 p2) pos :: rest) D := fun F σ H s ow sl =>
  wps_cons (ws_of (ps_par3 B.calm (B.hN ▸ B.nd) (B.hN ▸ hi) (B.hN ▸ hj) (B.hN ▸ hl) hij hil hjl (by rw [hsc]; exact lcl_of hx) (by rw [hsc]; exact lcl_of hy) (by rw [hsc]; exact lcl_of hz) pa_u (hw _ hsc) hs) (ha F σ H _ ow sl fun F1 H1 vs φs os' e1 rel o1 c1 => by
    obtain ⟨φ, ψ, χ, rfl⟩ := hR φs os' rel
    obtain ⟨v, u, w, rfl, h1, h2, h3⟩ := cla3 c1
    exact ⟨v, u, w, rfl, h φ ψ χ os' rel F1 _ H1 (s.trans e1) o1 ((((sl.mono e1).put h1).put h2).put h3)⟩))
/-- a, b = (e1, e2): the tuple is made, then taken apart -/
theorem sx_mk2 {t1 t2 pt p2 : Pos} {kt k2 : Nat} {Rel : List VP → Os → Prop} (sc : Scope) (hsc : X.env.scope = sc) (B : Bd X N W G k) (T : Bt X V) (hi : N[i]? = some x) (hj : N[j]? = some y) (hx : V[vi]? = some x) (hy : V[gi]? = some y) (hw : nswB sc [.Tuple [.Name x t1, .Name y t2] kt pt] (.Tuple [a, b] k2 p2))
    (ha : AQ X es [a, b] os Rel) (h : ∀ φ ψ os', Rel [φ, ψ] os' → SX X ((es.set i (sl φ)).set j (sl ψ)) os' F0 rest D) (hR : ∀ φs os', Rel φs os' → ∃ φ ψ, φs = [φ, ψ])
    (hs : swapsWithSole [.Tuple [.Name x t1, .Name y t2] kt pt] (.Tuple [a, b] k2 p2) pos.line X.env = pure false := by rfl) (h1 : (assignEach [.Tuple [.Name x t1, .Name y t2] kt pt] X.env).map (·.2) = [assign (.Tuple [.Name x t1, .Name y t2] kt pt) X.env] := by rfl) :
    SX X es os F0 (.Assign [.Tuple [.Name x t1, .Name y t2] kt pt] (.Tuple [a, b] k2 p2) pos :: rest) D := fun F σ H s ow sl =>
  wps_cons (ws_of (ps_asg (pe_tup pa_u) (pg_tup (n := 2) B.calm (pgs_cons (pg_name (B.hN ▸ B.nd) (B.hN ▸ hi) (T.loc x (List.mem_of_getElem? hx)) (.inl (T.fn x))) (pgs_cons (pg_name (B.hN ▸ B.nd) (B.hN ▸ hj) (T.loc y (List.mem_of_getElem? hy)) (.inl (T.fn y))) pgs_nil)) rfl rfl) hs (hw _ hsc) h1) (ha F σ H _ ow sl fun F1 H1 vs φs os' e1 rel o1 c1 => by
    obtain ⟨φ, ψ, rfl⟩ := hR φs os' rel
    obtain ⟨v, u, rfl, h1, h2⟩ := cla2 c1
    refine ⟨by show 2 ≤ sizeLine; decide, fun p hp => ?_⟩
    refine ⟨p, _, rfl, .of upd_same, rfl, _, _, rfl, _, _, rfl, rfl, ?_⟩
    exact h φ ψ os' rel F1 _ _ (s.trans e1) (o1.grow (same_upd hp)) (((sl.mono e1).put h1).put h2)))
theorem sx_mk3 {m : Nat} {t1 t2 t3 pt p2 : Pos} {kt k2 : Nat} {Rel : List VP → Os → Prop} (sc : Scope) (hsc : X.env.scope = sc) (B : Bd X N W G k) (T : Bt X V) (hi : N[i]? = some x) (hj : N[j]? = some y) (hl : N[l]? = some z) (hx : V[vi]? = some x) (hy : V[gi]? = some y) (hz : V[m]? = some z) (hw : nswB sc [.Tuple [.Name x t1, .Name y t2, .Name z t3] kt pt] (.Tuple [a, b, c] k2 p2))
    (ha : AQ X es [a, b, c] os Rel) (h : ∀ φ ψ χ os', Rel [φ, ψ, χ] os' → SX X (((es.set i (sl φ)).set j (sl ψ)).set l (sl χ)) os' F0 rest D) (hR : ∀ φs os', Rel φs os' → ∃ φ ψ χ, φs = [φ, ψ, χ])
    (hs : swapsWithSole [.Tuple [.Name x t1, .Name y t2, .Name z t3] kt pt] (.Tuple [a, b, c] k2 p2) pos.line X.env = pure false := by rfl) (h1 : (assignEach [.Tuple [.Name x t1, .Name y t2, .Name z t3] kt pt] X.env).map (·.2) = [assign (.Tuple [.Name x t1, .Name y t2, .Name z t3] kt pt) X.env] := by rfl) :
    SX X es os F0 (.Assign [.Tuple [.Name x t1, .Name y t2, .Name z t3] kt pt] (.Tuple [a, b, c] k2 p2) pos :: rest) D := fun F σ H s ow sl =>
  wps_cons (ws_of (ps_asg (pe_tup pa_u) (pg_tup (n := 3) B.calm (pgs_cons (pg_name (B.hN ▸ B.nd) (B.hN ▸ hi) (T.loc x (List.mem_of_getElem? hx)) (.inl (T.fn x))) (pgs_cons (pg_name (B.hN ▸ B.nd) (B.hN ▸ hj) (T.loc y (List.mem_of_getElem? hy)) (.inl (T.fn y))) (pgs_cons (pg_name (B.hN ▸ B.nd) (B.hN ▸ hl) (T.loc z (List.mem_of_getElem? hz)) (.inl (T.fn z))) pgs_nil))) rfl rfl) hs (hw _ hsc) h1) (ha F σ H _ ow sl fun F1 H1 vs φs os' e1 rel o1 c1 => by
    obtain ⟨φ, ψ, χ, rfl⟩ := hR φs os' rel
    obtain ⟨v, u, w, rfl, h1, h2, h3⟩ := cla3 c1
    refine ⟨by show 3 ≤ sizeLine; decide, fun p hp => ?_⟩
    refine ⟨p, _, rfl, .of upd_same, rfl, _, _, rfl, _, _, rfl, _, _, rfl, rfl, ?_⟩
    exact h φ ψ χ os' rel F1 _ _ (s.trans e1) (o1.grow (same_upd hp)) ((((sl.mono e1).put h1).put h2).put h3)))
theorem ex_tyname {T : String} (B : Bd X N W G k) (hj : G[gi]? = some x) (hm : X.mg x = none) (hv : bootBuiltins x = some (.type T)) : EX X es os (.Name x pos) (fun _ v => v = .ty T) os := fun F σ H Q ow sl q =>
  let ⟨u, v⟩ := B.gl x (List.mem_of_getElem? hj)
  we_of (pe_bltn (v := .ty T) u hm hv rfl (dun_n v) (dun_d v)) (q F H _ (Same.refl F) ow fun _ _ => rfl)
def tyName : PyData → String
  | .none => "NoneType"
  | .bool _ => "bool"
  | .int _ => "int"
  | .str _ => "str"
  | .list _ => "list"
  | .tuple _ => "tuple"
  | .dict _ => "dict"
theorem rc_isi {d : PyData} {T : String} {r : Bool} (h : kitB (tyName d) T = some r) (hT : ∀ ps, d ≠ .dict ((.none, .none) :: ps) := by intro _ z; first | cases z | assumption) : RCX (rIsi X.K) [dat d, fun _ v => v = .ty T] os (dat (.bool r)) os := fun F H vs Q ow c q => by
  obtain ⟨v, u, rfl, h1, h2⟩ := cla2 c
  obtain rfl : u = .ty T := h2.now
  have fin := q F H _ (Same.refl F) ow (cl_dat (.bl r))
  have hd := h1.now
  have key : ∀ t : String, tyName d = t → TyX X.K H v (.type t) → rIsi X.K [v, .ty T] H Q := fun t e k => ⟨v, _, _, _, r, rfl, .ty T, k, kit_ty (e ▸ h), fin⟩
  cases hd with
  | non => exact key _ rfl (.base .non)
  | bl b => exact key _ rfl (.base (.bl b))
  | int i => exact key _ rfl (.base (.int i))
  | str x => exact key _ rfl (.base (.str x))
  | lst k1 k2 => exact key _ rfl (.base (.lst (ow.ex _ _ k1)))
  | tup k1 k2 => exact key _ rfl (.base (.tup (ow.ex _ _ k1)))
  | dctK k1 k2 k3 => exact key _ rfl (.fDict (ow.ex _ _ k1))
  | dctT k1 k2 k3 => exact (hT _ rfl).elim
def catO {α : Type} (xs ys : List α) : Option (List α) := if xs.length + ys.length ≤ sizeLine then some (xs ++ ys) else none
theorem dat_list {F H : Hp} {v : L2.V} {ds : List PyData} (ow : Ow F os H) (c : Cl (dat (.list ds)) F v) : ∃ p vs, v = .ref p ∧ H p = some (.lst vs) ∧ DqAll F vs ds := by
  have h := c.now
  cases h with
  | lst h1 h2 => exact ⟨_, _, rfl, ow.ex _ _ h1, h2⟩
theorem en_cat {α : Type} {enc : α → PyData} {xs ys zs : List α} (h : catO xs ys = some zs) (ha : EX X es os a (dat (.list (xs.map enc))) os1) (hb : EX X es os1 b (dat (.list (ys.map enc))) os2) : EN X es os (.BinOp a .Add b pos) (ol (zs.map enc)) os2 := fun F σ H Q ow sl q => by
  unfold catO at h
  split at h
  · rename_i hl
    cases h
    refine we_of (pe_op op_cat pe_u pe_u) (ha F σ H _ ow sl fun F1 H1 v e1 o1 c1 => hb F1 σ H1 _ o1 (sl.mono e1) fun F2 H2 u e2 o2 c2 => ?_)
    obtain ⟨p, vs, rfl, h1, h2⟩ := dat_list o2 (c1.mono e2)
    obtain ⟨r, us, rfl, h3, h4⟩ := dat_list o2 c2
    refine ⟨p, r, vs, us, rfl, rfl, h1, h3, by rw [dqall_len h2, dqall_len h4, List.length_map, List.length_map]; exact hl, fun m hm => ?_⟩
    refine q F2 _ m (e1.trans e2) (o2.new hm fun G g => ⟨_, rfl, ?_⟩)
    rw [List.map_append]
    exact dqall_mono g _ _ (dqall_app h2 h4)
  · cases h
theorem ex_catT {α : Type} {enc : α → PyData} {xs ys zs : List α} (h : catO xs ys = some zs) (ha : EX X es os a (dat (.tuple (xs.map enc))) os1) (hb : EX X es os1 b (dat (.tuple (ys.map enc))) os2) : EX X es os (.BinOp a .Add b pos) (dat (.tuple (zs.map enc))) os2 := fun F σ H Q ow sl q => by
  unfold catO at h
  split at h
  · rename_i hl
    cases h
    refine we_of (pe_op op_catA pe_u pe_u) (ha F σ H _ ow sl fun F1 H1 v e1 o1 c1 => hb F1 σ H1 _ o1 (sl.mono e1) fun F2 H2 u e2 o2 c2 => ?_)
    obtain ⟨p, vs, rfl, h1, h2⟩ := rdt_dat F2 v (c1.mono e2)
    obtain ⟨r, us, rfl, h3, h4⟩ := rdt_dat F2 u c2
    have e := e1.trans e2
    have hd := dqall_app h2 h4
    rw [← List.map_append] at hd
    refine ⟨p, r, vs, us, rfl, rfl, .of (o2.ex _ _ h1), .of (o2.ex _ _ h3), by rw [dqall_len h2, dqall_len h4, List.length_map, List.length_map]; exact hl, fun h0 => ?_, fun h0 h5 => ?_, fun h0 h5 m hm => ?_⟩
    · refine q F2 H2 _ e o2 (cl_dat (.tup h3 ?_))
      rw [h0, List.nil_append] at hd
      exact hd
    · refine q F2 H2 _ e o2 (cl_dat (.tup h1 ?_))
      rw [h5, List.append_nil] at hd
      exact hd
    · have fp := o2.ex.free hm
      exact q _ _ _ (e.trans (same_upd fp)) (o2.frozen hm) (cl_dat (.tup upd_same (dqall_mono (same_upd fp) _ _ hd)))
  · cases h
/-- xs[lo:hi] -/
def cut {α : Type} (xs : List α) (lo hi : Option Int) : List α := (xs.drop (HT.sIx xs.length 0 lo)).take (HT.sIx xs.length xs.length hi - HT.sIx xs.length 0 lo)
theorem dqall_cut {F : Hp} {ds : List PyData} {vs : List L2.V} (h : DqAll F vs ds) (lo hi : Option Int) : DqAll F (cutV vs lo hi) (cut ds lo hi) := by
  unfold cutV cut
  rw [dqall_len h]
  exact dqall_take _ (dqall_drop _ h)
theorem cut_map {α β : Type} (f : α → β) (xs : List α) (lo hi : Option Int) : cut (xs.map f) lo hi = (cut xs lo hi).map f := by
  unfold cut
  rw [List.length_map, List.map_take, List.map_drop]
def WO (X : Cx) : Option Expr → TO
  | none => tNoPart
  | some e => tPart (WE X e)
theorem po_u : ∀ e : Option Expr, PO X e (WO X e)
  | none => po_none
  | some e => po_some pe_u
/-- an end of a slice -/
def PX (X : Cx) (es : List Slot) (os : Os) (e : Option Expr) (o : Option Int) (os' : Os) : Prop := ∀ F σ H Q, Ow F os H → Sl F es σ → (∀ F' H', Same F F' → Ow F' os' H' → Q o H') → WO X e σ H Q
theorem px_none : PX X es os none none os := fun F σ H Q ow sl q => q F H (Same.refl F) ow
theorem px_some {i : Int} (h : EX X es os e (dat (.int i)) os1) : PX X es os (some e) (some i) os1 := fun F σ H Q ow sl q => h F σ H _ ow sl fun F1 H1 v e1 o1 c1 => ⟨i, clv_int c1, q F1 H1 e1 o1⟩
theorem en_cut {α : Type} {enc : α → PyData} {xs : List α} {lo hi : Option Expr} {l u : Option Int} {os3 : Os} {p2 : Pos} (hr : RdL X φ os3 (xs.map enc)) (ha : EX X es os a φ os1) (hl : PX X es os1 lo l os2) (hu : PX X es os2 hi u os3) : EN X es os (.Subscript a (.Slice lo hi none p2) pos) (ol ((cut xs l u).map enc)) os3 := fun F σ H Q ow sl q =>
  we_of (pe_slice sl_list pe_u (po_u lo) (po_u hi)) (ha F σ H _ ow sl fun F1 H1 v e1 o1 c1 => hl F1 σ H1 _ o1 (sl.mono e1) fun F2 H2 e2 o2 => hu F2 σ H2 _ o2 (sl.mono (e1.trans e2)) fun F3 H3 e3 o3 => by
    obtain ⟨p, vs, rfl, h1, h2⟩ := hr F3 H3 v o3 ((c1.mono e2).mono e3)
    refine ⟨p, vs, rfl, h1, fun m hm => q F3 _ m ((e1.trans e2).trans e3) (o3.new hm fun G g => ⟨_, rfl, ?_⟩)⟩
    rw [← cut_map]
    exact dqall_mono g _ _ (dqall_cut h2 l u))
theorem ex_cutT {α : Type} {enc : α → PyData} {xs : List α} {lo hi : Option Expr} {l u : Option Int} {os3 : Os} {p2 : Pos} (hr : RdT φ (xs.map enc)) (ha : EX X es os a φ os1) (hl : PX X es os1 lo l os2) (hu : PX X es os2 hi u os3) : EX X es os (.Subscript a (.Slice lo hi none p2) pos) (dat (.tuple ((cut xs l u).map enc))) os3 := fun F σ H Q ow sl q =>
  we_of (pe_slice sl_tupA pe_u (po_u lo) (po_u hi)) (ha F σ H _ ow sl fun F1 H1 v e1 o1 c1 => hl F1 σ H1 _ o1 (sl.mono e1) fun F2 H2 e2 o2 => hu F2 σ H2 _ o2 (sl.mono (e1.trans e2)) fun F3 H3 e3 o3 => by
    obtain ⟨p, vs, rfl, h1, h2⟩ := hr F3 v ((c1.mono e2).mono e3)
    have e := (e1.trans e2).trans e3
    have hd := dqall_cut h2 l u
    rw [cut_map] at hd
    refine ⟨p, vs, rfl, .of (o3.ex _ _ h1), fun hw => ?_, fun hw m hm => ?_⟩
    · refine q F3 H3 _ e o3 (cl_dat (.tup h1 ?_))
      have e4 : cutV vs l u = vs := by
        unfold cutV
        rw [hw.1, hw.2, List.drop_zero, Nat.sub_zero, List.take_length]
      rw [e4] at hd
      exact hd
    · have fp := o3.ex.free hm
      exact q _ _ _ (e.trans (same_upd fp)) (o3.frozen hm) (cl_dat (.tup upd_same (dqall_mono (same_upd fp) _ _ hd))))
def lcT {α β : Type} (f : α → β) (xs : List α) : Option (List β) := if xs.length < sizeLine then some (xs.map f) else none
def lcF {α β : Type} (c : α → Bool) (f : α → β) (xs : List α) : Option (List β) := if xs.length < sizeLine then some ((xs.filter c).map f) else none
def mapO {α β : Type} (f : α → Option β) : List α → Option (List β)
  | [] => some []
  | x :: xs => (f x).bind fun y => (mapO f xs).bind fun ys => some (y :: ys)
def lcO {α β : Type} (f : α → Option β) (xs : List α) : Option (List β) := if xs.length < sizeLine then mapO f xs else none
theorem lcS_map {α β : Type} (f : α → β) : ∀ xs : List α, lcS (fun (_ : Unit) x => some (some (f x), ())) xs () = some (xs.map f, ())
  | [] => rfl
  | x :: xs => by
    unfold lcS
    show ((lcS _ xs ()).bind fun u => some ([f x] ++ u.1, u.2)) = _
    rw [lcS_map f xs]
    rfl
theorem lcS_filter {α β : Type} (c : α → Bool) (f : α → β) : ∀ xs : List α, lcS (fun (_ : Unit) x => some (if c x = true then some (f x) else none, ())) xs () = some ((xs.filter c).map f, ())
  | [] => rfl
  | x :: xs => by
    unfold lcS
    show ((lcS _ xs ()).bind fun u => some ((if c x = true then some (f x) else none).toList ++ u.1, u.2)) = _
    rw [lcS_filter c f xs]
    cases h : c x with
    | true =>
      rw [if_pos rfl, List.filter_cons, if_pos h]
      rfl
    | false =>
      rw [if_neg Bool.false_ne_true, List.filter_cons, if_neg (by rw [h]; exact Bool.false_ne_true)]
      rfl
theorem lcS_mapO {α β : Type} (f : α → Option β) : ∀ (xs : List α) (ys : List β), mapO f xs = some ys → lcS (fun (_ : Unit) x => (f x).map fun y => (some y, ())) xs () = some (ys, ())
  | [], ys, h => by
    cases h
    rfl
  | x :: xs, ys, h => by
    unfold mapO at h
    obtain ⟨y, hy, h⟩ := bnd h
    obtain ⟨zs, hz, h⟩ := bnd h
    cases h
    unfold lcS
    rw [hy]
    show ((lcS _ xs ()).bind fun u => some ([y] ++ u.1, u.2)) = _
    rw [lcS_mapO f xs zs hz]
    rfl
theorem lcT_ok {α β : Type} {f : α → β} {xs : List α} {ys : List β} (h : lcT f xs = some ys) : xs.length < sizeLine ∧ lcS (fun (_ : Unit) x => some (some (f x), ())) xs () = some (ys, ()) := by
  unfold lcT at h
  split at h
  · rename_i hl
    cases h
    exact ⟨hl, lcS_map f xs⟩
  · cases h
theorem lcF_ok {α β : Type} {c : α → Bool} {f : α → β} {xs : List α} {ys : List β} (h : lcF c f xs = some ys) : xs.length < sizeLine ∧ lcS (fun (_ : Unit) x => some (if c x = true then some (f x) else none, ())) xs () = some (ys, ()) := by
  unfold lcF at h
  split at h
  · rename_i hl
    cases h
    exact ⟨hl, lcS_filter c f xs⟩
  · cases h
theorem lcO_ok {α β : Type} {f : α → Option β} {xs : List α} {ys : List β} (h : lcO f xs = some ys) : xs.length < sizeLine ∧ lcS (fun (_ : Unit) x => (f x).map fun y => (some y, ())) xs () = some (ys, ()) := by
  unfold lcO at h
  split at h
  · rename_i hl
    exact ⟨hl, lcS_mapO f xs ys h⟩
  · cases h
end
end Z
namespace Z
open PySem PySem.Spec PyProof.Rows L2
abbrev absI (i : Int) : Int := if i < 0 then -i else i
abbrev maxI (i j : Int) : Int := if j > i then j else i
abbrev minI (i j : Int) : Int := if j < i then j else i
theorem fdivO_lit {i j : Int} (h : 0 < j) (h2 : j.natAbs.log2 < 9000) : fdivO i j = some (i / j) := if_pos ⟨h, h2⟩
theorem modO_lit {i j : Int} (h : 0 < j) : modO i j = some (i % j) := if_pos h
theorem and_fix {k l : Bool} (h : k = false → l = false) : (k && l) = l := by
  cases k with
  | true => rfl
  | false => rw [h rfl]; rfl
theorem or_fix {k l : Bool} (h : k = true → l = true) : (k || l) = l := by
  cases k with
  | false => rfl
  | true => rw [h rfl]; rfl
section
variable {X X' : Cx} {es es' : List Slot} {os os1 os2 : Os} {F0 : Hp} {rest : List Stmt} {st : Stmt} {D : Ends} {N V G W : List Str} {k i j l vi gi gj : Nat} {x y z : Str} {p pos : Pos} {e e2 a b c : Expr} {φ ψ : VP} {n : Ent} {α β : Type} {scope : Scope}
theorem sx_join (es' : List Slot) (os' : Os) (h : SX X es' os' F0 rest D) (kk : SX X es' os' F0 rest D → SX X es os F0 (st :: rest) D) : SX X es os F0 (st :: rest) D := kk h
theorem sx_end (h : ∀ F σ H, Same F0 F → Ow F os H → D.nx σ H) : SX X es os F0 [] D := sx_nil fun σ H a => let ⟨F, s, o, _⟩ := a; h F σ H s o
theorem fam_mg {f : Str} {v : Option Value} (h : Fam X scope X') (e : X.mg f = v) : X'.mg f = v := by
  obtain ⟨_, _, _, _, _, rfl⟩ := h
  exact e
theorem fam_cal {f : Str} {s : Stmt} {ps : List Str} {sp : PySem.W.Frag → Sp} {m : Nat} (h : Fam X scope X') (c : Cal X.prog X.w X.K X.mg X.base m f s ps (sp X.K)) : Cal X'.prog X'.w X'.K X'.mg X'.base m f s ps (sp X'.K) := by
  obtain ⟨_, _, _, _, _, rfl⟩ := h
  exact c
theorem fam_scope (h : Fam X scope X') : X'.env.scope = relS scope X.env.scope := by
  obtain ⟨_, _, _, _, _, rfl⟩ := h
  rfl
/-- a stored comprehension -/
theorem sw_ok {elt : Expr} {gs : List Comprehension} {l : Nat} {py : Pos} {env : Env} (hk : (match env.scope.kind with | .function => true | _ => false) = true) (hy : env.scope.names.lookup y = some .local) (hl : (py.line == pos.line) = true)
    (ha : (scope.names.any fun q => q.1 == y && (q.2 == .local || q.2 == .cell)) = false) : swapsWith (.ListComp elt gs scope pos) (some (.Name y py)) l env = pure true := by
  refine sw_true ?_ hy hl ha
  split at hk
  · assumption
  · cases hk
def RdX (X : Cx) (φ : VP) (os : Os) (d : PyData) : Prop := d.hasDict = false → ∀ F H v, Ow F os H → Cl φ F v → Dp X.K H v d
theorem rdx_dat {d : PyData} : RdX X (dat d) os d := fun z F H v ow c => dq_dp _ _ _ z (dq_mono ow.ex _ _ c.now)
theorem rdx_own {q : Addr} {ds : List PyData} (m : Nat) (h : os[m]? = some (q, ol ds)) : RdX X (own q) os (.list ds) := fun z F H v ow c => by
  obtain ⟨_, vs, ho, hv⟩ := (ow.perm (perm_at h)).atL
  obtain rfl : v = .ref q := c.now
  exact .lst (.of ho) (dqall_dp _ _ _ (by simpa [PyData.hasDict] using z) (dqall_mono ow.ex _ _ hv))
theorem r2_eqR {d d' : PyData} {t : Bool} (r1 : RdX X φ os d) (r2 : RdX X ψ os d') (h1 : SeqAt.shaped d = true) (h2 : SeqAt.shaped d' = true) (hk : PyData.eqv d d' = t) : R2X X (rEqD X.K) φ ψ os (dat (.bool t)) := fun F H x y Q ow cx cy q =>
  ⟨d, d', r1 (shaped_lay h1) F H x ow cx, r2 (shaped_lay h2) F H y ow cy, h1, h2, by rw [hk]; exact q F H _ (Same.refl F) ow (cl_dat (.bl _))⟩
theorem r2_neR {d d' : PyData} {t : Bool} (r1 : RdX X φ os d) (r2 : RdX X ψ os d') (h1 : SeqAt.shaped d = true) (h2 : SeqAt.shaped d' = true) (hk : (!PyData.eqv d d') = t) : R2X X (rNeD X.K) φ ψ os (dat (.bool t)) := fun F H x y Q ow cx cy q =>
  ⟨d, d', r1 (shaped_lay h1) F H x ow cx, r2 (shaped_lay h2) F H y ow cy, h1, h2, by rw [hk]; exact q F H _ (Same.refl F) ow (cl_dat (.bl _))⟩
section
variable [DecidableEq α] {e : α → PyData} {m : Nat} {x y : α}
theorem ex_eqR (B : Bd X N W G k) (h : EqvOk e) (s : ShOk e m) (hn : m ≤ 64) (r1 : RdX X φ os2 (e x)) (r2 : RdX X ψ os2 (e y)) (ha : EX X es os a φ os1) (hb : EX X es os1 b ψ os2) : EX X es os (.Compare a [.Eq] [b] pos) (dat (.bool (decide (x = y)))) os2 :=
  ex_cmp (op_eqD B.room.units) (r2_eqR r1 r2 (s.shaped hn x) (s.shaped hn y) (h x y)) (nomark _) ha hb
theorem ex_neR (B : Bd X N W G k) (h : EqvOk e) (s : ShOk e m) (hn : m ≤ 64) (r1 : RdX X φ os2 (e x)) (r2 : RdX X ψ os2 (e y)) (ha : EX X es os a φ os1) (hb : EX X es os1 b ψ os2) : EX X es os (.Compare a [.NotEq] [b] pos) (dat (.bool (!decide (x = y)))) os2 :=
  ex_cmp (op_neD B.room.units) (r2_neR r1 r2 (s.shaped hn x) (s.shaped hn y) (by rw [h x y])) (nomark _) ha hb
theorem tx_eqR (B : Bd X N W G k) (h : EqvOk e) (s : ShOk e m) (hn : m ≤ 64) (r1 : RdX X φ os2 (e x)) (r2 : RdX X ψ os2 (e y)) (ha : EX X es os a φ os1) (hb : EX X es os1 b ψ os2) : TX X es os (.Compare a [.Eq] [b] pos) (decide (x = y)) os2 :=
  tx_cmp (op_eqD B.room.units) (r2_eqR r1 r2 (s.shaped hn x) (s.shaped hn y) (h x y)) (nomark _) ha hb
theorem tx_neR (B : Bd X N W G k) (h : EqvOk e) (s : ShOk e m) (hn : m ≤ 64) (r1 : RdX X φ os2 (e x)) (r2 : RdX X ψ os2 (e y)) (ha : EX X es os a φ os1) (hb : EX X es os1 b ψ os2) : TX X es os (.Compare a [.NotEq] [b] pos) (!decide (x = y)) os2 :=
  tx_cmp (op_neD B.room.units) (r2_neR r1 r2 (s.shaped hn x) (s.shaped hn y) (by rw [h x y])) (nomark _) ha hb
end
section
variable {S : Type} {elt iter : Expr} {ifs : List Expr} {xs : List α} {vp : α → VP} {enc : β → PyData} {s0 : S} {os0 : Os} {ys : List β} {sf : S} {tpos : Pos} {cc : Os → Prop}
theorem lc_mk1 {c : Os → Prop} (f : S → α → Option (Option β × S)) (OS : S → Os → Os) (s0 : S) (ys : List β) (sf : S) (B : Bd X N W G k) (hj : N[j]? = some x) (hun : (es[j]? = some un)) (hblk : blkC X.N X.env.scope scope [(x, j)] = true) (hown : ownB scope X.env.scope x = true) (hif : ifs.length ≤ 1)
    (hl : xs.length < sizeLine ∧ lcS f xs s0 = some (ys, sf)) (hi : IX X (.Name x tpos) es os iter xs vp c (OS s0 os0)) (hc : ∀ s tl, c (OS s tl)) (hperm : ∀ s q tl, (OS s (q :: tl)).Perm (q :: OS s tl))
    (hb : ∀ s x t tl, x ∈ xs → f s x = some t → ∃ b os1, ∀ X', Fam X scope X' → PTX X' (es.set j (sl (vp x))) (OS s tl) ifs b os1 ∧ (b = true → ∃ y, t.1 = some y ∧ EX X' (es.set j (sl (vp x))) os1 elt (dat (enc y)) (OS t.2 tl)) ∧ (b = false → t.1 = none ∧ os1 = OS t.2 tl)) :
    LcOk X es os (.Name x tpos) iter elt ifs scope [(x, j)] xs vp c (gName j) (fun x es => es.set j (sl (vp x))) enc f OS s0 os0 ys sf where
  calm := B.calm
  nd := B.hN ▸ B.nd
  ok := blkOk_by hblk
  pg := fun X' hX => pg_own hX B hj hown
  hv := fun m hm => by
    have e : m = j := by simpa using hm
    rw [e]
    exact hun
  hid := lc_id1
  hg := fun x F σ H v Q os2 sl hw ow c q => lc_gname x F σ H v Q os2 sl hw ow c q
  hif := hif
  hl := hl.2
  hz := hl.1
  hi := hi
  hc := hc
  hperm := hperm
  hb := hb
end
end
end Z
namespace Z
open PySem PySem.Spec PyProof.Rows L2
theorem elimL {α β γ : Type} {f : α → Option γ} {g : β → Option γ} {x : α} {c : Option γ} (h : Sum.elim f g (.inl x) = c) : f x = c := h
theorem elimR {α β γ : Type} {f : α → Option γ} {g : β → Option γ} {x : β} {c : Option γ} (h : Sum.elim f g (.inr x) = c) : g x = c := h
theorem len_ok {ds : List PyData} {n : Nat} (h : ds.length = n) (h2 : n ≤ sizeLine := by decide +kernel) : ds.length ≤ sizeLine := h ▸ h2
section
variable {X : Cx} {os : Os}
def noneB : PyData → Bool
  | .none => true
  | _ => false
theorem dq_none {F : Hp} : ∀ {v : L2.V} {d : PyData}, Dq F v d → decide (v = .non) = noneB d
  | _, _, .non => rfl
  | _, _, .bl _ => by simp [noneB]
  | _, _, .int _ => by simp [noneB]
  | _, _, .str _ => by simp [noneB]
  | _, _, .lst _ _ => by simp [noneB]
  | _, _, .tup _ _ => by simp [noneB]
  | _, _, .dctK _ _ _ => by simp [noneB]
  | _, _, .dctT _ _ _ => by simp [noneB]
theorem r2_isN {d : PyData} {t : Bool} (h : noneB d = t) : R2X X (fun x y H Q => y = .non ∧ Q (.bl (decide (x = .non))) H) (dat d) (dat .none) os (dat (.bool t)) := fun F H x y Q ow cx cy q =>
  ⟨by have := cy.now; cases this; rfl, by rw [dq_none cx.now, h]; exact q F H _ (Same.refl F) ow (cl_dat (.bl _))⟩
theorem r2_notN {d : PyData} {t : Bool} (h : (!noneB d) = t) : R2X X (fun x y H Q => y = .non ∧ Q (.bl (!decide (x = .non))) H) (dat d) (dat .none) os (dat (.bool t)) := fun F H x y Q ow cx cy q =>
  ⟨by have := cy.now; cases this; rfl, by rw [dq_none cx.now, h]; exact q F H _ (Same.refl F) ow (cl_dat (.bl _))⟩
end
theorem Ow.suf {F H : Hp} {rest : Os} : ∀ {l : Os}, Ow F (l ++ rest) H → Ow F rest H
  | [], h => h
  | _ :: l, h => Ow.suf (l := l) h.drop
section
variable {X : Cx} {es : List Slot} {os os1 rest : Os} {N V G : List Str} {k j : Nat} {x : Str} {p pos : Pos} {e : Expr} {st : Stmt} {pn : List Str} {α β : Type} {ps : α → List VP} {pre : α → Os} {m : α → Option β} {res : α → β → VP} {post : α → β → Os} {n : Ent} {gi : Nat} {φ : VP}
/-- a call whose one argument is a list made for it -/
theorem ex_calln {a : Addr → α} {b : β} (B : Bd X N V G k) (hj : G[gi]? = some x) (c : Cal X.prog X.w X.K X.mg X.base j x st pn (spZ ps pre m res post)) (hl : j ≤ k) (hm : ∀ q, m (a q) = some b) (ha : EN X es os e n rest)
    (hps : ∀ q, ps (a q) = [own q]) (hpre : ∀ q, pre (a q) = [(q, n)]) (hres : ∀ q, res (a q) b = φ)
    (he : starEach [e] X.env = (false, eval e X.env) :: starEach [] X.env := by rfl) (hpl : (backTo pos (starEach [] X.env)).any (·.1) = false := by rfl) : EX X es os (.Call (.Name x p) [e] [] pos) φ rest := fun F σ H Q ow sl q =>
  let ⟨u, v⟩ := B.gl x (List.mem_of_getElem? hj)
  we_of (pe_g (c.mono hl) B.gd B.room u (pa_cons (hs := he) pe_u pa_nil) (dun_d v) he hpl) (ha F σ H _ ow sl fun F1 H1 r e1 o1 => ⟨a r, b, F1, rest, by rw [hps]; exact ⟨_, [], rfl, cl_own, rfl⟩, by rw [hpre]; exact o1, hm r, fun F2 H2 v e2 o2 c2 => q F2 H2 v (e1.trans e2) o2.suf (hres r ▸ c2)⟩)
end
end Z
namespace Z
open PySem PySem.Spec PyProof.Rows L2 HT
def mapG {α β : Type} (f : α → Option (Option β)) : List α → Option (List β)
  | [] => some []
  | x :: xs => (f x).bind fun y => (mapG f xs).bind fun ys => some (y.toList ++ ys)
def lcG {α β : Type} (f : α → Option (Option β)) (xs : List α) : Option (List β) := if xs.length < sizeLine then mapG f xs else none
theorem lcS_mapG {α β : Type} (f : α → Option (Option β)) : ∀ (xs : List α) (ys : List β), mapG f xs = some ys → lcS (fun (_ : Unit) x => (f x).map fun y => (y, ())) xs () = some (ys, ())
  | [], ys, h => by
    cases h
    rfl
  | x :: xs, ys, h => by
    unfold mapG at h
    obtain ⟨y, h1, h2⟩ := bnd h
    obtain ⟨zs, h3, h4⟩ := bnd h2
    obtain rfl := som h4
    unfold lcS
    rw [h1]
    show ((lcS _ xs ()).bind fun u => some (y.toList ++ u.1, u.2)) = _
    rw [lcS_mapG f xs zs h3]
    rfl
theorem lcG_ok {α β : Type} {f : α → Option (Option β)} {xs : List α} {ys : List β} (h : lcG f xs = some ys) : xs.length < sizeLine ∧ lcS (fun (_ : Unit) x => (f x).map fun y => (y, ())) xs () = some (ys, ()) := by
  unfold lcG at h
  split at h
  · rename_i hl
    exact ⟨hl, lcS_mapG f xs ys h⟩
  · cases h
end Z
set_option maxHeartbeats 4000000
namespace Z
open PySem PySem.Spec PyProof.Rows L2
section
variable {X : Cx} {es : List Slot} {os os1 os2 : Os} {pos : Pos} {a b : Expr}
theorem rep_nil {α : Type} : ∀ m : Nat, (List.replicate m ([] : List α)).flatten = []
  | 0 => rfl
  | m + 1 => by rw [List.replicate_succ, List.flatten_cons, rep_nil m]; rfl
end
end Z
namespace Z
open PySem PySem.Spec PyProof.Rows L2
end Z
namespace Z
open PySem PySem.Spec PyProof.Rows L2
section
variable {X : Cx} {es : List Slot} {os os1 os2 os3 : Os} {N V G W : List Str} {k i vi gi j : Nat} {x : Str} {p pos : Pos} {e e2 e3 a : Expr} {φ : VP} {n : Ent} {α : Type}
def rangeD (a b : Int) : List Int := (List.range (a - b).toNat).map fun (i : Nat) => a + (i : Int) * (-1)
def rngDO (a b : Int) : Option (List Int) := if -(2 ^ 62) ≤ a ∧ a < 2 ^ 62 ∧ -(2 ^ 62) ≤ b ∧ b < 2 ^ 62 then some (rangeD a b) else none
theorem ix_rngD {tg : Expr} {lo hi : Int} {xs : List Int} (B : Bd X N W G k) (hj : G[gi]? = some "range") (hm : X.mg "range" = none) (hx : rngDO lo hi = some xs) (ha : EX X es os e (dat (.int lo)) os1) (hb : EX X es os1 e2 (dat (.int hi)) os2) (hc : EX X es os2 e3 (dat (.int (-1))) os3)
    (hs : starEach [e, e2, e3] X.env = (false, eval e X.env) :: starEach [e2, e3] X.env := by rfl) (hs2 : starEach [e2, e3] X.env = (false, eval e2 X.env) :: starEach [e3] X.env := by rfl) (hs3 : starEach [e3] X.env = (false, eval e3 X.env) :: starEach [] X.env := by rfl) (hpl : (backTo pos (starEach [e2, e3] X.env)).any (·.1) = false := by rfl) :
    IX X tg es os (.Call (.Name "range" p) [e, e2, e3] [] pos) xs (fun x => dat (.int x)) anyOs os3 := fun F σ H R ow sl q => by
  unfold rngDO at hx
  split at hx
  · rename_i h
    cases hx
    refine wi_of (pi_range3 (B.gl _ (List.mem_of_getElem? hj)).1 hm pa_u hs hpl) (wa_of (pa_cons (hs := hs) pe_u (pa_cons (hs := hs2) pe_u (pa_cons (hs := hs3) pe_u pa_nil))) (ha F σ H _ ow sl fun F1 H1 v e1 o1 c1 => hb F1 σ H1 _ o1 (sl.mono e1) fun F2 H2 u e2 o2 c2 => hc F2 σ H2 _ o2 (sl.mono (e1.trans e2)) fun F3 H3 w e3 o3 c3 => ?_))
    refine ⟨lo, hi, -1, (lo - hi).toNat, by rw [clv_int c1, clv_int c2, clv_int c3], .neg h.1 h.2.1 h.2.2.1 h.2.2.2, q F3 H3 _ ((e1.trans e2).trans e3) o3 fun F4 H4 os4 i s ow4 _ => ?_⟩
    refine ⟨fun z => show (lo - hi).toNat ≤ i by unfold rangeD at z; simpa using z, fun x hx => ?_⟩
    unfold rangeD at hx
    rw [List.getElem?_map] at hx
    by_cases hi2 : i < (lo - hi).toNat
    · rw [List.getElem?_range hi2] at hx
      cases hx
      refine ⟨hi2, fun v H5 y => ?_⟩
      obtain ⟨rfl, rfl⟩ := y
      exact ⟨F4, Same.refl F4, ow4, cl_dat (.int _)⟩
    · rw [List.getElem?_eq_none (by rw [List.length_range]; omega)] at hx
      cases hx
  · cases hx
theorem ex_extend {apos cpos : Pos} {q : Addr} {enc : α → PyData} {xs xs0 ys zs : List α} (ha : catO xs ys = some zs) (ho : EX X es os a (own q) os) (h0 : os[j]? = some (q, ol (xs0.map enc))) (he : EN X es os e (ol (ys.map enc)) os1) (hj : os1[j]? = some (q, ol (xs.map enc)))
    (hbase : attributeBase a "extend" X.env (eval a X.env) = eval a X.env := by rfl) (hline : (apos.endLine == cpos.line) = true := by rfl) (hs : starEach [e] X.env = (false, eval e X.env) :: starEach [] X.env := by rfl)
    (hfew : ((backTo cpos (starEach [e] X.env)).all (fun x => !x.1) && (backToKw cpos (keywordEach [] X.env)).all (fun x => x.1.isSome) && decide ([e].length + ([] : List Keyword).length + (if ([] : List Keyword).isEmpty then 0 else 1) < 30)) = true := by rfl)
    (hplain : (backTo cpos (starEach [] X.env)).any (·.1) = false := by rfl) : EX X es os (.Call (.Attribute a "extend" apos) [e] [] cpos) (dat .none) (os1.set j (q, ol (zs.map enc))) := fun F σ H Q ow sl qq => by
  unfold catO at ha
  split at ha
  · rename_i hz
    cases ha
    refine we_of (pe_bm PySem.F.plainAttrs_list PySem.F.slot_list_extend PySem.F.type_list_extend mt_extend pe_u pa_u hbase hfew hline hs hplain) (ho F σ H _ ow sl fun F1 H1 v e1 o1 c1 => ?_)
    obtain rfl : v = .ref q := c1.now
    obtain ⟨_, _, _, ty⟩ := ty_own (K := X.K) o1 h0
    refine ⟨ty, wa_of (pa_cons pe_u pa_nil hs) (he F1 σ H1 _ o1 (sl.mono e1) fun F2 H2 r e2 o2 => ?_)⟩
    obtain ⟨vs, hp, hv, _⟩ := ty_own (K := X.K) o2.drop hj
    obtain ⟨_, us, hu, hus⟩ := o2.atL
    have l1 := dqall_len hv
    have l2 := dqall_len hus
    rw [List.length_map] at l1 l2
    have o3 := ow_set o2.drop hj (dqall_app hv hus)
    rw [← List.map_append] at o3
    exact ⟨q, r, vs, us, rfl, rfl, hp, hu, by omega, qq F2 _ .non (e1.trans e2) o3 (cl_dat .non)⟩
  · cases ha
/-- the first place at which an integer stands -/
def ixOf : List Int → Int → Option Nat
  | [], _ => none
  | x :: xs, y => if x = y then some 0 else (ixOf xs y).map (· + 1)
end
end Z
namespace Z
open PySem PySem.Spec PyProof.Rows L2
/-- an encoding that is never None -/
def NoN {α : Type} (e : α → PyData) : Prop := ∀ a, noneB (e a) = false
theorem non_tup {α : Type} {e : α → PyData} : NoN (eT e) := fun _ => rfl
theorem none_opt {α : Type} {e : α → PyData} (h : NoN e) : ∀ x : Option α, noneB (eO e x) = x.isNone
  | none => rfl
  | some a => h a
theorem eqv_noneL : ∀ d : PyData, PyData.eqv .none d = noneB d
  | .none => by simp only [PyData.eqv, noneB]
  | .bool _ => by simp only [PyData.eqv, noneB]
  | .int _ => by simp only [PyData.eqv, noneB]
  | .str _ => by simp only [PyData.eqv, noneB]
  | .list _ => by simp only [PyData.eqv, noneB]
  | .tuple _ => by simp only [PyData.eqv, noneB]
  | .dict _ => by simp only [PyData.eqv, noneB]
theorem eqv_noneR : ∀ d : PyData, PyData.eqv d .none = noneB d
  | .none => by simp only [PyData.eqv, noneB]
  | .bool _ => by simp only [PyData.eqv, noneB]
  | .int _ => by simp only [PyData.eqv, noneB]
  | .str _ => by simp only [PyData.eqv, noneB]
  | .list _ => by simp only [PyData.eqv, noneB]
  | .tuple _ => by simp only [PyData.eqv, noneB]
  | .dict _ => by simp only [PyData.eqv, noneB]
theorem eqv_opt {α : Type} [DecidableEq α] {e : α → PyData} (h : EqvOk e) (k : NoN e) : EqvOk (eO e) := fun a b => by
  cases a with
  | none =>
    rw [show eO e none = PyData.none from rfl, eqv_noneL, none_opt k]
    cases b <;> simp
  | some a =>
    cases b with
    | none =>
      rw [show eO e none = PyData.none from rfl, eqv_noneR, none_opt k]
      simp
    | some b =>
      show PyData.eqv (e a) (e b) = _
      rw [h a b]
      simp
theorem sh_opt {α : Type} {e : α → PyData} {n : Nat} (h : ShOk e n) : ShOk (eO e) n := by
  refine ⟨fun a => ?_, fun a => ?_⟩
  · cases a with
    | none =>
      show PyData.canLay0 .none = true
      simp only [PyData.canLay0]
    | some a => exact h.lay a
  · cases a with
    | none =>
      show PyData.depth .none ≤ n
      simp only [PyData.depth]
      exact Nat.zero_le _
    | some a => exact h.dep a
end Z
namespace Z
open PySem PySem.Spec PyProof.Rows L2
inductive Lk (Q : Hp → Prop) : Hp → Prop
  | now {H : Hp} : Q H → Lk Q H
  | lock {H : Hp} (d : Addr) (u : HO) : H d = some u → Mut (some u) → (∀ od, Lk Q (upd H d (.frz od u))) → Lk Q H
theorem Lk.bind {Q R : Hp → Prop} {H : Hp} (h : Lk Q H) (k : ∀ H, Q H → Lk R H) : Lk R H := by
  induction h with
  | now q => exact k _ q
  | lock d u a b _ ih => exact .lock d u a b ih
theorem Lk.inv {X : Cx} {pins : List (Addr × Obj)} {σ : L2.St} {s : Shared} {Q : Hp → Prop} {H : Hp} (h : Lk Q H) : Inv X pins σ H s → ∃ H', Inv X pins σ H' s ∧ Q H' := by
  induction h with
  | now q => exact fun I => ⟨_, I, q⟩
  | lock d u a b _ ih =>
    intro I
    obtain ⟨od, I1⟩ := I.lock a b
    exact ih od I1
theorem we_lk {X : Cx} {e : Expr} {σ : L2.St} {H : Hp} {Q : VK} (h : WE X e σ H fun v H' => Lk (Q v) H') : WE X e σ H Q := fun pins s I =>
  wpAny_mono (h pins s I) (fun u s1 ⟨v, H1, I1, r, k⟩ => let ⟨H2, I2, q⟩ := k.inv I1; ⟨v, H2, I2, r, q⟩) fun _ _ z => z
theorem wps_lk {X : Cx} {sts : List Stmt} {D : Ends} {σ : L2.St} {H : Hp} (h : Lk (WPs X sts D σ) H) : WPs X sts D σ H := fun pins s I =>
  let ⟨_, I2, q⟩ := h.inv I; q pins s I2
/-- what is owned as e may be given away, as the data d -/
def Frb (e : Ent) (d : PyData) : Prop := ∀ p F os H (Q : Hp → Prop), Ow F ((p, e) :: os) H → (∀ F' H', Same F F' → Ow F' os H' → Dq F' (.ref p) d → Q H') → Lk Q H
section
variable {κ β : Type} [DecidableEq κ]
def dGet (d : List (κ × β)) (k : κ) : Option β := (d.find? fun kv => decide (kv.1 = k)).map (·.2)
def dPut (d : List (κ × β)) (k : κ) (v : β) : List (κ × β) :=
  if (d.any fun kv => decide (kv.1 = k)) = true then d.map (fun kv => if kv.1 = k then (kv.1, v) else kv) else d ++ [(k, v)]
/-- a store in bounds -/
def dPutO (d : List (κ × β)) (k : κ) (v : β) : Option (List (κ × β)) := if d.length < sizeLine then some (dPut d k v) else none
end
theorem dGet_map {κ β γ : Type} [DecidableEq κ] (f : β → γ) (k : κ) : ∀ d : List (κ × β), dGet (d.map fun p => (p.1, f p.2)) k = (dGet d k).map f
  | [] => rfl
  | (a, b) :: d => by
    have ih := dGet_map f k d
    unfold dGet at ih ⊢
    rw [List.map_cons, List.find?_cons, List.find?_cons]
    by_cases h : a = k
    · simp [h]
    · simp only [h, decide_false]
      exact ih
theorem dPut_map {κ β γ : Type} [DecidableEq κ] (f : β → γ) (k : κ) (v : β) (d : List (κ × β)) : dPut (d.map fun p => (p.1, f p.2)) k (f v) = (dPut d k v).map fun p => (p.1, f p.2) := by
  unfold dPut
  rw [List.any_map]
  have e : ((fun kv : κ × γ => decide (kv.1 = k)) ∘ fun p : κ × β => (p.1, f p.2)) = fun kv => decide (kv.1 = k) := rfl
  rw [e]
  split
  · rw [List.map_map, List.map_map]
    congr 1
    funext p
    show (if p.1 = k then (p.1, f v) else (p.1, f p.2)) = _
    by_cases h : p.1 = k
    · simp [h]
    · simp [h]
  · simp
/-- the keys renamed one to one -/
theorem dGet_key {κ κ' β : Type} [DecidableEq κ] [DecidableEq κ'] {f : κ → κ'} (hf : ∀ a b, f a = f b → a = b) (k : κ) : ∀ d : List (κ × β), dGet (d.map fun p => (f p.1, p.2)) (f k) = dGet d k
  | [] => rfl
  | (a, b) :: d => by
    have ih := dGet_key hf k d
    unfold dGet at ih ⊢
    rw [List.map_cons, List.find?_cons, List.find?_cons]
    by_cases h : a = k
    · simp [h]
    · have h2 : ¬ f a = f k := fun z => h (hf _ _ z)
      simp only [h, h2, decide_false]
      exact ih
theorem dPut_key {κ κ' β : Type} [DecidableEq κ] [DecidableEq κ'] {f : κ → κ'} (hf : ∀ a b, f a = f b → a = b) (k : κ) (v : β) (d : List (κ × β)) : dPut (d.map fun p => (f p.1, p.2)) (f k) v = (dPut d k v).map fun p => (f p.1, p.2) := by
  unfold dPut
  rw [List.any_map]
  have e : ((fun kv : κ' × β => decide (kv.1 = f k)) ∘ fun p : κ × β => (f p.1, p.2)) = fun kv => decide (kv.1 = k) := by
    funext p
    show decide (f p.1 = f k) = decide (p.1 = k)
    exact decide_eq_decide.mpr ⟨hf _ _, fun z => by rw [z]⟩
  rw [e]
  split
  · rw [List.map_map, List.map_map]
    congr 1
    funext p
    show (if f p.1 = f k then (f p.1, v) else (f p.1, p.2)) = _
    by_cases h : p.1 = k
    · simp [h]
    · have h2 : ¬ f p.1 = f k := fun z => h (hf _ _ z)
      simp [h, h2]
  · simp
theorem putK_dPut {κ : Type} [DecidableEq κ] (d : List (κ × L2.V)) (k : κ) (v : L2.V) : putK d k v = dPut d k v := rfl
inductive Kd (κ : Type) where
  | fl (f : κ → Key)
  | tu (f : κ → List Key)
section
variable {κ : Type}
def Kd.ek : Kd κ → κ → PyData
  | .fl f, k => kPD (f k)
  | .tu f, k => .tuple ((f k).map kPD)
def Kd.Inj : Kd κ → Prop
  | .fl f => ∀ a b, f a = f b → a = b
  | .tu f => ∀ a b, f a = f b → a = b
def Kd.ho : Kd κ → List (κ × L2.V) → HO
  | .fl f, kvs => .dK (kvs.map fun p => (f p.1, p.2))
  | .tu f, kvs => .dT (kvs.map fun p => (f p.1, p.2))
def Kd.pd (kd : Kd κ) (ps : List (κ × PyData)) : PyData := match kd with
  | .fl f => .dict (ps.map fun p => (kPD (f p.1), p.2))
  | .tu f => .dict ((.none, .none) :: ps.map fun p => (PyData.tuple ((f p.1).map kPD), p.2))
theorem Kd.ntup (kd : Kd κ) (kvs : List (κ × L2.V)) : ∀ xs, kd.ho kvs ≠ .tup xs := by cases kd <;> intro _ z <;> cases z
theorem Kd.mut (kd : Kd κ) (kvs : List (κ × L2.V)) : Mut (some (kd.ho kvs)) := by cases kd <;> trivial
end
abbrev kI : Kd Int := .fl Sum.inl
abbrev kTI : Kd (List Int) := .tu fun l => l.map Sum.inl
theorem inj_kI : kI.Inj := fun a b h => Sum.inl.inj h
theorem inj_kTI : kTI.Inj := fun a b h => by
  have : ∀ l m : List Int, l.map (Sum.inl : Int → Key) = m.map Sum.inl → l = m := fun l => by
    induction l with
    | nil => intro m h; cases m with
      | nil => rfl
      | cons => cases h
    | cons x l ih => intro m h; cases m with
      | nil => cases h
      | cons y m =>
        rw [List.map_cons, List.map_cons] at h
        injection h with h1 h2
        rw [Sum.inl.inj h1, ih m h2]
  exact this a b h
theorem kPD_inj : ∀ {a b : Key}, kPD a = kPD b → a = b
  | .inl _, .inl _, h => by injection h with h; rw [h]
  | .inr _, .inr _, h => by injection h with h; rw [h]
  | .inl _, .inr _, h => nomatch h
  | .inr _, .inl _, h => nomatch h
theorem kPDs_inj : ∀ {a b : List Key}, a.map kPD = b.map kPD → a = b
  | [], [], _ => rfl
  | [], _ :: _, h => nomatch h
  | _ :: _, [], h => nomatch h
  | x :: a, y :: b, h => by
    rw [List.map_cons, List.map_cons] at h
    injection h with h1 h2
    rw [kPD_inj h1, kPDs_inj h2]
section
variable {κ : Type}
inductive DV (F : Hp) : List (κ × L2.V) → List (κ × PyData) → Prop
  | nil : DV F [] []
  | cons {k : κ} {v : L2.V} {d : PyData} {kvs : List (κ × L2.V)} {ds : List (κ × PyData)} : Dq F v d → DV F kvs ds → DV F ((k, v) :: kvs) ((k, d) :: ds)
theorem dv_mono {F F' : Hp} (e : Same F F') : ∀ {kvs : List (κ × L2.V)} {ds : List (κ × PyData)}, DV F kvs ds → DV F' kvs ds
  | _, _, .nil => .nil
  | _, _, .cons h1 h2 => .cons (dq_mono e _ _ h1) (dv_mono e h2)
theorem dv_len {F : Hp} : ∀ {kvs : List (κ × L2.V)} {ds : List (κ × PyData)}, DV F kvs ds → kvs.length = ds.length
  | _, _, .nil => rfl
  | _, _, .cons h1 h2 => by rw [List.length_cons, List.length_cons, dv_len h2]
theorem dv_app {F : Hp} : ∀ {kvs us : List (κ × L2.V)} {ds es : List (κ × PyData)}, DV F kvs ds → DV F us es → DV F (kvs ++ us) (ds ++ es)
  | _, _, _, _, .nil, h => h
  | _, _, _, _, .cons h1 h2, h => .cons h1 (dv_app h2 h)
theorem dv_keys {F : Hp} : ∀ {kvs : List (κ × L2.V)} {ds : List (κ × PyData)}, DV F kvs ds → kvs.map (·.1) = ds.map (·.1)
  | _, _, .nil => rfl
  | _, _, .cons h1 h2 => by rw [List.map_cons, List.map_cons, dv_keys h2]
theorem dv_vals {F : Hp} : ∀ {kvs : List (κ × L2.V)} {ds : List (κ × PyData)}, DV F kvs ds → DqAll F (kvs.map (·.2)) (ds.map (·.2))
  | _, _, .nil => .nil
  | _, _, .cons h1 h2 => .cons h1 (dv_vals h2)
variable [DecidableEq κ]
theorem dv_get {F : Hp} (k : κ) : ∀ {kvs : List (κ × L2.V)} {ds : List (κ × PyData)}, DV F kvs ds → (∀ d, dGet ds k = some d → ∃ v, dGet kvs k = some v ∧ Dq F v d) ∧ (dGet ds k = none → dGet kvs k = none)
  | _, _, .nil => ⟨fun d h => (nomatch h), fun _ => rfl⟩
  | _, _, .cons (k := j) h1 h2 => by
    have ih := dv_get k h2
    unfold dGet at ih ⊢
    rw [List.find?_cons, List.find?_cons]
    by_cases e : j = k
    · simp only [e, decide_true]
      exact ⟨fun d h => by cases h; exact ⟨_, rfl, h1⟩, fun h => nomatch h⟩
    · simp only [e, decide_false]
      exact ih
theorem dv_any {F : Hp} (k : κ) : ∀ {kvs : List (κ × L2.V)} {ds : List (κ × PyData)}, DV F kvs ds → (kvs.any fun kv => decide (kv.1 = k)) = ds.any fun kv => decide (kv.1 = k)
  | _, _, .nil => rfl
  | _, _, .cons (k := j) h1 h2 => by
    rw [List.any_cons, List.any_cons, dv_any k h2]
theorem dv_rep {F : Hp} (k : κ) {v : L2.V} {d : PyData} (hd : Dq F v d) : ∀ {kvs : List (κ × L2.V)} {ds : List (κ × PyData)}, DV F kvs ds → DV F (kvs.map fun kv => if kv.1 = k then (kv.1, v) else kv) (ds.map fun kv => if kv.1 = k then (kv.1, d) else kv)
  | _, _, .nil => .nil
  | _, _, .cons (k := j) h1 h2 => by
    rw [List.map_cons, List.map_cons]
    by_cases e : j = k
    · simp only [e, if_true]
      exact .cons hd (dv_rep k hd h2)
    · simp only [e, if_false]
      exact .cons h1 (dv_rep k hd h2)
theorem dv_put {F : Hp} (k : κ) {v : L2.V} {d : PyData} (hd : Dq F v d) {kvs : List (κ × L2.V)} {ds : List (κ × PyData)} (h : DV F kvs ds) : DV F (dPut kvs k v) (dPut ds k d) := by
  unfold dPut
  rw [dv_any k h]
  split
  · exact dv_rep k hd h
  · exact dv_app h (.cons hd .nil)
end
section
variable {κ : Type}
def od (kd : Kd κ) (d : List (κ × PyData)) : Ent := fun p F h => ∃ kvs, h = one p (kd.ho kvs) ∧ DV F kvs d
theorem uni_od {kd : Kd κ} {d : List (κ × PyData)} : Uni (od kd d) (fun F o => ∃ kvs, o = kd.ho kvs ∧ DV F kvs d) := fun p F h ⟨kvs, e, x⟩ => ⟨_, e, kvs, rfl, x⟩
theorem od_one {kd : Kd κ} {d : List (κ × PyData)} {p : Addr} {F : Hp} {kvs : List (κ × L2.V)} (h : DV F kvs d) : ∀ F', Same F F' → od kd d p F' (one p (kd.ho kvs)) := fun _ g => ⟨kvs, rfl, dv_mono g h⟩
theorem dq_pd {F : Hp} {kd : Kd κ} {a : Addr} {ob : Obj} {kvs : List (κ × L2.V)} {d : List (κ × PyData)} (h : F a = some (.frz ob (kd.ho kvs))) (k : DV F kvs d) : Dq F (.ref a) (kd.pd d) := by
  have kk := dv_keys k
  have kv := dv_vals k
  cases kd with
  | fl f =>
    refine .dctK h ?_ ?_
    · rw [List.map_map, List.map_map]
      have : (kvs.map (·.1)).map (fun x => kPD (f x)) = (d.map (·.1)).map (fun x => kPD (f x)) := by rw [kk]
      rw [List.map_map, List.map_map] at this
      exact this
    · rw [List.map_map, List.map_map]
      exact kv
  | tu f =>
    refine .dctT h ?_ ?_
    · rw [List.map_map, List.map_map]
      have : (kvs.map (·.1)).map (fun x => PyData.tuple ((f x).map kPD)) = (d.map (·.1)).map (fun x => PyData.tuple ((f x).map kPD)) := by rw [kk]
      rw [List.map_map, List.map_map] at this
      exact this
    · rw [List.map_map, List.map_map]
      exact kv
theorem dv_of {F : Hp} {κ' : Type} {f : κ → κ'} {g : κ' → PyData} (hg : ∀ a b, g a = g b → a = b) : ∀ {kvs : List (κ' × L2.V)} {d : List (κ × PyData)}, kvs.map (fun p => g p.1) = d.map (fun p => g (f p.1)) → DqAll F (kvs.map (·.2)) (d.map (·.2)) → ∃ kvs' : List (κ × L2.V), kvs = kvs'.map (fun p => (f p.1, p.2)) ∧ DV F kvs' d
  | [], [], _, _ => ⟨[], rfl, .nil⟩
  | [], _ :: _, h, _ => nomatch h
  | _ :: _, [], h, _ => nomatch h
  | (a, v) :: kvs, (k, x) :: d, h, hv => by
    rw [List.map_cons, List.map_cons] at h hv
    injection h with h1 h2
    cases hv with
    | cons v1 v2 =>
      obtain ⟨r, rfl, hr⟩ := dv_of hg h2 v2
      exact ⟨(k, v) :: r, by rw [List.map_cons, ← hg _ _ h1], .cons v1 hr⟩
theorem pd_dq {F : Hp} {kd : Kd κ} {v : L2.V} {d : List (κ × PyData)} (h : Dq F v (kd.pd d)) : ∃ a ob kvs, v = .ref a ∧ F a = some (.frz ob (kd.ho kvs)) ∧ DV F kvs d := by
  cases kd with
  | fl f =>
    generalize e : (Kd.fl f).pd d = x at h
    cases h with
    | dctK h1 h2 h3 =>
      injection e with e
      subst e
      rw [List.map_map] at h2 h3
      obtain ⟨r, rfl, hr⟩ := dv_of (f := f) (g := kPD) (fun _ _ => kPD_inj) h2 h3
      exact ⟨_, _, r, rfl, h1, hr⟩
    | dctT h1 h2 h3 =>
      injection e with e
      cases d with
      | nil => cases e
      | cons p d =>
        rw [List.map_cons] at e
        injection e with e _
        injection e with e _
        cases hk : f p.1 <;> rw [hk] at e <;> cases e
    | _ => cases e
  | tu f =>
    generalize e : (Kd.tu f).pd d = x at h
    cases h with
    | dctT h1 h2 h3 =>
      injection e with e
      injection e with _ e
      subst e
      rw [List.map_map] at h2 h3
      obtain ⟨r, rfl, hr⟩ := dv_of (f := f) (g := fun l : List Key => PyData.tuple (l.map kPD)) (fun a b z => kPDs_inj (by injection z)) h2 h3
      exact ⟨_, _, r, rfl, h1, hr⟩
    | @dctK a ob kvs ps h1 h2 h3 =>
      injection e with e
      subst e
      cases kvs with
      | nil => cases h2
      | cons p kvs =>
        rw [List.map_cons, List.map_cons] at h2
        injection h2 with e _
        cases hk : p.1 <;> rw [hk] at e <;> cases e
    | _ => cases e
theorem frb_od {kd : Kd κ} {d : List (κ × PyData)} : Frb (od kd d) (kd.pd d) := fun p F os H Q ow q => by
  obtain ⟨fp, o, ho, _, kvs, rfl, hv⟩ := ow.atU uni_od
  refine .lock p _ ho (kd.mut kvs) fun ob => .now ?_
  have o1 : Ow F ((p, fun q G h => h = one q (.frz ob (kd.ho kvs)) ∧ DV G kvs d) :: os) (upd H p (.frz ob (kd.ho kvs))) := ow.putU uni_od fun G g => ⟨rfl, dv_mono g hv⟩
  obtain ⟨o', ho', ⟨rfl, hv'⟩, s, o2⟩ := o1.freezeU (r := fun G o => o = .frz ob (kd.ho kvs) ∧ DV G kvs d) fun q G h ⟨e, x⟩ => ⟨_, e, rfl, x⟩
  exact q _ _ s o2 (dq_pd upd_same (dv_mono s hv'))
end
end Z
namespace Z
open PySem PySem.Spec PyProof.Rows L2
abbrev eM {κ β : Type} (e : β → PyData) (w : List (κ × β)) : List (κ × PyData) := w.map fun p => (p.1, e p.2)
abbrev eD {κ β : Type} (kd : Kd κ) (e : β → PyData) : List (κ × β) → PyData := fun w => kd.pd (eM e w)
section
variable {κ β : Type} {kd : Kd κ} {enc : β → PyData}
def KeyV (kd : Kd κ) (k : κ) (F : Hp) (y : L2.V) : Prop := match kd with
  | .fl f => y = kV (f k)
  | .tu f => ∃ b, y = .ref b ∧ F b = some (.tup ((f k).map kV))
theorem dq_key {F : Hp} : ∀ {k : Key} {v : L2.V}, Dq F v (kPD k) → v = kV k
  | .inl _, _, h => by cases h; rfl
  | .inr _, _, h => by cases h; rfl
theorem dqall_keys {F : Hp} : ∀ {ks : List Key} {vs : List L2.V}, DqAll F vs (ks.map kPD) → vs = ks.map kV
  | [], _, h => by cases h; rfl
  | k :: ks, _, h => by
    cases h with
    | cons h1 h2 => rw [dq_key h1, dqall_keys h2, List.map_cons]
theorem key_val {k : κ} {F : Hp} {y : L2.V} (h : Cl (dat (kd.ek k)) F y) : KeyV kd k F y := by
  have q := h.now
  cases kd with
  | fl f => exact dq_key q
  | tu f =>
    have q : Dq F y (.tuple ((f k).map kPD)) := q
    cases q with
    | tup a b => exact ⟨_, rfl, by rw [← dqall_keys b]; exact a⟩
variable [DecidableEq κ]
theorem dget_of (hi : kd.Inj) {F H : Hp} (s : Same F H) {a : Addr} {kvs : List (κ × L2.V)} {k : κ} {y : L2.V} (e : Rd H a (kd.ho kvs)) (hk : KeyV kd k F y) : DGet H a y (dGet kvs k) := by
  cases kd with
  | fl f => exact .inl ⟨_, f k, e, hk, (dGet_key hi k kvs).symm⟩
  | tu f =>
    obtain ⟨b, rfl, hb⟩ := hk
    exact .inr ⟨_, f k, b, e, rfl, s _ _ hb, (dGet_key hi k kvs).symm⟩
theorem dput_of (hi : kd.Inj) {F H : Hp} (s : Same F H) {a : Addr} {kvs : List (κ × L2.V)} {k : κ} {y v : L2.V} (e : H a = some (kd.ho kvs)) (hk : KeyV kd k F y) (hl : kvs.length < sizeLine) : DPut H a y v (upd H a (kd.ho (dPut kvs k v))) := by
  cases kd with
  | fl f => exact .inl ⟨_, f k, e, hk, by rw [List.length_map]; exact hl, by rw [putK_dPut, dPut_key hi]; rfl⟩
  | tu f =>
    obtain ⟨b, rfl, hb⟩ := hk
    exact .inr ⟨_, f k, b, e, rfl, s _ _ hb, by rw [List.length_map]; exact hl, by rw [putK_dPut, dPut_key hi]; rfl⟩
end
theorem Bd.u1 {X : Cx} {N V G : List Str} {n : Nat} (B : Bd X N V G n) : X.A.units + 1 < cLine := by
  have := B.room.units
  omega
section
variable {κ β : Type}
def RdD (kd : Kd κ) (φ : VP) (os : Os) (d : List (κ × PyData)) : Prop := ∀ F H v, Ow F os H → Cl φ F v → ∃ a kvs, v = .ref a ∧ Rd H a (kd.ho kvs) ∧ DV F kvs d
theorem rdd_dat {kd : Kd κ} {os : Os} {d : List (κ × PyData)} : RdD kd (dat (kd.pd d)) os d := fun F H v ow c => by
  obtain ⟨a, ob, kvs, rfl, h1, h2⟩ := pd_dq c.now
  exact ⟨a, kvs, rfl, .inr ⟨ob, ow.ex _ _ h1⟩, h2⟩
theorem rdd_own {kd : Kd κ} {os : Os} {d : List (κ × PyData)} {p : Addr} (k : Nat) (h : os[k]? = some (p, od kd d)) : RdD kd (own p) os d := fun F H v ow c => by
  obtain ⟨_, o, ho, _, kvs, rfl, hv⟩ := (ow.perm (perm_at h)).atU uni_od
  exact ⟨p, kvs, c.now, .inl ho, hv⟩
/-- at q stands an entry of one thing, of the content d; another content may take its place -/
def WrT {γ : Type} (os : Os) (q : Addr) (f : γ → Ent) (d : γ) (os' : γ → Os) : Prop := ∀ F H (r : Hp → HO → Prop), Uni (f d) r → Ow F os H → F q = none ∧ ∃ o, H q = some o ∧ f d q F (one q o) ∧ r F o ∧
  ∀ o' d', (∀ xs, o' ≠ .tup xs) → (∀ F', Same F F' → f d' q F' (one q o')) → Ow F (os' d') (upd H q o')
theorem wr_flat {γ : Type} {os : Os} {q : Addr} {f : γ → Ent} {d : γ} (j : Nat) (h : os[j]? = some (q, f d)) : WrT os q f d (fun d' => os.set j (q, f d')) := fun F H r u ow => by
  have o1 := ow.perm (perm_at h)
  obtain ⟨a, o, b, c, d⟩ := o1.atU u
  exact ⟨a, o, b, c, d, fun o' e' nt he => (o1.putU u he nt).perm (perm_set h)⟩
abbrev odT (kd : Kd κ) (e : β → PyData) : List (κ × β) → Ent := fun w => od kd (eM e w)
end
section
variable {X : Cx} {es es' : List Slot} {os os1 os2 os3 : Os} {F0 : Hp} {rest : List Stmt} {D : Ends} {N V G W : List Str} {n i vi gi : Nat} {p pos apos cpos : Pos} {e a b c : Expr} {φ : VP} {κ β : Type} [DecidableEq κ] {kd : Kd κ} {enc : β → PyData} {w : List (κ × β)} {k : κ} {x : β}
theorem EN.exF {m : Ent} {d : PyData} (h : EN X es os e m os1) (f : Frb m d) : EX X es os e (dat d) os1 := fun F σ H Q ow sl q =>
  we_lk (h F σ H _ ow sl fun F' H' p e o => f p F' os1 H' _ o fun F2 H2 s o2 dq => q F2 H2 _ (e.trans s) o2 (cl_dat dq))
theorem sx_frzF {j : Nat} {q : Addr} {m : Ent} {d : PyData} (f : Frb m d) (hj : os[j]? = some (q, m)) (hi : es[i]? = some (sl (own q))) (h : SX X (es.set i (sl (dat d))) (os.eraseIdx j) F0 rest D) : SX X es os F0 rest D := fun F σ H s ow sl =>
  wps_lk (f q F _ H _ (ow.perm (perm_at hj)) fun F2 H2 s2 o2 dq => by
    obtain ⟨v, ev, cv⟩ := sl.val hi
    obtain rfl : v = .ref q := cv.now
    have sl2 := (sl.mono s2).put (i := i) (v := .ref q) (φ := dat d) (cl_dat dq)
    have e2 : σ.set i (some (.ref q)) = σ := by
      refine List.ext_getElem? fun m => ?_
      by_cases hm : i = m
      · subst hm
        rw [List.getElem?_set_self (List.getElem?_eq_some_iff.mp ev).1, ev]
      · rw [List.getElem?_set_ne hm]
    rw [e2] at sl2
    exact h F2 σ H2 (s.trans s2) o2 sl2)
theorem ex_dget (hi : kd.Inj) (hk : dGet w k = some x) (B : Bd X N W G n) (hr : RdD kd φ os2 (eM enc w)) (ha : EX X es os a φ os1) (hb : EX X es os1 b (dat (kd.ek k)) os2) (hs : NoSl b := by intro _ _; rfl) : EX X es os (.Subscript a b pos) (dat (enc x)) os2 := fun F σ H Q ow sl q =>
  we_of (pe_dget B.u1 pe_u pe_u hs) (ha F σ H _ ow sl fun F1 H1 v e1 o1 c1 => hb F1 σ H1 _ o1 (sl.mono e1) fun F2 H2 y e2 o2 c2 => by
    obtain ⟨p, kvs, rfl, rd, dv⟩ := hr F2 H2 v o2 (c1.mono e2)
    obtain ⟨u, hu, hd⟩ := (dv_get k dv).1 (enc x) (by rw [dGet_map, hk]; rfl)
    exact ⟨p, u, rfl, hu ▸ dget_of hi o2.ex rd (key_val c2), q F2 H2 u (e1.trans e2) o2 (cl_dat hd)⟩)
theorem dget_some (hi : kd.Inj) {F H : Hp} {p : Addr} {kvs : List (κ × L2.V)} (dv : DV F kvs (eM enc w)) : (dGet kvs k).isSome = (dGet w k).isSome := by
  cases h : dGet w k with
  | none =>
    rw [(dv_get k dv).2 (by rw [dGet_map, h]; rfl)]
    rfl
  | some x =>
    obtain ⟨u, hu, _⟩ := (dv_get k dv).1 (enc x) (by rw [dGet_map, h]; rfl)
    rw [hu]
    rfl
/-- {} -/
theorem en_dnew : EN X es os (.Dict [] [] pos) (od kd []) os := fun F σ H Q ow sl q => by
  cases kd with
  | fl f => exact we_of pe_dnewK fun p hp => q F _ p (Same.refl F) (ow.new hp (od_one (kd := .fl f) .nil))
  | tu f => exact we_of pe_dnewT fun p hp => q F _ p (Same.refl F) (ow.new hp (od_one (kd := .tu f) .nil))
theorem dput_enc {F : Hp} {kvs : List (κ × L2.V)} {v : L2.V} (dv : DV F kvs (eM enc w)) (hd : Dq F v (enc x)) : DV F (dPut kvs k v) (eM enc (dPut w k x)) := by
  have := dv_put k hd dv
  rw [dPut_map] at this
  exact this
/-- a[b] = e -/
theorem sx_dput {w' : List (κ × β)} {tpos : Pos} {q : Addr} {os' : List (κ × β) → Os} (hi : kd.Inj) (hp : dPutO w k x = some w') (B : Bd X N W G n) (he : EX X es os e (dat (enc x)) os1) (ho : EX X es os1 a (own q) os2) (hb : EX X es os2 b (dat (kd.ek k)) os3) (hw : WrT os3 q (odT kd enc) w os')
    (h : SX X es (os' w') F0 rest D) (hs : swapsWith e (some (.Subscript a b tpos)) pos.line X.env = pure false := by rfl) : SX X es os F0 (.Assign [.Subscript a b tpos] e pos :: rest) D := fun F σ H s ow sl => by
  unfold dPutO at hp
  split at hp
  · rename_i hl
    cases hp
    refine wps_cons (ws_of (ps_dput B.u1 pe_u pe_u pe_u hs) (he F σ H _ ow sl fun F1 H1 v e1 o1 c1 => ho F1 σ H1 _ o1 (sl.mono e1) fun F2 H2 u e2 o2 c2 => hb F2 σ H2 _ o2 (sl.mono (e1.trans e2)) fun F3 H3 y e3 o3 c3 => ?_))
    obtain rfl : u = .ref q := c2.now
    obtain ⟨_, o, hq, _, ⟨kvs, rfl, dv⟩, z⟩ := hw F3 H3 _ uni_od o3
    have e := (e1.trans e2).trans e3
    refine ⟨q, _, rfl, dput_of hi o3.ex hq (key_val c3) (by rw [dv_len dv, List.length_map]; exact hl), ?_⟩
    exact h F3 σ _ (s.trans e) (z _ _ (Kd.ntup _ _) (od_one (dput_enc dv ((c1.mono e2).mono e3).now))) (sl.mono e)
  · cases hp
end
end Z
namespace Z
open PySem PySem.Spec PyProof.Rows L2
def ixD (n : Nat) (z : Int) : Nat := (ixN n z).getD 0
def setI {α : Type} (xs : List α) (z : Int) (x : α) : List α := xs.set (ixD xs.length z) x
theorem setI_len {α : Type} (xs : List α) (z : Int) (x : α) : (setI xs z x).length = xs.length := by
  unfold setI
  rw [List.length_set]
end Z
namespace Z
open PySem PySem.Spec PyProof.Rows L2
section
variable {X : Cx} {es : List Slot} {os os1 os2 : Os} {F0 : Hp} {rest : List Stmt} {D : Ends} {N V G W : List Str} {n i vi gi : Nat} {x : Str} {p pos apos cpos : Pos} {e a b : Expr} {φ : VP} {κ β : Type} {enc : β → PyData} {w : List (κ × β)}
theorem dq_keyV {F : Hp} : ∀ k : Key, Dq F (kV k) (kPD k)
  | .inl j => .int j
  | .inr t => .str t
theorem dqall_keyV {F : Hp} : ∀ ks : List Key, DqAll F (ks.map kV) (ks.map kPD)
  | [] => .nil
  | k :: ks => .cons (dq_keyV k) (dqall_keyV ks)
theorem ix_keysD {kd : Kd κ} {tg : Expr} (he : EX X es os e (dat (kd.pd (eM enc w))) os1) : IX X tg es os e (w.map (·.1)) (fun x => dat (kd.ek x)) anyOs os1 := fun F σ H R ow sl q =>
  wi_of (pi_keys pe_u) (he F σ H _ ow sl fun F1 H1 v e1 o1 c1 => by
    obtain ⟨d, ob, kvs, rfl, h1, dv⟩ := pd_dq c1.now
    have hkk : kvs.map (·.1) = w.map (·.1) := by rw [dv_keys dv, List.map_map]; rfl
    have at_ : ∀ {i : Nat} {x : κ}, (w.map (·.1))[i]? = some x → ∃ v, kvs[i]? = some (x, v) := fun {i x} hx => by
      rw [← hkk, List.getElem?_map] at hx
      cases hy : kvs[i]? with
      | none => rw [hy] at hx; cases hx
      | some y =>
        rw [hy] at hx
        cases hx
        exact ⟨y.2, rfl⟩
    have hlen : kvs.length = w.length := by rw [dv_len dv, List.length_map]
    cases kd with
    | fl f =>
      refine ⟨d, ob, rfl, .inl ⟨_, o1.ex _ _ h1, q F1 H1 _ e1 o1 fun F2 H2 os2 i s ow2 _ => ?_⟩⟩
      have hd := ow2.ex _ _ (s _ _ h1)
      refine ⟨fun h => ⟨hd, by rw [List.length_map] at h ⊢; omega⟩, fun x hx => ?_⟩
      obtain ⟨v, hv⟩ := at_ hx
      have hlt := (List.getElem?_eq_some_iff.mp hv).1
      refine ⟨⟨hd, by rw [List.length_map]; exact hlt⟩, fun u H3 yy => ?_⟩
      obtain ⟨rfl, k, v2, h2, rfl⟩ := yy
      rw [List.getElem?_map, hv] at h2
      cases h2
      exact ⟨F2, Same.refl F2, ow2, cl_dat (dq_keyV _)⟩
    | tu f =>
      refine ⟨d, ob, rfl, .inr ⟨_, o1.ex _ _ h1, q F1 H1 _ e1 o1 fun F2 H2 os2 i s ow2 _ => ?_⟩⟩
      have hd := ow2.ex _ _ (s _ _ h1)
      refine ⟨fun h => ⟨hd, by rw [List.length_map] at h ⊢; omega⟩, fun x hx => ?_⟩
      obtain ⟨v, hv⟩ := at_ hx
      have hlt := (List.getElem?_eq_some_iff.mp hv).1
      refine ⟨⟨hd, by rw [List.length_map]; exact hlt⟩, fun u H3 yy => ?_⟩
      obtain ⟨rfl, k, v2, r, h2, rfl, h3⟩ := yy
      rw [List.getElem?_map, hv] at h2
      cases h2
      obtain ⟨sf, o3⟩ := ow2.tup h3
      exact ⟨_, sf, o3, cl_dat (.tup upd_same (dqall_keyV _))⟩)
def valsO (p d : Addr) : HO := .ext fun h => h.IsValuesView p d
theorem valsO_ok {P : Program} {w : World} {H : Hp} {h : Heap} {p d : Addr} (e : h.get? p = some { cls := .type "dict_values", data := .fields #[.ref d] }) : ObjOk P w H h p (valsO p d) :=
  ⟨⟨_, e, rfl, rfl⟩, ⟨_, e⟩, fun h1 h2 x k => let ⟨o, ho, r⟩ := x; ⟨o, k o ho, r⟩⟩
def tVals (td : TE) : TE := fun σ H Q => td σ H fun x H1 => ∃ (d : Addr) (kvs : List (Key × L2.V)), x = .ref d ∧ Rd H1 d (.dK kvs) ∧ ∀ p, H1 p = none → Q (.ref p) (upd H1 p (valsO p d))
theorem pe_vals {td : TE} (he : PE X e td) (hbase : attributeBase e "values" X.env (eval e X.env) = eval e X.env := by rfl) (hline : (apos.endLine == cpos.line) = true := by rfl) : PE X (.Call (.Attribute e "values" apos) [] [] cpos) (tVals td) := by
  refine ⟨fun pins s σ H R I h => ?_⟩
  refine wpAny_Call_method (T := "dict") (id := "dict.values") hbase rfl hline PySem.F.plainAttrs_dict PySem.F.slot_dict_values PySem.F.type_dict_values (thn (he.run pins s σ H _ I h) fun u s1 ⟨x, H1, I1, rx, d, kvs, ex, rd, q⟩ => ?_)
  subst ex
  obtain rfl : u = Value.ref d := rx
  obtain ⟨z, hs, vs, rel, dd⟩ := dk_rd I1.hok rd
  refine ⟨dd.typeIs, dd.mapOf.noDict, ?_⟩
  have hf : H1 s1.heap.objs.size = none := I1.hok.fresh (Nat.le_refl _)
  have fin : EP X pins σ R (.ref s1.heap.objs.size) { s1 with heap := s1.heap.push { cls := .type "dict_values", data := .fields #[.ref d] } } :=
    ⟨.ref s1.heap.objs.size, upd H1 s1.heap.objs.size (valsO s1.heap.objs.size d), I1.laid (t' := s1.toks) (fun b u e => Heap.get?_push_of_some _ e) (Nat.le_refl _) (valsO_ok (Heap.get?_push_size _ rfl)), rfl, q _ hf⟩
  show wpAny _ _ (callWith cpos (.builtin "dict.values") [.ref d] [] []) _ X.xe s1
  exact method_meetsIn PySem.F.slot_dict_values PySem.F.entry_dict_values rfl (PySem.evalArgs_none ⟨rfl, dd.typeIs, PySem.F.args_dict_values_1 _, _, meets_dict_values (mixKind X.prog X.w) d hs, ⟨vs, dd⟩, fin⟩)
def vwV (φ : VP) : VP := fun F v => ∃ p a, v = .ref p ∧ F p = some (valsO p a) ∧ Cl φ F (.ref a)
theorem ex_vals {f : κ → Key} {d : List (κ × PyData)} (hr : RdD (.fl f) φ os1 d) (he : EX X es os e φ os1) (hbase : attributeBase e "values" X.env (eval e X.env) = eval e X.env := by rfl) (hline : (apos.endLine == cpos.line) = true := by rfl) :
    EX X es os (.Call (.Attribute e "values" apos) [] [] cpos) (vwV φ) os1 := fun F σ H Q ow sl q =>
  we_of (pe_vals pe_u hbase hline) (he F σ H _ ow sl fun F1 H1 v e1 o1 c1 => by
    obtain ⟨a, kvs, rfl, rd, dv⟩ := hr F1 H1 v o1 c1
    refine ⟨a, _, rfl, rd, fun p hp => ?_⟩
    have fp := o1.ex.free hp
    exact q _ _ _ (e1.trans (same_upd fp)) (o1.frozen hp) fun G g => ⟨p, a, rfl, g _ _ upd_same, (c1.mono (same_upd fp)).mono g⟩)
/-- list(d.values()) -/
def rListV : List L2.V → Hp → VK → Prop := fun xs H Q => ∃ (p d : Addr) (kvs : List (Key × L2.V)), xs = [.ref p] ∧ H p = some (valsO p d) ∧ Rd H d (.dK kvs) ∧ ∀ m, H m = none → Q (.ref m) (upd H m (.lst (kvs.map (·.2))))
theorem kv_all {κ : Type} {kvs : List (κ × L2.V)} {vs : List (κ × Value)} (r : KV kvs vs) : Vals (kvs.map (·.2)) (vs.map (·.2)) := by
  induction r with
  | nil => exact .nil
  | cons h1 h2 ih => exact .cons h1.2 ih
theorem itemsOf_list {P : Nat → Value → Prop} {acc : Array Value} {n : Nat} {us : List Value} (h : ItemsOf P acc n) (hl : us.length = n) (hp : ∀ i v, P i v → us[i]? = some v) : acc.toList = us := by
  refine List.ext_getElem? fun i => ?_
  by_cases hi : i < n
  · have h1 : i < acc.size := by rw [h.1]; exact hi
    have := hp i acc[i] (h.2 i _ (Array.getElem?_eq_getElem h1))
    rw [this, Array.getElem?_toList, Array.getElem?_eq_getElem h1]
  · rw [List.getElem?_eq_none (by rw [Array.length_toList, h.1]; omega), List.getElem?_eq_none (by omega)]
theorem cr_listV (hc : X.calm = true) : CallR X (.type "list") rListV := by
  intro pins s σ H vs us Q I r h
  obtain ⟨p, d, kvs, rfl, hp, rd, q⟩ := h
  obtain ⟨u, rfl, ru⟩ := vals1 r
  obtain rfl : u = Value.ref p := ru
  obtain ⟨hv, _, _⟩ := I.hok p _ hp
  have hv : s.heap.IsValuesView p d := hv
  obtain ⟨z, hs, vs, rel, dd⟩ := dk_rd I.hok rd
  obtain ⟨o, es, ep, dr⟩ := id dd
  have da : s.heap.DictAt (mixKind X.prog X.w) d vs ep := ⟨o, es, dr⟩
  have K := PySem.W.kdl_values (prog := X.prog) (w := X.w) (knd := mixKind X.prog X.w) (d := d) (r := p) (kvs := vs) (ep := ep)
  refine PySem.W.kdl_call K (I.ok.hd hc) ⟨hv, da⟩ (by rw [← rel.length]; exact z) fun h' tk acc c hk hl hi => ?_
  have hf : H s.heap.objs.size = none := I.hok.fresh (Nat.le_refl _)
  refine ⟨.ref s.heap.objs.size, upd H s.heap.objs.size (.lst (kvs.map (·.2))), I.laid (t' := tk) hk (Nat.le_refl _) ?_, rfl, q _ hf⟩
  refine ⟨by rw [List.length_map]; exact z, acc.toList, c, ?_, ?_⟩
  · rw [itemsOf_list (us := vs.map (·.2)) hi (by rw [List.length_map]) fun i v ⟨k, h⟩ => by rw [List.getElem?_map, h]; rfl]
    exact kv_all rel
  · rw [Array.toArray_toList]
    exact hl
theorem rc_listV {f : κ → Key} (hr : RdD (.fl f) φ os (eM enc w)) : RCN rListV [vwV φ] os (ol ((w.map (·.2)).map enc)) os := fun F H vs Q ow c q => by
  obtain ⟨v, rfl, h⟩ := cla1 c
  obtain ⟨p, a, rfl, hp, ca⟩ := h.now
  obtain ⟨a', kvs, ea, rd, dv⟩ := hr F H _ ow ca
  cases ea
  refine ⟨p, a, _, rfl, ow.ex _ _ hp, rd, fun m hm => q F _ m (Same.refl F) (ow.new hm fun G g => ⟨_, rfl, ?_⟩)⟩
  have := dv_vals dv
  rw [List.map_map] at this
  rw [List.map_map, List.map_map]
  exact dqall_mono g _ _ this
end
end Z
namespace Z
open PySem PySem.Spec PyProof.Rows L2
/-- what a comprehension asks of its target and of what it walks -/
structure CpOk (X : Cx) (es : List Slot) (os : Os) {α : Type} (tg iter : Expr) (scope : Scope) (own : List (Str × Nat)) (xs : List α) (vp : α → VP) (c : Os → Prop) (g : TG) (up : α → List Slot → List Slot) (os0 : Os) : Prop where
  calm : X.calm = true
  nd : X.N.Nodup
  ok : BlkOk X.N X.env.scope scope own
  pg : ∀ X', Fam X scope X' → PG X' tg g
  hv : ∀ j ∈ own.map (·.2), es[j]? = some un
  hid : ∀ σ : L2.St, wipe (wipe σ (own.map (·.2))) (own.map (·.2)) = wipe σ (own.map (·.2))
  hg : ∀ x F σ H v Q os2, Sl F es σ → wipe σ (own.map (·.2)) = σ → Ow F os2 H → Cl (vp x) F v → (∀ σ', Sl F (up x es) σ' → wipe σ' (own.map (·.2)) = σ → Q σ' H) → g v σ H Q
  hz : xs.length < sizeLine
  hi : IX X tg es os iter xs vp c os0
  hc : ∀ q, c (q :: os0)
section
variable {X : Cx} {es : List Slot} {os os0 os1 os2 : Os} {F0 : Hp} {rest : List Stmt} {D : Ends} {N V G W : List Str} {k i j vi gi : Nat} {x y : Str} {p pos tpos : Pos} {e : Expr} {α β κ γ : Type} {scope : Scope} {iter tg elt kx vx : Expr} {ifs : List Expr} {own : List (Str × Nat)} {xs : List α} {vp : α → VP} {c : Os → Prop} {g : TG} {up : α → List Slot → List Slot}
theorem cp_mk1 (B : Bd X N W G k) (hj : N[j]? = some x) (hun : es[j]? = some un) (hblk : blkC X.N X.env.scope scope [(x, j)] = true) (hown : ownB scope X.env.scope x = true) (hz : xs.length < sizeLine) (hi : IX X (.Name x tpos) es os iter xs vp c os0) (hc : ∀ q, c (q :: os0)) :
    CpOk X es os (.Name x tpos) iter scope [(x, j)] xs vp c (gName j) (fun x es => es.set j (sl (vp x))) os0 where
  calm := B.calm
  nd := B.hN ▸ B.nd
  ok := blkOk_by hblk
  pg := fun X' hX => pg_own hX B hj hown
  hv := fun m hm => by
    have e : m = j := by simpa using hm
    rw [e]
    exact hun
  hid := lc_id1
  hg := fun x F σ H v Q os2 sl hw ow c q => lc_gname x F σ H v Q os2 sl hw ow c q
  hz := hz
  hi := hi
  hc := hc
def dcS [DecidableEq κ] (m : α → Option (Option (κ × β))) : List α → List (κ × β) → Option (List (κ × β))
  | [], w => some w
  | x :: xs, w => (m x).bind fun t => dcS m xs (match t with
    | some z => dPut w z.1 z.2
    | none => w)
theorem dput_len [DecidableEq κ] (w : List (κ × β)) (k : κ) (v : β) : (dPut w k v).length ≤ w.length + 1 := by
  unfold dPut
  split
  · rw [List.length_map]; omega
  · rw [List.length_append]; simp
def DcT [DecidableEq κ] (f : κ → Key) (enc : β → PyData) (m : α → Option (Option (κ × β))) (xs : List α) (wf : List (κ × β)) (os0 : Os) (Dl : Addr) (F1 : Hp) (i : Nat) (H : Hp) : Prop :=
  ∃ w F, dcS m (xs.drop i) w = some wf ∧ w.length ≤ i ∧ Same F1 F ∧ Ow F ((Dl, od (.fl f) (eM enc w)) :: os0) H
theorem dc_read [DecidableEq κ] {f : κ → Key} {enc : β → PyData} {m : α → Option (Option (κ × β))} {wf : List (κ × β)} (hinj : (Kd.fl f).Inj) (h : CpOk X es os tg iter scope own xs vp c g up os0) (hif : ifs.length ≤ 1) (hl : dcS m xs [] = some wf)
    (hb : ∀ x t q, x ∈ xs → m x = some t → ∃ b, ∀ X', Fam X scope X' → PTX X' (up x es) (q :: os0) ifs b (q :: os0) ∧ (b = true → ∃ z, t = some z ∧ EX X' (up x es) (q :: os0) kx (dat ((Kd.fl f).ek z.1)) (q :: os0) ∧ EX X' (up x es) (q :: os0) vx (dat (enc z.2)) (q :: os0)) ∧ (b = false → t = none))
    {F σ H Q} (ow : Ow F os H) (sl : Sl F es σ) (q : ∀ F' H' p, Same F F' → Ow F' ((p, od (.fl f) (eM enc wf)) :: os0) H' → Q (.ref p) H') : tDc (WI X tg iter) g (tIfs X scope ifs) (tElt X scope kx) (tElt X scope vx) (own.map (·.2)) σ H Q := by
  refine h.hi F σ H _ ow sl fun F1 H1 J e1 o1 good Dl hD => ?_
  refine ⟨fun i n H => n = xs.length - i ∧ i ≤ xs.length ∧ DcT f enc m xs wf os0 Dl F1 i H, ⟨_, rfl, Nat.zero_le _, [], F1, hl, Nat.le_refl _, Same.refl F1, ?_⟩, ?_⟩
  · exact o1.new hD (od_one (kd := .fl f) .nil)
  · rintro i n H' ⟨rfl, hi, w, F', hr, hwl, e', o'⟩
    obtain ⟨stop, go⟩ := good F' H' _ i e' o' (h.hc _)
    cases hx : xs[i]? with
    | none =>
      have hi2 : xs.length ≤ i := List.getElem?_eq_none_iff.mp hx
      rw [List.drop_eq_nil_of_le hi2] at hr
      cases hr
      exact .inl ⟨stop hi2, q F' H' Dl (e1.trans e') o'⟩
    | some x =>
      obtain ⟨hgo, hyl⟩ := go x hx
      have hlt : i < xs.length := (List.getElem?_eq_some_iff.mp hx).1
      rw [drop_cons' hx] at hr
      unfold dcS at hr
      obtain ⟨t, hm, hr⟩ := bnd hr
      refine .inr ⟨hgo, DcT f enc m xs wf os0 Dl F1 (i + 1), fun H2 hH2 => ⟨_, by omega, rfl, by omega, hH2⟩, fun v H3 yv => ?_⟩
      obtain ⟨F3, e3, o3, c3⟩ := hyl v H3 yv
      have slw : Sl F3 es (wipe σ (own.map (·.2))) := sl_wipe (sl.mono ((e1.trans e').trans e3)) _ fun j hj => ⟨un, h.hv j hj, rfl⟩
      refine h.hg x F3 _ H3 v _ _ slw (h.hid σ) o3 c3 fun σ' sl' hw => ⟨hw, ?_⟩
      obtain ⟨b, key⟩ := hb x t (Dl, od (.fl f) (eM enc w)) (List.mem_of_getElem? hx) hm
      have yes : ∀ F4 H4, Same F3 F4 → Ow F4 ((Dl, od (.fl f) (eM enc w)) :: os0) H4 → b = true → tElt X scope kx σ' H4 fun y H5 => tElt X scope vx σ' H5 fun z H6 => ∃ kvs k, y = kV k ∧ H6 Dl = some (.dK kvs) ∧ kvs.length < sizeLine ∧ DcT f enc m xs wf os0 Dl F1 (i + 1) (upd H6 Dl (.dK (putK kvs k z))) := by
        intro F4 H4 e4 o4 hbt X' hX'
        obtain ⟨_, k2, _⟩ := key X' hX'
        obtain ⟨z, rfl, k3, _⟩ := k2 hbt
        refine k3 F4 σ' H4 _ o4 (sl'.mono e4) fun F5 H5 y e5 o5 c5 => ?_
        intro X'' hX''
        obtain ⟨_, k2', _⟩ := key X'' hX''
        obtain ⟨z', ez, _, k4⟩ := k2' hbt
        cases ez
        refine k4 F5 σ' H5 _ o5 (sl'.mono (e4.trans e5)) fun F6 H6 u e6 o6 c6 => ?_
        obtain ⟨_, o, ho, _, kvs, rfl, dv⟩ := o6.atU uni_od
        have hlen : kvs.length = w.length := by rw [dv_len dv, List.length_map]
        refine ⟨_, f z.1, key_val (kd := .fl f) (c5.mono e6), ho, by rw [List.length_map, hlen]; have := h.hz; omega, ?_⟩
        have e7 : putK (kvs.map fun p => (f p.1, p.2)) (f z.1) u = (dPut kvs z.1 u).map fun p => (f p.1, p.2) := dPut_key hinj z.1 u kvs
        rw [e7]
        refine ⟨dPut w z.1 z.2, F6, hr, by have := dput_len w z.1 z.2; omega, ((e'.trans e3).trans e4).trans (e5.trans e6), ?_⟩
        exact o6.putU (o := (Kd.fl f).ho (dPut kvs z.1 u)) uni_od (od_one (kd := .fl f) (dput_enc dv c6.now))
      have no : ∀ F4 H4, Same F3 F4 → Ow F4 ((Dl, od (.fl f) (eM enc w)) :: os0) H4 → t = none → DcT f enc m xs wf os0 Dl F1 (i + 1) H4 := by
        intro F4 H4 e4 o4 ht
        subst ht
        exact ⟨w, F4, hr, by omega, (e'.trans e3).trans e4, o4⟩
      have ex : b = false → t = none ∨ ¬ ∃ X', Fam X scope X' := fun hb0 => by
        by_cases hX : ∃ X', Fam X scope X'
        · obtain ⟨X', hX'⟩ := hX
          exact .inl ((key X' hX').2.2 hb0)
        · exact .inr hX
      match ifs, hif, key, yes with
      | [], _, key, yes =>
        intro X' hX'
        obtain ⟨k1, k2, k3⟩ := key X' hX'
        cases k1
        exact yes F3 H3 (Same.refl F3) o3 rfl X' hX'
      | [cd], _, key, yes =>
        intro X' hX'
        obtain ⟨k1, k2, k3⟩ := key X' hX'
        cases k1 with
        | one ht =>
          refine ht F3 σ' H3 _ o3 sl' fun F4 H4 e4 o4 => ?_
          cases b with
          | true =>
            rw [if_pos rfl]
            exact yes F4 H4 e4 o4 rfl
          | false =>
            rw [if_neg Bool.false_ne_true]
            exact no F4 H4 e4 o4 (k3 rfl)
      | _ :: _ :: _, hif, _, _ =>
        rw [List.length_cons, List.length_cons] at hif
        omega
theorem en_dc [DecidableEq κ] {f : κ → Key} {enc : β → PyData} {m : α → Option (Option (κ × β))} {wf : List (κ × β)} (hinj : (Kd.fl f).Inj) (h : CpOk X es os tg iter scope own xs vp c g up os0) (hif : ifs.length ≤ 1) (hl : dcS m xs [] = some wf)
    (hb : ∀ x t q, x ∈ xs → m x = some t → ∃ b, ∀ X', Fam X scope X' → PTX X' (up x es) (q :: os0) ifs b (q :: os0) ∧ (b = true → ∃ z, t = some z ∧ EX X' (up x es) (q :: os0) kx (dat ((Kd.fl f).ek z.1)) (q :: os0) ∧ EX X' (up x es) (q :: os0) vx (dat (enc z.2)) (q :: os0)) ∧ (b = false → t = none))
    (hs : ∀ x, foldedSetIterable iter X.env x = pure x := by intro _; rfl) : EN X es os (.DictComp kx vx [⟨tg, iter, ifs, 0⟩] scope pos) (od (.fl f) (eM enc wf)) os0 := fun F σ H Q ow sl q =>
  we_of (pe_dc h.calm h.nd pi_u h.ok (fun s H C cl fp => h.pg _ ⟨s, H, C, cl, fp, rfl⟩) (fun s H C cl fp => pts_u ⟨s, H, C, cl, fp, rfl⟩ ifs) (fun s H C cl fp => pe_elt ⟨s, H, C, cl, fp, rfl⟩) (fun s H C cl fp => pe_elt ⟨s, H, C, cl, fp, rfl⟩) hs)
    (dc_read hinj h hif hl hb ow sl q)
end
end Z
namespace Z
open PySem PySem.Spec PyProof.Rows L2
/-- to assign a value of ψ to tg: slots and what is owned change -/
def GY (X : Cx) (tg : Expr) (ψ : VP) (es : List Slot) (os : Os) (es' : List Slot) (os' : Os) : Prop := ∀ F σ H v (Q : L2.St → Hp → Prop), Ow F os H → Sl F es σ → Cl ψ F v → (∀ F' σ' H', Same F F' → Ow F' os' H' → Sl F' es' σ' → Q σ' H') → WG X tg v σ H Q
end Z
namespace Z
open PySem PySem.Spec PyProof.Rows L2
def lenO {α : Type} (xs : List α) : Option Unit := if xs.length < sizeLine then some () else none
theorem lenO_ok {α : Type} {xs : List α} {u : Unit} (h : lenO xs = some u) : xs.length < sizeLine := by
  unfold lenO at h
  split at h
  · assumption
  · cases h
section
variable {X : Cx} {es : List Slot} {os os0 : Os} {N V G W : List Str} {k i j : Nat} {x y : Str} {pos tpos p1 p2 : Pos} {e : Expr} {α β S : Type} {scope : Scope} {elt iter : Expr} {ifs : List Expr} {xs : List α} {enc : β → PyData}
theorem lc_mk2 {c : Os → Prop} {d1 d2 : α → PyData} {kk : Nat} (f : S → α → Option (Option β × S)) (OS : S → Os → Os) (s0 : S) (ys : List β) (sf : S) (B : Bd X N W G k) (hi : N[i]? = some x) (hj : N[j]? = some y) (hij : i ≠ j) (hu1 : es[i]? = some un) (hu2 : es[j]? = some un) (hblk : blkC X.N X.env.scope scope [(x, i), (y, j)] = true)
    (ho1 : ownB scope X.env.scope x = true) (ho2 : ownB scope X.env.scope y = true) (hif : ifs.length ≤ 1)
    (hl : xs.length < sizeLine ∧ lcS f xs s0 = some (ys, sf)) (hx : IX X (.Tuple [.Name x p1, .Name y p2] kk tpos) es os iter xs (fun z => dat (.tuple [d1 z, d2 z])) c (OS s0 os0)) (hc : ∀ s tl, c (OS s tl)) (hperm : ∀ s q tl, (OS s (q :: tl)).Perm (q :: OS s tl))
    (hb : ∀ s z t tl, z ∈ xs → f s z = some t → ∃ b os1, ∀ X', Fam X scope X' → PTX X' ((es.set i (sl (dat (d1 z)))).set j (sl (dat (d2 z)))) (OS s tl) ifs b os1 ∧ (b = true → ∃ y, t.1 = some y ∧ EX X' ((es.set i (sl (dat (d1 z)))).set j (sl (dat (d2 z)))) os1 elt (dat (enc y)) (OS t.2 tl)) ∧ (b = false → t.1 = none ∧ os1 = OS t.2 tl)) :
    LcOk X es os (.Tuple [.Name x p1, .Name y p2] kk tpos) iter elt ifs scope [(x, i), (y, j)] xs (fun z => dat (.tuple [d1 z, d2 z])) c (gTup X.K 2 (gCons (gName i) (gCons (gName j) gNil))) (fun z es => (es.set i (sl (dat (d1 z)))).set j (sl (dat (d2 z)))) enc f OS s0 os0 ys sf where
  calm := B.calm
  nd := B.hN ▸ B.nd
  ok := blkOk_by hblk
  pg := fun X' hX => by
    have hK : X'.K = X.K := by
      obtain ⟨_, _, _, _, _, rfl⟩ := hX
      rfl
    have := pg_own2 (tpos := tpos) (kk := kk) (p1 := p1) (p2 := p2) hX B hi hj ho1 ho2
    rw [hK] at this
    exact this
  hv := fun m hm => by
    have e : m = i ∨ m = j := by simpa using hm
    rcases e with rfl | rfl
    · exact hu1
    · exact hu2
  hid := lc_id2 hij
  hg := fun x F σ H v Q os2 sl hw ow c q => lc_gpair hij x F σ H v Q os2 sl hw ow c q
  hif := hif
  hl := hl.2
  hz := hl.1
  hi := hx
  hc := hc
  hperm := hperm
  hb := hb
end
end Z
namespace Z
open PySem PySem.Spec PyProof.Rows L2
section
variable {X : Cx} {es es1 es2 : List Slot} {os os1 os2 os3 : Os} {F0 : Hp} {rest : List Stmt} {D : Ends} {N V G W : List Str} {n i j vi gi gj : Nat} {x y : Str} {p p2 q pos tpos apos cpos : Pos} {e a b c k v : Expr} {φ ψ : VP} {α κ β γ : Type} {enc : β → PyData}
theorem sw_noD {elt elt2 : Expr} {gs : List Comprehension} {scope : Scope} {py : Pos} {l : Nat} {env : Env} (hy : (env.scope.names.lookup y == some .local) = false) : swapsWith (.DictComp elt elt2 gs scope pos) (some (.Name y py)) l env = pure false := by
  unfold swapsWith
  have ky : (env.kindOf y == some NameKind.local) = false := hy
  simp only [ky, Bool.and_false, Bool.false_and]
theorem tx_din [DecidableEq κ] {kd : Kd κ} {w : List (κ × β)} {k : κ} (hi : kd.Inj) (B : Bd X N W G n) (hr : RdD kd φ os2 (eM enc w)) (ha : EX X es os a (dat (kd.ek k)) os1) (hb : EX X es os1 b φ os2) (hm : behindInMarks .In b = false := by rfl) : TX X es os (.Compare a [.In] [b] pos) (dGet w k).isSome os2 := fun F σ H Q ow sl q =>
  wt_of (pt_cmp (pc_din B.u1 pe_u pe_u) hm) (ha F σ H _ ow sl fun F1 H1 y e1 o1 c1 => hb F1 σ H1 _ o1 (sl.mono e1) fun F2 H2 v e2 o2 c2 => by
    obtain ⟨p, kvs, rfl, rd, dv⟩ := hr F2 H2 v o2 c2
    exact ⟨p, _, rfl, dget_of hi o2.ex rd (key_val (c1.mono e2)), _, rfl, by rw [dget_some (H := H2) (p := p) hi dv]; exact q F2 H2 (e1.trans e2) o2⟩)
theorem tx_dnotin [DecidableEq κ] {kd : Kd κ} {w : List (κ × β)} {k : κ} (hi : kd.Inj) (B : Bd X N W G n) (hr : RdD kd φ os2 (eM enc w)) (ha : EX X es os a (dat (kd.ek k)) os1) (hb : EX X es os1 b φ os2) (hm : behindInMarks .NotIn b = false := by rfl) : TX X es os (.Compare a [.NotIn] [b] pos) (!(dGet w k).isSome) os2 := fun F σ H Q ow sl q =>
  wt_of (pt_cmp (pc_dnotin B.u1 pe_u pe_u) hm) (ha F σ H _ ow sl fun F1 H1 y e1 o1 c1 => hb F1 σ H1 _ o1 (sl.mono e1) fun F2 H2 v e2 o2 c2 => by
    obtain ⟨p, kvs, rfl, rd, dv⟩ := hr F2 H2 v o2 c2
    exact ⟨p, _, rfl, dget_of hi o2.ex rd (key_val (c1.mono e2)), _, rfl, by rw [dget_some (H := H2) (p := p) hi dv]; exact q F2 H2 (e1.trans e2) o2⟩)
end
end Z
namespace Z
open PySem PySem.Spec PyProof.Rows L2
section
variable {X : Cx} {es es1 es2 : List Slot} {os os1 os2 os3 : Os} {F0 : Hp} {rest : List Stmt} {D : Ends} {N V G W : List Str} {n i j k vi gi gj : Nat} {x y : Str} {p p2 q' pos pos' tpos apos cpos : Pos} {e a b c v : Expr} {φ ψ : VP} {q : Addr} {d : PyData} {ds ds' : List PyData}
theorem rc_reprX {t : Str} (r : RdX X φ os d) (h : reprO d = some t) : RCX (rRepr X.K) [φ] os (dat (.str t)) os := fun F H vs Q ow c qq => by
  unfold reprO at h
  split at h
  · rename_i hl
    cases h
    obtain ⟨v, rfl, h⟩ := cla1 c
    exact ⟨v, d, rfl, r hl.2.1 F H v ow h, hl.1, hl.2.1, hl.2.2.1, hl.2.2.2, qq F H _ (Same.refl F) ow (cl_dat (.str _))⟩
  · cases h
end
end Z
namespace Z
open PySem PySem.Spec PyProof.Rows L2
end Z
namespace Z
open PySem PySem.Spec PyProof.Rows L2
section
variable {X : Cx} {es es1 es2 : List Slot} {os os1 os2 os3 : Os} {F0 : Hp} {rest : List Stmt} {D : Ends} {N V G W : List Str} {n i j k vi gi gj : Nat} {x y : Str} {pos pos' tpos apos cpos pp : Pos} {p q : Addr} {e a b c v : Expr} {φ ψ : VP} {γ : Type} {f : γ → Ent} {ws : List γ} {d d' : γ} {z : Int} {qs : List Addr}
theorem tx_chain {op op' : CmpOp} {r r' : R2} {φ ψ χ : VP} {k k' : Bool} (ho : OpR X (compareOp op) r) (ho' : OpR X (compareOp op') r') (hr : R2X X r φ ψ os2 (dat (.bool k))) (hr' : R2X X r' ψ χ os3 (dat (.bool k'))) (h23 : k = false → os2 = os3)
    (ha : EX X es os a φ os1) (hb : EX X es os1 b ψ os2) (hc : k = true → EX X es os2 c χ os3) (hlm : lastMarks [op, op'] [b, c] = false := by rfl) : TX X es os (.Compare a [op, op'] [b, c] pos) (k && k') os3 := fun F σ H Q ow sl q =>
  wt_of (pt_chain ho ho' pe_u pe_u pe_u hlm) (ha F σ H _ ow sl fun F1 H1 x e1 o1 c1 => hb F1 σ H1 _ o1 (sl.mono e1) fun F2 H2 y e2 o2 c2 =>
    hr F2 H2 x y _ o2 (c1.mono e2) c2 fun F3 H3 v e3 o3 c3 => ⟨k, clv_bool c3, by
      have e := (e1.trans e2).trans e3
      cases k with
      | true =>
        rw [if_pos rfl]
        refine hc rfl F3 σ H3 _ o3 (sl.mono e) fun F4 H4 z e4 o4 c4 => ?_
        exact hr' F4 H4 y z _ o4 ((c2.mono e3).mono e4) c4 fun F5 H5 v e5 o5 c5 => ⟨k', clv_bool c5, by simpa using q F5 H5 ((e.trans e4).trans e5) o5⟩
      | false =>
        rw [if_neg Bool.false_ne_true]
        exact ⟨false, rfl, by simpa using q F3 H3 e (h23 rfl ▸ o3)⟩⟩)
end
end Z
namespace Z
open PySem PySem.Spec PyProof.Rows L2
section
variable {P : Program} {w : World} {K : PySem.W.Frag} {mg : Str → Option Value} {base : Heap}
variable {α β : Type} {ps : α → List VP} {pre : α → Os} {m : α → Option β} {res : α → β → VP} {post : α → β → Os} {n : α → β → Ent} {x : Str} {st : Stmt} {f : Addr} {fd : FuncData} {N V Gs pn : List Str} {k nl : Nat}
theorem cal_ZQ {sts : List Stmt} (hst : defBody st = sts) (Fn : Fun K x x st f fd) (S : FnScope N pn (defScope st)) (nam : namB (defScope st) V Gs = true) (loc : V.all (locB (defScope st)) = true) (hmg : mg x = some (.ref f)) (hb : Binds K fd pn []) (hps : ∀ a, (ps a).length = pn.length) (hN : N.length = pn.length + nl)
    (body : ∀ (f : Addr) (cdv : Value) (A : Around) (outer : List Env) (s : Shared) (H : Hp) (E : XK) (a : α) (b : β) (F0 : Hp) (os : Os) (D : Ends), Bd (cxOf CX0 P w K mg base N x (defScope st) f cdv A outer s H E).nox N V Gs k → Bt (cxOf CX0 P w K mg base N x (defScope st) f cdv A outer s H E).nox V →
      m a = some b → RetZ F0 (post a b ++ os) (res a b) D → SX (cxOf CX0 P w K mg base N x (defScope st) f cdv A outer s H E).nox ((ps a).map sl ++ List.replicate nl un) (pre a ++ os) F0 sts D) : Cal P w K mg base (k + 1) x st pn (spZ ps pre m res post) := by
  subst hst
  exact cal_Z Fn S nam loc hmg hb hps hN body
theorem cal_NQ {sts : List Stmt} (hst : defBody st = sts) (Fn : Fun K x x st f fd) (S : FnScope N pn (defScope st)) (nam : namB (defScope st) V Gs = true) (loc : V.all (locB (defScope st)) = true) (hmg : mg x = some (.ref f)) (hb : Binds K fd pn []) (hps : ∀ a, (ps a).length = pn.length) (hN : N.length = pn.length + nl)
    (body : ∀ (f : Addr) (cdv : Value) (A : Around) (outer : List Env) (s : Shared) (H : Hp) (E : XK) (a : α) (b : β) (F0 : Hp) (os : Os) (D : Ends), Bd (cxOf CX0 P w K mg base N x (defScope st) f cdv A outer s H E).nox N V Gs k → Bt (cxOf CX0 P w K mg base N x (defScope st) f cdv A outer s H E).nox V →
      m a = some b → RetN F0 (post a b ++ os) (n a b) D → SX (cxOf CX0 P w K mg base N x (defScope st) f cdv A outer s H E).nox ((ps a).map sl ++ List.replicate nl un) (pre a ++ os) F0 sts D) : Cal P w K mg base (k + 1) x st pn (spN ps pre m n post) := by
  subst hst
  exact cal_N Fn S nam loc hmg hb hps hN body
end
end Z
namespace Z
open PySem PySem.Spec PyProof.Rows L2
end Z
namespace Z
open PySem PySem.Spec PyProof.Rows L2
section
variable {X : Cx} {es : List Slot} {os os1 : Os} {F0 : Hp} {rest : List Stmt} {D : Ends} {N V G W' : List Str} {k : Nat} {pos : Pos}
theorem cla_4 {F : Hp} {φ1 φ2 φ3 φ4 : VP} {vs : List L2.V} (h : ClA [φ1, φ2, φ3, φ4] F vs) : ∃ v1 v2 v3 v4, vs = [v1, v2, v3, v4] ∧ Cl φ1 F v1 ∧ Cl φ2 F v2 ∧ Cl φ3 F v3 ∧ Cl φ4 F v4 := by
  obtain ⟨v1, r1, rfl, h1, k1⟩ := h
  obtain ⟨v2, r2, rfl, h2, k2⟩ := k1
  obtain ⟨v3, r3, rfl, h3, k3⟩ := k2
  obtain ⟨v4, r4, rfl, h4, k4⟩ := k3
  have e : _ = [] := k4
  subst e
  exact ⟨v1, v2, v3, v4, rfl, h1, h2, h3, h4⟩
theorem sx_mk4 {i1 w1 i2 w2 i3 w3 i4 w4 : Nat} {t1 t2 t3 t4 pt p2 : Pos} {kt k2 : Nat} {x1 x2 x3 x4 : Str} {e1 e2 e3 e4 : Expr} {Rel : List VP → Os → Prop} (sc : Scope) (hsc : X.env.scope = sc) (B : Bd X N W' G k) (T : Bt X V) (hi1 : N[i1]? = some x1) (hi2 : N[i2]? = some x2) (hi3 : N[i3]? = some x3) (hi4 : N[i4]? = some x4) (hx1 : V[w1]? = some x1) (hx2 : V[w2]? = some x2) (hx3 : V[w3]? = some x3) (hx4 : V[w4]? = some x4) (hw : nswB sc [.Tuple [.Name x1 t1, .Name x2 t2, .Name x3 t3, .Name x4 t4] kt pt] (.Tuple [e1, e2, e3, e4] k2 p2))
    (ha : AQ X es [e1, e2, e3, e4] os Rel) (h : ∀ φ1 φ2 φ3 φ4 os', Rel [φ1, φ2, φ3, φ4] os' → SX X ((((es.set i1 (sl φ1)).set i2 (sl φ2)).set i3 (sl φ3)).set i4 (sl φ4)) os' F0 rest D) (hR : ∀ φs os', Rel φs os' → ∃ φ1 φ2 φ3 φ4, φs = [φ1, φ2, φ3, φ4])
    (hs : swapsWithSole [.Tuple [.Name x1 t1, .Name x2 t2, .Name x3 t3, .Name x4 t4] kt pt] (.Tuple [e1, e2, e3, e4] k2 p2) pos.line X.env = pure false := by rfl) (h1 : (assignEach [.Tuple [.Name x1 t1, .Name x2 t2, .Name x3 t3, .Name x4 t4] kt pt] X.env).map (·.2) = [assign (.Tuple [.Name x1 t1, .Name x2 t2, .Name x3 t3, .Name x4 t4] kt pt) X.env] := by rfl) :
    SX X es os F0 (.Assign [.Tuple [.Name x1 t1, .Name x2 t2, .Name x3 t3, .Name x4 t4] kt pt] (.Tuple [e1, e2, e3, e4] k2 p2) pos :: rest) D := fun F σ H s ow sl =>
  wps_cons (ws_of (ps_asg (pe_tup pa_u) (pg_tup (n := 4) B.calm (pgs_cons (pg_name (B.hN ▸ B.nd) (B.hN ▸ hi1) (T.loc x1 (List.mem_of_getElem? hx1)) (.inl (T.fn x1))) (pgs_cons (pg_name (B.hN ▸ B.nd) (B.hN ▸ hi2) (T.loc x2 (List.mem_of_getElem? hx2)) (.inl (T.fn x2))) (pgs_cons (pg_name (B.hN ▸ B.nd) (B.hN ▸ hi3) (T.loc x3 (List.mem_of_getElem? hx3)) (.inl (T.fn x3))) (pgs_cons (pg_name (B.hN ▸ B.nd) (B.hN ▸ hi4) (T.loc x4 (List.mem_of_getElem? hx4)) (.inl (T.fn x4))) pgs_nil)))) rfl rfl) hs (hw _ hsc) h1) (ha F σ H _ ow sl fun F1 H1 vs φs os' e0 rel o1 c1 => by
    obtain ⟨φ1, φ2, φ3, φ4, rfl⟩ := hR φs os' rel
    obtain ⟨v1, v2, v3, v4, rfl, h1, h2, h3, h4⟩ := cla_4 c1
    refine ⟨by show 4 ≤ sizeLine; decide, fun p hp => ?_⟩
    refine ⟨p, _, rfl, .of upd_same, rfl, _, _, rfl, _, _, rfl, _, _, rfl, _, _, rfl, rfl, ?_⟩
    exact h φ1 φ2 φ3 φ4 os' rel F1 _ _ (s.trans e0) (o1.grow (same_upd hp)) (((((sl.mono e0).put h1).put h2).put h3).put h4)))
end
end Z
namespace Z
open PySem PySem.Spec PyProof.Rows L2
end Z
namespace Z
open PySem PySem.Spec PyProof.Rows L2
section
variable {X : Cx} {es es1 : List Slot} {os os1 os2 : Os} {F0 : Hp} {rest : List Stmt} {D : Ends} {N V G W : List Str} {n k i j vi gi : Nat} {x : Str} {p q pos apos cpos tpos : Pos} {e a b tg : Expr} {φ ψ : VP} {γ : Type} {f : γ → Ent} {g : γ → PyData} {m : Ent}
theorem GY.drop {es' : List Slot} {u : Addr × Ent} (k : GY X tg ψ es os es' (u :: os1)) : GY X tg ψ es os es' os1 := fun F σ H v Q ow s c qq => k F σ H v Q ow s c fun F' σ' H' e o l => qq F' σ' H' e o.drop l
end
end Z
namespace Z
open PySem PySem.Spec PyProof.Rows L2
end Z
namespace Z
open PySem PySem.Spec PyProof.Rows L2
abbrev T3 : Type := Tri Int Int Int
abbrev e3 : T3 → PyData := eP3 PyData.int PyData.int PyData.int
/-- the place of a triple in the order, if its parts lie in [0, 10^6) -/
def cd3 (t : T3) : Int := (t.a * 1000000 + t.b) * 1000000 + t.c
end Z
namespace Z
open PySem PySem.Spec PyProof.Rows L2
section
variable {X : Cx} {es : List Slot} {os os1 os2 : Os} {N V G W : List Str} {k : Nat} {pos : Pos} {a b : Expr} {φ ψ : VP} {α : Type} [DecidableEq α] {e : α → PyData} {m : Nat} {x : α} {xs : List α}
theorem any_in (h : EqvOk e) (x : α) : ∀ xs : List α, ((xs.map e).any fun z => PyData.eqv z (e x)) = xs.contains x
  | [] => rfl
  | y :: ys => by
    rw [List.map_cons, List.any_cons, any_in h x ys, h y x, List.contains_cons]
    by_cases q : y = x
    · subst q; simp
    · have q2 : ¬ x = y := fun z => q z.symm
      simp [q, q2]
theorem r2_ninD (h : EqvOk e) (s : ShOk e m) (hn : m ≤ 60) (r1 : RdX X φ os (e x)) (r2 : RdX X ψ os (eL e xs)) : R2X X (rNotInD X.K) φ ψ os (dat (.bool (!xs.contains x))) := fun F H u v Q ow cx cy q =>
  have s1 := s.shaped (by omega) x
  have s2 := (sh_list s).shaped (by omega) xs
  ⟨e x, xs.map e, r1 (shaped_lay s1) F H u ow cx, r2 (shaped_lay s2) F H v ow cy, s1, s2, by rw [any_in h]; exact q F H _ (Same.refl F) ow (cl_dat (.bl _))⟩
theorem Bd.u65 (B : Bd X N W G k) : X.A.units + 65 < cLine := by
  have := B.room.un
  omega
theorem tx_ninD (B : Bd X N W G k) (h : EqvOk e) (s : ShOk e m) (hn : m ≤ 60) (r1 : RdX X φ os2 (e x)) (r2 : RdX X ψ os2 (eL e xs)) (hm : behindInMarks .NotIn b = false) (ha : EX X es os a φ os1) (hb : EX X es os1 b ψ os2) : TX X es os (.Compare a [.NotIn] [b] pos) (!xs.contains x) os2 :=
  tx_cmp (op_notInD B.u65) (r2_ninD h s hn r1 r2) hm ha hb
end
end Z
namespace Z
open PySem PySem.Spec PyProof.Rows L2
end Z
namespace Z
open PySem PySem.Spec PyProof.Rows L2
structure SXw (X : Cx) (es : List Slot) (os : Os) (F0 : Hp) (sts : List Stmt) (D : Ends) : Prop where
  run : SX X es os F0 sts D
def nsE : Expr → Bool
  | .Starred .. => false
  | _ => true
theorem star_ns {a : Expr} (as : List Expr) (env : Env) (h : nsE a = true) : starEach (a :: as) env = (false, eval a env) :: starEach as env := by
  cases a <;> first | rfl | (exact Bool.noConfusion h)
section
variable {X : Cx} {es : List Slot} {os os1 : Os} {a : Expr} {as : List Expr} {n : Ent} {φ : VP}
theorem aq_nS {Rel : Addr → List VP → Os → Prop} (ha : EN X es os a n os1) (hr : ∀ p, AQ X es as ((p, n) :: os1) (Rel p)) (h : nsE a = true := by rfl) : AQ X es (a :: as) os (fun φs os' => ∃ p r, φs = own p :: r ∧ Rel p r os') := aq_n ha hr (star_ns as X.env h)
end
/-- x in xs, by ==, of data -/
abbrev hasD {α : Type} [DecidableEq α] (xs : List α) (x : α) : Bool := @List.contains α instBEqOfDecidableEq xs x
section
variable {X : Cx} {es : List Slot} {os : Os} {F0 : Hp} {rest : List Stmt} {D : Ends} {N V G W : List Str} {k i j : Nat} {x y : Str} {pos : Pos} {a b : Expr}
/-- two new things side by side, stored from the right -/
theorem sx_newp2 {px py pt p2 : Pos} {kt k2 : Nat} {n1 n2 : Ent} (sc : Scope) (hsc : X.env.scope = sc) (B : Bd X N W G k) (hi : N[i]? = some x) (hj : N[j]? = some y) (hij : i ≠ j) (hx : lclB sc x = true) (hy : lclB sc y = true) (hw : swpB sc [.Tuple [.Name x px, .Name y py] kt pt] (.Tuple [a, b] k2 p2) [x, y])
    (a1 : EN X es os a n1 os) (a2 : ∀ p1, EN X es ((p1, n1) :: os) b n2 ((p1, n1) :: os)) (h : ∀ p1 p2, SX X ((es.set i (sl (own p1))).set j (sl (own p2))) ((p2, n2) :: (p1, n1) :: os) F0 rest D)
    (s1 : nsE a = true := by rfl) (s2 : nsE b = true := by rfl) (hs : swapsWithSole [.Tuple [.Name x px, .Name y py] kt pt] (.Tuple [a, b] k2 p2) pos.line X.env = pure false := by rfl) : SXw X es os F0 (.Assign [.Tuple [.Name x px, .Name y py] kt pt] (.Tuple [a, b] k2 p2) pos :: rest) D :=
  ⟨sx_par2 (Rel := fun φs os' => ∃ p1 r1, φs = own p1 :: r1 ∧ ∃ p2 r2, r1 = own p2 :: r2 ∧ (r2 = [] ∧ os' = (p2, n2) :: (p1, n1) :: os)) sc hsc B hi hj hij hx hy hw
    (aq_nS a1 (fun p1 => aq_nS (a2 p1) (fun _ => aq_nil) s2) s1)
    (fun φ ψ os' hr => by
      obtain ⟨p1, r1, q1, p2, r2, q2, q3, rfl⟩ := hr
      subst q3 q2
      cases q1
      exact h p1 p2)
    (fun φs os' hr => by
      obtain ⟨p1, r1, q1, p2, r2, q2, q3, rfl⟩ := hr
      subst q3 q2 q1
      exact ⟨_, _, rfl⟩) hs⟩
end
end Z
namespace Z
open PySem PySem.Spec L2
end Z
namespace Z
open PySem PySem.Spec PyProof.Rows L2
section
variable {X : Cx} {pins : List (Addr × Obj)} {σ : L2.St} {H : Hp} {s : Shared} {D b : Addr} {r : Value} {d : L2.V} {k : List Key} {E : Value → Shared → Prop}
theorem dset_tup {kvs : List (List Key × L2.V)} {Q : Unit → Shared → Prop} (hu : X.A.units + 1 < cLine) (I : Inv X pins σ H s) (e : H D = some (.dT kvs)) (eb : H b = some (.tup (k.map kV))) (rd : RelV d r) (hl : kvs.length < sizeLine)
    (h : ∀ s' : Shared, Inv X pins σ (upd H D (.dT (putK kvs k d))) s' → Q () s') : wpAny (model X.prog X.w) X.A (dictSet D (.ref b) r) Q E s := by
  obtain ⟨z, hd, xs, rel, dd⟩ := dt_of I.hok e
  have hz : xs.length ≤ sizeLine := by rw [← Paired.length rel]; exact z
  have hl2 : (putK kvs k d).length ≤ sizeLine := by
    have := length_putK kvs k d
    omega
  refine wpAny_dictSet_heap (knd := tupleKind (mixKind X.prog X.w)) ?_ (key_of I.hok eb) dd (fun h' dd' hs => ?_) hz
  · show X.A.units < cLine
    omega
  obtain ⟨q, es, ep, hq, g2, g3, g4, _, g5⟩ := dd'
  refine h _ (d_write (t' := _) I (by rw [e]; exact True.intro) hs ⟨q, hq⟩ ⟨hl2, hd, _, (rel.put k eb rd).keeps fun c ys ec => ?_, q, es, ep, hq, g2, g3, g4, g5⟩)
  rw [upd_ne (ne_of ec e (fun z => nomatch z))]
  exact ec
end
/-- {k: v for ..}, the keys tuples -/
def tDcT (wi : TI) (g : TG) (tt : TT) (tk tv : TE) (vs : List Nat) : TE := fun σ H Q => wi σ H fun J H1 => ∀ D : Addr, H1 D = none → ∃ W : Nat → Nat → Hp → Prop, (∃ m, W 0 m (upd H1 D (.dT []))) ∧ ∀ (i m : Nat) (H : Hp), W i m H → (J.stop i H ∧ Q (.ref D) H) ∨ (J.go i H ∧ ∃ Nx : Hp → Prop, (∀ H' : Hp, Nx H' → ∃ m', m' < m ∧ W (i + 1) m' H') ∧
  ∀ (x : L2.V) (H' : Hp), J.yld i H x H' → g x (wipe σ vs) H' fun σ2 H2 => wipe σ2 vs = wipe σ vs ∧ tt σ2 H2 fun b H3 => if b = true then tk σ2 H3 fun y H4 => tv σ2 H4 fun z H5 => ∃ (kvs : List (List Key × L2.V)) (k : List Key) (a : Addr), y = .ref a ∧ H5 a = some (.tup (k.map kV)) ∧ H5 D = some (.dT kvs) ∧ kvs.length < sizeLine ∧ Nx (upd H5 D (.dT (putK kvs k z))) else Nx H3)
section
variable {X : Cx} {kx vx tg iter : Expr} {ifs : List Expr} {scope : Scope} {own : List (Str × Nat)} {pos : Pos} {wi : TI} {g : TG} {tt : TT} {tk tv : TE}
theorem dcT_core {pins : List (Addr × Obj)} {s : Shared} {σ : L2.St} {H : Hp} {Q : VK} {pos' : Pos} {use : Option (Value → Sem Unit)} {Qf : Value → Shared → Prop} (hu : X.A.units + 1 < cLine) (hc : X.calm = true) (hN : X.N.Nodup) (I : Inv X pins σ H s) (hi : PI X tg iter wi) (ok : BlkOk X.N X.env.scope scope own)
    (hg : ∀ (s : Shared) (H : Hp) (C : Addr) (cl : List (Str × Addr)) (fp : List Addr), PG (X.blk s H scope (compEnvC scope cl C X.env) fp) tg g)
    (ht : ∀ (s : Shared) (H : Hp) (C : Addr) (cl : List (Str × Addr)) (fp : List Addr), PTs (X.blk s H scope (compEnvC scope cl C X.env) fp) ifs tt)
    (hk : ∀ (s : Shared) (H : Hp) (C : Addr) (cl : List (Str × Addr)) (fp : List Addr), PE (X.blk s H scope (compEnvC scope cl C X.env) fp) kx tk)
    (he : ∀ (s : Shared) (H : Hp) (C : Addr) (cl : List (Str × Addr)) (fp : List Addr), PE (X.blk s H scope (compEnvC scope cl C X.env) fp) vx tv)
    (hs : ∀ x : Value, foldedSetIterable iter X.env x = pure x) (h : tDcT wi g tt tk tv (own.map fun x => x.2) σ H Q)
    (hRR : ∀ (D C : Addr) (s' : Shared) (m : Str → Option Value) (H' : Hp), Inv X pins σ H' s' → Q (V.ref D) H' → s'.heap.Ns C m → FpOk X pins H' C → compPost (model X.prog X.w) X.A X.xe use Qf (Value.ref D) C (Except.ok Flow.next) s') :
    wpAny (model X.prog X.w) X.A (comprehension (.DictComp kx vx [⟨tg, iter, ifs, 0⟩] scope pos) scope X.env pos' newDict false (eval iter X.env) use) Qf X.xe s := by
  have hfree : ∀ y : Str × NameKind, y ∈ scope.names → y.2 = NameKind.free → ∃ c, List.lookup y.1 X.env.cells = some c := fun y hy e => by
    rcases ok.free y hy e with k | k
    · exact I.ok.has y.1 (.inl k)
    · exact I.ok.has y.1 (.inr k)
  refine wpAny_comprehension_free (cl := cloFrom X.env.cells scope.names []) rfl hs (closure_ok hfree) ok.kind (fun y hy e => by rw [ok.uniq y hy, e]) ?_
  refine thn (hi.run pins s σ H _ I h) fun xv s1 hx => thn hx fun itv s2 h2 => ?_
  obtain ⟨it, fp, tn, J, H2, rfl, I2, T, st2, f2, q⟩ := h2
  refine wpAny_newObj_type (newEnv_comp ?_)
  obtain ⟨W, ⟨m0, w0⟩, turn⟩ := q s2.heap.objs.size (HOk.fresh I2.hok (Nat.le_refl _))
  have I3 := Inv.laid (t' := s2.toks) I2 (fun b o e => Heap.get?_push_of_some { cls := Value.type "dict", data := Data.dict #[] } e) (Nat.le_refl _) (dt_empty s2.heap I2.big)
  have sz : ∀ b : Addr, b ∈ fp → b < s2.heap.objs.size := fun b hb => by
    obtain ⟨o, e, _⟩ := T.obj 0 s2.heap st2 b hb
    exact Heap.lt_size e
  have f3 : ∀ b : Addr, b ∈ fp → FpOk X pins (upd H2 s2.heap.objs.size (.dT [])) b ∧ b < (s2.heap.push { cls := Value.type "dict", data := Data.dict #[] }).objs.size := fun b hb => by
    have hlt := sz b hb
    refine ⟨⟨?_, (f2 b hb).2⟩, ?_⟩
    · rw [upd_ne (Nat.ne_of_lt hlt)]
      exact (f2 b hb).1
    · rw [Heap.size_push]
      exact Nat.lt_succ_of_lt hlt
  have st3 := T.keep 0 s2.heap (s2.heap.push { cls := Value.type "dict", data := Data.dict #[] }) st2 fun b _ o e => Heap.get?_push_of_some { cls := Value.type "dict", data := Data.dict #[] } e
  generalize hs3 : ({ heap := s2.heap.push { cls := Value.type "dict", data := Data.dict #[] }, gens := s2.gens, drawn := s2.drawn, toks := s2.toks, os := s2.os } : Shared) = s3 at I3 ⊢
  have h3 : s3.heap = s2.heap.push { cls := Value.type "dict", data := Data.dict #[] } := by rw [← hs3]
  rw [← h3] at st3
  have f3 : ∀ b : Addr, b ∈ fp → FpOk X pins (upd H2 s2.heap.objs.size (.dT [])) b ∧ b < s3.heap.objs.size := fun b hb => by rw [h3]; exact f3 b hb
  generalize hH3 : upd H2 s2.heap.objs.size (HO.dT []) = H3 at I3 f3 w0
  have I4 := block_start I3 ok hN f3
  have pg := hg s3 H3 s3.heap.objs.size (cellsFrom (s3.heap.objs.size + 1) scope.names (cloFrom X.env.cells scope.names [])) fp
  have pt := ht s3 H3 s3.heap.objs.size (cellsFrom (s3.heap.objs.size + 1) scope.names (cloFrom X.env.cells scope.names [])) fp
  have pk := hk s3 H3 s3.heap.objs.size (cellsFrom (s3.heap.objs.size + 1) scope.names (cloFrom X.env.cells scope.names [])) fp
  have pe := he s3 H3 s3.heap.objs.size (cellsFrom (s3.heap.objs.size + 1) scope.names (cloFrom X.env.cells scope.names [])) fp
  have cL : (compEnvC scope (cellsFrom (s3.heap.objs.size + 1) scope.names (cloFrom X.env.cells scope.names [])) s3.heap.objs.size X.env).locals = s3.heap.objs.size := rfl
  show codeAny (model X.prog X.w) X.A (Code.compStart _ 0 _ _ (compEnvC scope (cellsFrom (s3.heap.objs.size + 1) scope.names (cloFrom X.env.cells scope.names [])) s3.heap.objs.size X.env)) _ _
  generalize hE : compEnvC scope (cellsFrom (s3.heap.objs.size + 1) scope.names (cloFrom X.env.cells scope.names [])) s3.heap.objs.size X.env = en at I4 pg pt pk pe cL ⊢
  have nfp : ∀ b : Addr, b ∈ fp → H3 b = none := fun b hb => (f3 b hb).1.1
  have st4 := T.keep 0 s3.heap (pushCells (s3.heap.push { cls := Value.type "dict", data := Data.dict #[] }) scope.names) st3 fun b _ o e => pushCells_keeps scope.names _ b o (Heap.get?_push_of_some { cls := Value.type "dict", data := Data.dict #[] } e)
  have stat : ∀ {σ' : L2.St} {H' : Hp} {s' : Shared}, Inv (X.blk s3 H3 scope en fp) [] σ' H' s' → (∀ b : Addr, b ∈ fp → H' b = none) → ∀ b : Addr, b ∈ fp → FpOk (X.blk s3 H3 scope en fp) [] H' b := fun {σ' H' s'} I' hn b hb =>
    ⟨hn b hb, (I'.ok.exf b hb).1, I'.ok.exfs b hb, .inl hb, fun x c e => (I'.ok.exf b hb).2 x c e, fun p hp => absurd (show p ∈ ([] : List (Addr × Obj)) from hp) List.not_mem_nil⟩
  have loop : ∀ s4 : Shared, Inv (X.blk s3 H3 scope en fp) [] (wipe σ (own.map fun x => x.2)) H3 s4 → tn 0 s4.heap → codeAny (model X.prog X.w) X.A (Code.compLoop (kx.DictComp vx [{ target := tg, iter := iter, ifs := ifs, is_async := 0 }] scope pos) 0 (Value.ref it) (Value.ref s2.heap.objs.size) en) (compPost (model X.prog X.w) X.A X.xe use Qf (Value.ref s2.heap.objs.size) s3.heap.objs.size) s4 := fun s4 I4 st4 => by
    refine compLoop_anyD (fun n s' => ∃ (i : Nat) (H' : Hp), Inv (X.blk s3 H3 scope en fp) [] (wipe σ (own.map fun x => x.2)) H' s' ∧ tn i s'.heap ∧ (∀ b : Addr, b ∈ fp → H' b = none) ∧ W i n H') (fun n s5 a => ?_) m0 ⟨0, H3, I4, st4, nfp, w0⟩
    obtain ⟨i, H5, I5, st5, n5, w5⟩ := a
    rcases turn i n H5 w5 with ⟨stop, qq⟩ | ⟨go, Nx, hNx, step⟩
    · refine thnF (T.done (X.blk s3 H3 scope en fp) rfl rfl rfl hc i [] s5 _ H5 (fun _ _ => False) I5 (stat I5 n5) st5 stop) fun r s6 h6 => ?_
      obtain ⟨rfl, I6⟩ := h6
      have I7 := Inv.call' I3 I6.os I6.base I6.hok I6.bare fun b hb => ⟨(f3 b hb).1.2.2.2.1, (f3 b hb).1.2.1, (f3 b hb).1.2.2.2.2.1, (f3 b hb).1.2.2.2.2.2⟩
      have nC : H5 s3.heap.objs.size = none := by
        rw [← cL]
        exact I6.free
      obtain ⟨m, hn, _⟩ := I6.loc
      exact hRR s2.heap.objs.size s3.heap.objs.size s6 m H5 I7 qq (by rw [← cL]; exact hn) (Inv.fpOk I3 (Nat.le_refl _) nC)
    · refine thnF (T.item (X.blk s3 H3 scope en fp) rfl rfl rfl hc i [] s5 _ H5 (fun _ _ => False) I5 (stat I5 n5) st5 go) fun r s6 h6 => ?_
      obtain ⟨u, rfl, h6⟩ := h6
      refine thnF h6 fun _ s7 h7 => ?_
      obtain ⟨x, H7, I7, r7, y7, st7, n7⟩ := h7
      have I7' := I7.pinned (stat I7 n7) (T.obj (i + 1) s7.heap st7)
      refine thnF (pg.run ([] ++ pinsAt fp s7.heap) s7 _ H7 x u _ I7' r7 (step x H7 y7)) fun _ s8 h8 => ?_
      obtain ⟨σ8, H8, I8, hw8, q8⟩ := h8
      refine thnF (pt.run ([] ++ pinsAt fp s7.heap) s8 σ8 H8 _ I8 q8) fun bb s9 h9 => ?_
      obtain ⟨H9, I9, q9⟩ := h9
      have fin : ∀ {s' : Shared} {H' : Hp}, Inv (X.blk s3 H3 scope en fp) ([] ++ pinsAt fp s7.heap) σ8 H' s' → Nx H' → ∃ m, m < n ∧ ∃ (i : Nat) (H' : Hp), Inv (X.blk s3 H3 scope en fp) [] (wipe σ (own.map fun x => x.2)) H' s' ∧ tn i s'.heap ∧ (∀ b : Addr, b ∈ fp → H' b = none) ∧ W i m H' := fun {s' H'} I' nx => by
        obtain ⟨m', hm, w'⟩ := hNx H' nx
        have pin' : ∀ b : Addr, b ∈ fp → ∀ o, s7.heap.get? b = some o → s'.heap.get? b = some o ∧ H' b = none := fun b hb o e => by
          have z := I'.pin (b, o) (List.mem_append_right _ (List.mem_append_right _ (mem_pinsAt hb e)))
          exact ⟨z.1, z.2.1⟩
        refine ⟨m', hm, i + 1, H', I'.unpinned.weak ?_ fun j v e => ?_, T.keep (i + 1) s7.heap s'.heap st7 fun b hb o e => (pin' b hb o e).1, fun b hb => ?_, w'⟩
        · rw [← hw8]
          exact wipe_length _ _
        · rw [← hw8] at e
          exact (wipe_some e).1
        · obtain ⟨o, e, _⟩ := T.obj (i + 1) s7.heap st7 b hb
          exact (pin' b hb o e).2
      cases bb with
      | false =>
        rw [if_neg Bool.false_ne_true] at q9 ⊢
        exact fin I9 q9
      | true =>
        rw [if_pos rfl] at q9 ⊢
        refine thnF (pk.run _ s9 σ8 H9 _ I9 q9) fun z s10 h10 => ?_
        obtain ⟨yk, H10, I10, r10, q10⟩ := h10
        refine thnF (pe.run _ s10 σ8 H10 _ I10 q10) fun z2 s11 h11 => ?_
        obtain ⟨yv, H11, I11, r11, kvs, k, a, rfl, ea, hD, hl, nx⟩ := h11
        obtain rfl : z = Value.ref a := r10
        exact dset_tup (X := X.blk s3 H3 scope en fp) hu I11 hD ea r11 hl fun s12 I12 => fin I12 nx
  exact codeAny_compStart_dict (loop _ I4 st4) (T.self X.A 0 _ _ _ st4 (loop _ I4 st4))
theorem pe_dcT (hu : X.A.units + 1 < cLine) (hc : X.calm = true) (hN : X.N.Nodup) (hi : PI X tg iter wi) (ok : BlkOk X.N X.env.scope scope own)
    (hg : ∀ (s : Shared) (H : Hp) (C : Addr) (cl : List (Str × Addr)) (fp : List Addr), PG (X.blk s H scope (compEnvC scope cl C X.env) fp) tg g)
    (ht : ∀ (s : Shared) (H : Hp) (C : Addr) (cl : List (Str × Addr)) (fp : List Addr), PTs (X.blk s H scope (compEnvC scope cl C X.env) fp) ifs tt)
    (hk : ∀ (s : Shared) (H : Hp) (C : Addr) (cl : List (Str × Addr)) (fp : List Addr), PE (X.blk s H scope (compEnvC scope cl C X.env) fp) kx tk)
    (he : ∀ (s : Shared) (H : Hp) (C : Addr) (cl : List (Str × Addr)) (fp : List Addr), PE (X.blk s H scope (compEnvC scope cl C X.env) fp) vx tv)
    (hs : ∀ x : Value, foldedSetIterable iter X.env x = pure x) : PE X (.DictComp kx vx [⟨tg, iter, ifs, 0⟩] scope pos) (tDcT wi g tt tk tv (own.map fun x => x.2)) := by
  refine ⟨fun pins s σ H Q I h => ?_⟩
  rw [arm_eval_DictComp]
  refine dcT_core hu hc hN I hi ok hg ht hk he hs h fun D C s' m H' I' q hn f => ?_
  obtain ⟨p0, p1, _, p3, p4, p5⟩ := f
  exact ⟨m, hn, fun h2 sb => ⟨V.ref D, H', Inv.turned I' (fun b o hb e => (sb.2 b hb).trans e) p0 p1 p3 p4 p5, rfl, q⟩⟩
end
section
variable {X : Cx} {es : List Slot} {os os0 os1 os2 : Os} {F0 : Hp} {rest : List Stmt} {D : Ends} {N V G W : List Str} {k i j vi gi : Nat} {x y : Str} {p pos tpos : Pos} {e : Expr} {α β κ γ : Type} {scope : Scope} {iter tg elt kx vx : Expr} {ifs : List Expr} {own : List (Str × Nat)} {xs : List α} {vp : α → VP} {c : Os → Prop} {g : TG} {up : α → List Slot → List Slot}
def DcTT [DecidableEq κ] (f : κ → List Key) (enc : β → PyData) (m : α → Option (Option (κ × β))) (xs : List α) (wf : List (κ × β)) (os0 : Os) (Dl : Addr) (F1 : Hp) (i : Nat) (H : Hp) : Prop :=
  ∃ w F, dcS m (xs.drop i) w = some wf ∧ w.length ≤ i ∧ Same F1 F ∧ Ow F ((Dl, od (.tu f) (eM enc w)) :: os0) H
theorem dc_readT [DecidableEq κ] {f : κ → List Key} {enc : β → PyData} {m : α → Option (Option (κ × β))} {wf : List (κ × β)} (hinj : (Kd.tu f).Inj) (h : CpOk X es os tg iter scope own xs vp c g up os0) (hif : ifs.length ≤ 1) (hl : dcS m xs [] = some wf)
    (hb : ∀ x t q, x ∈ xs → m x = some t → ∃ b, ∀ X', Fam X scope X' → PTX X' (up x es) (q :: os0) ifs b (q :: os0) ∧ (b = true → ∃ z, t = some z ∧ EX X' (up x es) (q :: os0) kx (dat ((Kd.tu f).ek z.1)) (q :: os0) ∧ EX X' (up x es) (q :: os0) vx (dat (enc z.2)) (q :: os0)) ∧ (b = false → t = none))
    {F σ H Q} (ow : Ow F os H) (sl : Sl F es σ) (q : ∀ F' H' p, Same F F' → Ow F' ((p, od (.tu f) (eM enc wf)) :: os0) H' → Q (.ref p) H') : tDcT (WI X tg iter) g (tIfs X scope ifs) (tElt X scope kx) (tElt X scope vx) (own.map (·.2)) σ H Q := by
  refine h.hi F σ H _ ow sl fun F1 H1 J e1 o1 good Dl hD => ?_
  refine ⟨fun i n H => n = xs.length - i ∧ i ≤ xs.length ∧ DcTT f enc m xs wf os0 Dl F1 i H, ⟨_, rfl, Nat.zero_le _, [], F1, hl, Nat.le_refl _, Same.refl F1, ?_⟩, ?_⟩
  · exact o1.new hD (od_one (kd := .tu f) .nil)
  · rintro i n H' ⟨rfl, hi, w, F', hr, hwl, e', o'⟩
    obtain ⟨stop, go⟩ := good F' H' _ i e' o' (h.hc _)
    cases hx : xs[i]? with
    | none =>
      have hi2 : xs.length ≤ i := List.getElem?_eq_none_iff.mp hx
      rw [List.drop_eq_nil_of_le hi2] at hr
      cases hr
      exact .inl ⟨stop hi2, q F' H' Dl (e1.trans e') o'⟩
    | some x =>
      obtain ⟨hgo, hyl⟩ := go x hx
      have hlt : i < xs.length := (List.getElem?_eq_some_iff.mp hx).1
      rw [drop_cons' hx] at hr
      unfold dcS at hr
      obtain ⟨t, hm, hr⟩ := bnd hr
      refine .inr ⟨hgo, DcTT f enc m xs wf os0 Dl F1 (i + 1), fun H2 hH2 => ⟨_, by omega, rfl, by omega, hH2⟩, fun v H3 yv => ?_⟩
      obtain ⟨F3, e3, o3, c3⟩ := hyl v H3 yv
      have slw : Sl F3 es (wipe σ (own.map (·.2))) := sl_wipe (sl.mono ((e1.trans e').trans e3)) _ fun j hj => ⟨un, h.hv j hj, rfl⟩
      refine h.hg x F3 _ H3 v _ _ slw (h.hid σ) o3 c3 fun σ' sl' hw => ⟨hw, ?_⟩
      obtain ⟨b, key⟩ := hb x t (Dl, od (.tu f) (eM enc w)) (List.mem_of_getElem? hx) hm
      have yes : ∀ F4 H4, Same F3 F4 → Ow F4 ((Dl, od (.tu f) (eM enc w)) :: os0) H4 → b = true → tElt X scope kx σ' H4 fun y H5 => tElt X scope vx σ' H5 fun z H6 => ∃ (kvs : List (List Key × L2.V)) (k : List Key) (a : Addr), y = .ref a ∧ H6 a = some (.tup (k.map kV)) ∧ H6 Dl = some (.dT kvs) ∧ kvs.length < sizeLine ∧ DcTT f enc m xs wf os0 Dl F1 (i + 1) (upd H6 Dl (.dT (putK kvs k z))) := by
        intro F4 H4 e4 o4 hbt X' hX'
        obtain ⟨_, k2, _⟩ := key X' hX'
        obtain ⟨z, rfl, k3, _⟩ := k2 hbt
        refine k3 F4 σ' H4 _ o4 (sl'.mono e4) fun F5 H5 y e5 o5 c5 => ?_
        intro X'' hX''
        obtain ⟨_, k2', _⟩ := key X'' hX''
        obtain ⟨z', ez, _, k4⟩ := k2' hbt
        cases ez
        refine k4 F5 σ' H5 _ o5 (sl'.mono (e4.trans e5)) fun F6 H6 u e6 o6 c6 => ?_
        obtain ⟨_, o, ho, _, kvs, rfl, dv⟩ := o6.atU uni_od
        have hlen : kvs.length = w.length := by rw [dv_len dv, List.length_map]
        obtain ⟨b', rfl, hb'⟩ := key_val (kd := .tu f) (c5.mono e6)
        refine ⟨_, f z.1, b', rfl, o6.ex _ _ hb', ho, by rw [List.length_map, hlen]; have := h.hz; omega, ?_⟩
        have e7 : putK (kvs.map fun p => (f p.1, p.2)) (f z.1) u = (dPut kvs z.1 u).map fun p => (f p.1, p.2) := dPut_key hinj z.1 u kvs
        rw [e7]
        refine ⟨dPut w z.1 z.2, F6, hr, by have := dput_len w z.1 z.2; omega, ((e'.trans e3).trans e4).trans (e5.trans e6), ?_⟩
        exact o6.putU (o := (Kd.tu f).ho (dPut kvs z.1 u)) uni_od (od_one (kd := .tu f) (dput_enc dv c6.now))
      have no : ∀ F4 H4, Same F3 F4 → Ow F4 ((Dl, od (.tu f) (eM enc w)) :: os0) H4 → t = none → DcTT f enc m xs wf os0 Dl F1 (i + 1) H4 := by
        intro F4 H4 e4 o4 ht
        subst ht
        exact ⟨w, F4, hr, by omega, (e'.trans e3).trans e4, o4⟩
      have ex : b = false → t = none ∨ ¬ ∃ X', Fam X scope X' := fun hb0 => by
        by_cases hX : ∃ X', Fam X scope X'
        · obtain ⟨X', hX'⟩ := hX
          exact .inl ((key X' hX').2.2 hb0)
        · exact .inr hX
      match ifs, hif, key, yes with
      | [], _, key, yes =>
        intro X' hX'
        obtain ⟨k1, k2, k3⟩ := key X' hX'
        cases k1
        exact yes F3 H3 (Same.refl F3) o3 rfl X' hX'
      | [cd], _, key, yes =>
        intro X' hX'
        obtain ⟨k1, k2, k3⟩ := key X' hX'
        cases k1 with
        | one ht =>
          refine ht F3 σ' H3 _ o3 sl' fun F4 H4 e4 o4 => ?_
          cases b with
          | true =>
            rw [if_pos rfl]
            exact yes F4 H4 e4 o4 rfl
          | false =>
            rw [if_neg Bool.false_ne_true]
            exact no F4 H4 e4 o4 (k3 rfl)
      | _ :: _ :: _, hif, _, _ =>
        rw [List.length_cons, List.length_cons] at hif
        omega
theorem en_dcT [DecidableEq κ] {f : κ → List Key} {enc : β → PyData} {m : α → Option (Option (κ × β))} {wf : List (κ × β)} (B : Bd X N W G k) (hinj : (Kd.tu f).Inj) (h : CpOk X es os tg iter scope own xs vp c g up os0) (hif : ifs.length ≤ 1) (hl : dcS m xs [] = some wf)
    (hb : ∀ x t q, x ∈ xs → m x = some t → ∃ b, ∀ X', Fam X scope X' → PTX X' (up x es) (q :: os0) ifs b (q :: os0) ∧ (b = true → ∃ z, t = some z ∧ EX X' (up x es) (q :: os0) kx (dat ((Kd.tu f).ek z.1)) (q :: os0) ∧ EX X' (up x es) (q :: os0) vx (dat (enc z.2)) (q :: os0)) ∧ (b = false → t = none))
    (hs : ∀ x, foldedSetIterable iter X.env x = pure x := by intro _; rfl) : EN X es os (.DictComp kx vx [⟨tg, iter, ifs, 0⟩] scope pos) (od (.tu f) (eM enc wf)) os0 := fun F σ H Q ow sl q =>
  we_of (pe_dcT B.u1 h.calm h.nd pi_u h.ok (fun s H C cl fp => h.pg _ ⟨s, H, C, cl, fp, rfl⟩) (fun s H C cl fp => pts_u ⟨s, H, C, cl, fp, rfl⟩ ifs) (fun s H C cl fp => pe_elt ⟨s, H, C, cl, fp, rfl⟩) (fun s H C cl fp => pe_elt ⟨s, H, C, cl, fp, rfl⟩) hs)
    (dc_readT hinj h hif hl hb ow sl q)
end
theorem sw_okD {k v : Expr} {gs : List Comprehension} {scope : Scope} {pos py : Pos} {y : Str} {l : Nat} {env : Env} (hk : (match env.scope.kind with | .function => true | _ => false) = true) (hy : env.scope.names.lookup y = some .local) (hl : (py.line == pos.line) = true)
    (ha : (scope.names.any fun q => q.1 == y && (q.2 == .local || q.2 == .cell)) = false) : swapsWith (.DictComp k v gs scope pos) (some (.Name y py)) l env = pure true := sw_ok (elt := k) (gs := gs) (l := l) hk hy hl ha
end Z
namespace Z
open PySem PySem.Spec PyProof.Rows L2
open PySem.Sem (wp)
/-- one step deeper -/
def a1 (X : Cx) : Cx := { X with A := X.A.in1 }
section
variable {X : Cx} {pins : List (Addr × Obj)} {σ : L2.St} {H : Hp} {s : Shared}
/-- a new place -/
structure Fsh (X : Cx) (pins : List (Addr × Obj)) (a : Addr) : Prop where
  sz : X.s_0.heap.objs.size ≤ a
  loc : a ≠ X.env.locals
  cell : ∀ x c, X.env.cells.lookup x = some c → c ≠ a
  pin : ∀ p ∈ X.pn ++ pins, p.1 ≠ a
  fs : a ∉ X.fs
theorem list_raw {l : Addr} {xs : List V} (I : Inv X pins σ H s) (h : H l = some (.lst xs)) : ∃ its : List Value, Vals xs its ∧ s.heap.IsList l its.toArray := by
  obtain ⟨_, its, n, r, e⟩ := I.hok l _ h
  exact ⟨its, r, _, e, rfl, n, rfl⟩
theorem inv_turned {it : Addr} {h' : Heap} {t' : Nat} (I : Inv X pins σ H s) (f : Fsh X pins it) (hn : H it = none) (k : ∀ b o, b ≠ it → s.heap.get? b = some o → h'.get? b = some o) : Inv X pins σ H { s with heap := h', toks := t' } :=
  I.turned k hn f.loc (.inr f.sz) f.cell f.pin
end
section
variable {X : Cx} {pins : List (Addr × Obj)} {σ : L2.St} {os : Os} {F0 : Hp} {l S I f : Addr} {xs : List V} {kd : Nat → PyData} {k : Nat} {fd : FuncData} {ps : List Str} {sp : Sp}
/-- the state between two keys -/
def Btw (X : Cx) (pins : List (Addr × Obj)) (σ : L2.St) (os : Os) (F0 : Hp) (S I : Addr) (s : Shared) (P : Hp → Prop) : Prop := ∃ H F, Inv X pins σ H s ∧ Ow F os H ∧ Same F0 F ∧ H S = none ∧ H I = none ∧ P F
theorem Btw.turned {s : Shared} {it : Addr} {h' : Heap} {t' : Nat} {P : Hp → Prop} (b : Btw X pins σ os F0 S I s P) (f : Fsh X pins it) (hi : it = S ∨ it = I) (k : ∀ b o, b ≠ it → s.heap.get? b = some o → h'.get? b = some o) : Btw X pins σ os F0 S I { s with heap := h', toks := t' } P := by
  obtain ⟨H, F, inv, ow, sf, nS, nI, hP⟩ := b
  exact ⟨H, F, inv_turned inv f (hi.elim (fun e => e ▸ nS) fun e => e ▸ nI) k, ow, sf, nS, nI, hP⟩
theorem Btw.list {s : Shared} {P : Hp → Prop} (b : Btw X pins σ os F0 S I s P) (hl : F0 l = some (.lst xs)) : ∃ its : List Value, Vals xs its ∧ s.heap.IsList l its.toArray := by
  obtain ⟨H, F, inv, ow, sf, nS, nI, hP⟩ := b
  exact list_raw inv (ow.ex l _ (sf l _ hl))
end
end Z
namespace Z
open PySem PySem.Spec PyProof.Rows L2
theorem compTurn2_outZ (kx vx t0 i0 t1 i1 : Expr) (ifs0 ifs1 : List Expr) (scope : Scope) (pos : Pos) (it : Value) (D : Addr) (env : Env) :
    compTurn (.DictComp kx vx [⟨t0, i0, ifs0, 0⟩, ⟨t1, i1, ifs1, 0⟩] scope pos) 0 it (.ref D) env = (do
      standAt i0.pos
      match ← pyNext it with
      | none => pure (.done .next)
      | some v =>
        letOwnedTupleGo t0 it v
        assign t0 env v
        let mut ok := true
        for c in ifs0 do
          if ok then ok ← isTrue c env (eval c env)
        if ok then
          let x ← eval i1 env
          standAt i1.pos
          let x ← foldedSetIterable i1 env x
          let _ ← runOwn (.compStart (.DictComp kx vx [⟨t0, i0, ifs0, 0⟩, ⟨t1, i1, ifs1, 0⟩] scope pos) 1 (← holding [x] (pyIter x)) (.ref D) env) env
        again (.compLoop (.DictComp kx vx [⟨t0, i0, ifs0, 0⟩, ⟨t1, i1, ifs1, 0⟩] scope pos) 0 it (.ref D) env)) := by rfl
theorem compTurn2_inZ (kx vx t0 i0 t1 i1 : Expr) (ifs0 ifs1 : List Expr) (scope : Scope) (pos : Pos) (it : Value) (D : Addr) (env : Env) :
    compTurn (.DictComp kx vx [⟨t0, i0, ifs0, 0⟩, ⟨t1, i1, ifs1, 0⟩] scope pos) 1 it (.ref D) env = (do
      standAt i1.pos
      match ← pyNext it with
      | none => pure (.done .next)
      | some v =>
        letOwnedTupleGo t1 it v
        assign t1 env v
        let mut ok := true
        for c in ifs1 do
          if ok then ok ← isTrue c env (eval c env)
        if ok then
          (do
            let kv ← eval kx env
            let vv ← holding [kv] (eval vx env)
            standAt { kx.pos with endLine := vx.pos.endLine, endCol := vx.pos.endCol }
            holding [kv, vv] (dictSet D kv vv))
        again (.compLoop (.DictComp kx vx [⟨t0, i0, ifs0, 0⟩, ⟨t1, i1, ifs1, 0⟩] scope pos) 1 it (.ref D) env)) := by rfl
section
variable {prog : Program} {w : World} {A : Around} {R : Result → Shared → Prop} {s : Shared} {kx vx t0 i0 t1 i1 : Expr} {ifs0 ifs1 : List Expr} {scope : Scope} {pos : Pos} {it : Value} {D : Addr} {env : Env}
/-- the loop of the first clause -/
theorem compLoop2_outZ (hs : ∀ x, foldedSetIterable i1 env x = pure x) (I : Nat → Shared → Prop)
    (turn : ∀ n s, I n s → wpAny (model prog w) A (pyNext it) (fun r s₁ => match r with
      | none => R (.ok .next) s₁
      | some v => wpAny (model prog w) A (letOwnedTupleGo t0 it v) (fun _ s₁' => wpAny (model prog w) A (assign t0 env v) (fun _ s₂ =>
          wpAny (model prog w) A (forIn ifs0 true fun c r => if r = true then do let ok ← isTrue c env (eval c env); pure (ForInStep.yield ok) else pure (ForInStep.yield r)) (fun ok s₃ =>
            if ok = true then wpAny (model prog w) A (eval i1 env) (fun x s₄ => wpAny (model prog w) A (pyIter x) (fun it1 s₅ =>
              codeAny (model prog w) A (.compStart (.DictComp kx vx [⟨t0, i0, ifs0, 0⟩, ⟨t1, i1, ifs1, 0⟩] scope pos) 1 it1 (.ref D) env) (fun r s' => match r with
                | .ok _ => ∃ m, m < n ∧ I m s'
                | .error _ => False) s₅) (notedBy (model prog w) A env fun e s' => R (.error e) s') s₄) (notedBy (model prog w) A env fun e s' => R (.error e) s') s₃
            else ∃ m, m < n ∧ I m s₃) (notedBy (model prog w) A env fun e s' => R (.error e) s') s₂) (notedBy (model prog w) A env fun e s' => R (.error e) s') s₁') (notedBy (model prog w) A env fun e s' => R (.error e) s') s₁) (notedBy (model prog w) A env fun e s' => R (.error e) s') s)
    (n : Nat) (h : I n s) :
    codeAny (model prog w) A (.compLoop (.DictComp kx vx [⟨t0, i0, ifs0, 0⟩, ⟨t1, i1, ifs1, 0⟩] scope pos) 0 it (.ref D) env) R s := by
  refine codeAny_loop rfl I (fun n s hI => ?_) n h
  show wpAny _ A ((compTurn (.DictComp kx vx [⟨t0, i0, ifs0, 0⟩, ⟨t1, i1, ifs1, 0⟩] scope pos) 0 it (.ref D) env).onRaise (fun x => do noteFrame x env; theTreesLotGoes x)) _ _ s
  refine wpAny_noted ?_
  rw [compTurn2_outZ]
  refine wpAny_bind (wpAny_standAt (wpAny_bind (wpAny_mono (turn n s hI) (fun r s₁ h₁ => ?_) fun _ _ h' => h')))
  cases r with
  | none => exact wpAny_pure h₁
  | some v =>
    refine wpAny_bind (wpAny_mono h₁ (fun _ s₁' h₁' => ?_) fun _ _ h' => h')
    refine wpAny_bind (wpAny_mono h₁' (fun _ s₂ h₂ => wpAny_bind (wpAny_mono h₂ (fun ok s₃ h₃ => ?_) fun _ _ h' => h')) fun _ _ h' => h')
    cases ok with
    | false => exact wpAny_pure ⟨rfl, h₃⟩
    | true =>
      refine wpAny_bind (wpAny_mono h₃ (fun x s₄ h₄ => ?_) fun _ _ h' => h')
      refine wpAny_bind (wpAny_standAt (wpAny_bind (wpAny_of_eq (hs x) (wpAny_bind (wpAny_holding (wpAny_mono h₄ (fun it1 s₅ h₅ => ?_) fun _ _ h' => h'))))))
      refine wpAny_bind (wpAny_runOwn ?_)
      rw [Around.mark_none]
      refine codeAny_mono h₅ fun r s' hr => ?_
      cases r with
      | ok f =>
        first
          | exact wpAny_pure ⟨rfl, hr⟩
          | exact wpAny_bind (wpAny_pure (wpAny_pure ⟨rfl, hr⟩))
      | error e => exact hr.elim
/-- the loop of the second -/
theorem compLoop2_inZ (I : Nat → Shared → Prop)
    (turn : ∀ n s, I n s → wpAny (model prog w) A (pyNext it) (fun r s₁ => match r with
      | none => R (.ok .next) s₁
      | some v => wpAny (model prog w) A (letOwnedTupleGo t1 it v) (fun _ s₁' => wpAny (model prog w) A (assign t1 env v) (fun _ s₂ =>
          wpAny (model prog w) A (forIn ifs1 true fun c r => if r = true then do let ok ← isTrue c env (eval c env); pure (ForInStep.yield ok) else pure (ForInStep.yield r)) (fun ok s₃ =>
            if ok = true then wpAny (model prog w) A (eval kx env) (fun kv s₄ => wpAny (model prog w) A (eval vx env) (fun vv s₅ =>
              wpAny (model prog w) A (dictSet D kv vv) (fun _ s₆ => ∃ m, m < n ∧ I m s₆) (notedBy (model prog w) A env fun e s' => R (.error e) s') s₅) (notedBy (model prog w) A env fun e s' => R (.error e) s') s₄) (notedBy (model prog w) A env fun e s' => R (.error e) s') s₃
            else ∃ m, m < n ∧ I m s₃) (notedBy (model prog w) A env fun e s' => R (.error e) s') s₂) (notedBy (model prog w) A env fun e s' => R (.error e) s') s₁') (notedBy (model prog w) A env fun e s' => R (.error e) s') s₁) (notedBy (model prog w) A env fun e s' => R (.error e) s') s)
    (n : Nat) (h : I n s) :
    codeAny (model prog w) A (.compLoop (.DictComp kx vx [⟨t0, i0, ifs0, 0⟩, ⟨t1, i1, ifs1, 0⟩] scope pos) 1 it (.ref D) env) R s := by
  refine codeAny_loop rfl I (fun n s hI => ?_) n h
  show wpAny _ A ((compTurn (.DictComp kx vx [⟨t0, i0, ifs0, 0⟩, ⟨t1, i1, ifs1, 0⟩] scope pos) 1 it (.ref D) env).onRaise (fun x => do noteFrame x env; theTreesLotGoes x)) _ _ s
  refine wpAny_noted ?_
  rw [compTurn2_inZ]
  refine wpAny_bind (wpAny_standAt (wpAny_bind (wpAny_mono (turn n s hI) (fun r s₁ h₁ => ?_) fun _ _ h' => h')))
  cases r with
  | none => exact wpAny_pure h₁
  | some v =>
    refine wpAny_bind (wpAny_mono h₁ (fun _ s₁' h₁' => ?_) fun _ _ h' => h')
    refine wpAny_bind (wpAny_mono h₁' (fun _ s₂ h₂ => wpAny_bind (wpAny_mono h₂ (fun ok s₃ h₃ => ?_) fun _ _ h' => h')) fun _ _ h' => h')
    cases ok with
    | false => exact wpAny_pure ⟨rfl, h₃⟩
    | true =>
      exact wpAny_bind (wpAny_bind (wpAny_mono h₃ (fun kv s₄ h₄ => wpAny_bind (wpAny_holding (wpAny_mono h₄ (fun vv s₅ h₅ => wpAny_bind (wpAny_standAt (wpAny_holding (wpAny_mono h₅ (fun _ s₆ h₆ => wpAny_pure ⟨rfl, h₆⟩) fun _ _ h' => h')))) fun _ _ h' => h'))) fun _ _ h' => h'))
/-- the second clause's start -/
theorem compStart1_okZ (h0 : codeAny (model prog w) A (.compLoop (.DictComp kx vx [⟨t0, i0, ifs0, 0⟩, ⟨t1, i1, ifs1, 0⟩] scope pos) 1 it (.ref D) env) R s)
    (h : wpAny (model prog w) A (pyIter it) (fun it' s' => codeAny (model prog w) A (.compLoop (.DictComp kx vx [⟨t0, i0, ifs0, 0⟩, ⟨t1, i1, ifs1, 0⟩] scope pos) 1 it' (.ref D) env) R s')
      (notedBy (model prog w) A env fun x s' => R (.error x) s') s) :
    codeAny (model prog w) A (.compStart (.DictComp kx vx [⟨t0, i0, ifs0, 0⟩, ⟨t1, i1, ifs1, 0⟩] scope pos) 1 it (.ref D) env) R s := by
  refine codeAny_of_tree ?_
  show wpAny _ _ ((compStart (.DictComp kx vx [⟨t0, i0, ifs0, 0⟩, ⟨t1, i1, ifs1, 0⟩] scope pos) 1 it (.ref D) env).onRaise (fun x => do noteFrame x env; standAt theWindowsPlace)) _ _ s
  refine wpAny_notedAt ?_
  unfold compStart
  show wpAny _ _ (ask >>= _) _ _ s
  refine wpAny_bind (wpAny_askSetting (wpAny_ite ?_))
  split
  · first
      | exact wpAny_bind (wpAny_pure (wpAny_pure (And.intro rfl h0)))
      | exact wpAny_pure (And.intro rfl h0)
  · first
      | exact wpAny_bind (wpAny_rule (wpAny_bind (wpAny_standAt (wpAny_bind (wpAny_mono h (fun it' s' h' => wpAny_pure (And.intro rfl h')) fun _ _ x => x)))))
      | (refine wpAny_bind (wpAny_rule ?_); show wpAny _ _ (standAt i1.pos >>= _) _ _ s; exact wpAny_bind (wpAny_standAt (wpAny_bind (wpAny_mono h (fun it' s' h' => wpAny_pure (And.intro rfl h')) fun _ _ x => x))))
end
theorem wipe_outZ {σ : L2.St} {i : Nat} : ∀ {vs : List Nat}, i ∉ vs → (wipe σ vs)[i]? = σ[i]?
  | [], _ => rfl
  | v :: vs, h => by
    have h1 : v ≠ i := fun e => h (by rw [e]; exact List.mem_cons_self)
    have h2 : i ∉ vs := fun m => h (List.mem_cons_of_mem _ m)
    unfold wipe
    rw [List.getElem?_set_ne h1]
    exact wipe_outZ h2
section
variable {X : Cx}
/-- [elt for tg in iter if .. for tg1 in iter1 if ..]: behind the first clause's store and tests the second source's own loop, from which Nx is reached. vs: the block's names; vs1: those of the second target -/
def tDc2 (wi : TI) (g : TG) (tt : TT) (wi1 : TI) (g1 : TG) (tt1 : TT) (tk tv : TE) (vs vs1 : List Nat) : TE := fun σ H Q => wi σ H fun J H1 => ∀ D : Addr, H1 D = none → ∃ W : Nat → Nat → Hp → Prop, (∃ m, W 0 m (upd H1 D (.dT []))) ∧ ∀ (i m : Nat) (H : Hp), W i m H →
  (J.stop i H ∧ Q (.ref D) H) ∨ (J.go i H ∧ ∃ Nx : Hp → Prop, (∀ H' : Hp, Nx H' → ∃ m', m' < m ∧ W (i + 1) m' H') ∧ ∀ (x : L2.V) (H' : Hp), J.yld i H x H' → g x (wipe σ vs) H' fun σ2 H2 => wipe σ2 vs = wipe σ vs ∧ tt σ2 H2 fun b H3 =>
    if b = true then wi1 σ2 H3 fun J1 H4 => ∃ W1 : Nat → Nat → Hp → Prop, (∃ m, W1 0 m H4) ∧ ∀ (j k : Nat) (H : Hp), W1 j k H →
      (J1.stop j H ∧ Nx H) ∨ (J1.go j H ∧ ∃ Nx1 : Hp → Prop, (∀ H' : Hp, Nx1 H' → ∃ k', k' < k ∧ W1 (j + 1) k' H') ∧ ∀ (x : L2.V) (H' : Hp), J1.yld j H x H' → g1 x (wipe σ2 vs1) H' fun σ3 H5 => wipe σ3 vs1 = wipe σ2 vs1 ∧ tt1 σ3 H5 fun b H6 =>
        if b = true then tk σ3 H6 fun y H7 => tv σ3 H7 fun z H8 => ∃ (kvs : List (List Key × L2.V)) (k : List Key) (a : Addr), y = .ref a ∧ H8 a = some (.tup (k.map kV)) ∧ H8 D = some (.dT kvs) ∧ kvs.length < sizeLine ∧ Nx1 (upd H8 D (.dT (putK kvs k z))) else Nx1 H6)
    else Nx H3)
theorem dc2_core {pins : List (Addr × Obj)} {s : Shared} {σ : L2.St} {H : Hp} {Q : VK} {kx vx tg iter tg1 iter1 : Expr} {ifs ifs1 : List Expr} {scope : Scope} {own : List (Str × Nat)} {vs1 : List Nat} {pos pos' : Pos} {wi wi1 : TI} {g g1 : TG} {tt tt1 : TT} {tk tv : TE} {use : Option (Value → Sem Unit)} {Qf : Value → Shared → Prop}
    (hu : X.A.units + 1 < cLine) (hc : X.calm = true) (hN : X.N.Nodup) (I : Inv X pins σ H s) (hi : PI X tg iter wi) (ok : BlkOk X.N X.env.scope scope own) (hv : ∀ i ∈ vs1, i ∈ own.map (·.2))
    (hg : ∀ (s : Shared) (H : Hp) (C : Addr) (cl : List (Str × Addr)) (fp : List Addr), PG (X.blk s H scope (compEnvC scope cl C X.env) fp) tg g) (ht : ∀ (s : Shared) (H : Hp) (C : Addr) (cl : List (Str × Addr)) (fp : List Addr), PTs (X.blk s H scope (compEnvC scope cl C X.env) fp) ifs tt)
    (hk : ∀ (s : Shared) (H : Hp) (C : Addr) (cl : List (Str × Addr)) (fp : List Addr), PE (X.blk s H scope (compEnvC scope cl C X.env) fp) kx tk) (he : ∀ (s : Shared) (H : Hp) (C : Addr) (cl : List (Str × Addr)) (fp : List Addr), PE (X.blk s H scope (compEnvC scope cl C X.env) fp) vx tv) (hs : ∀ x, foldedSetIterable iter X.env x = pure x)
    (hi1 : ∀ (s : Shared) (H : Hp) (C : Addr) (cl : List (Str × Addr)) (fp : List Addr), PI (X.blk s H scope (compEnvC scope cl C X.env) fp) tg1 iter1 wi1)
    (hg1 : ∀ (s : Shared) (H : Hp) (C : Addr) (cl : List (Str × Addr)) (fp : List Addr), PG (X.blk s H scope (compEnvC scope cl C X.env) fp) tg1 g1)
    (ht1 : ∀ (s : Shared) (H : Hp) (C : Addr) (cl : List (Str × Addr)) (fp : List Addr), PTs (X.blk s H scope (compEnvC scope cl C X.env) fp) ifs1 tt1)
    (hs1 : ∀ env x, foldedSetIterable iter1 env x = pure x)
    (h : tDc2 wi g tt wi1 g1 tt1 tk tv (own.map (·.2)) vs1 σ H Q)
    (hRR : ∀ D C s' m H', Inv X pins σ H' s' → Q (.ref D) H' → s'.heap.Ns C m → FpOk X pins H' C → compPost (model X.prog X.w) X.A X.xe use Qf (.ref D) C (.ok .next) s') :
    wpAny (model X.prog X.w) X.A (comprehension (.DictComp kx vx [⟨tg, iter, ifs, 0⟩, ⟨tg1, iter1, ifs1, 0⟩] scope pos) scope X.env pos' newDict false (eval iter X.env) use) Qf X.xe s := by
  have hfree : ∀ y ∈ scope.names, y.2 = .free → ∃ c, X.env.cells.lookup y.1 = some c := fun y hy e => by
    rcases ok.free y hy e with k | k
    · exact I.ok.has _ (.inl k)
    · exact I.ok.has _ (.inr k)
  refine wpAny_comprehension_free (use := use) rfl hs (closure_ok hfree) ok.kind (fun y hy e => by rw [ok.uniq y hy, e])
    (thn (hi.run pins s σ H _ I h) fun xv s1 hx => thn hx fun itv s2 h2 => ?_)
  obtain ⟨it, fp, tn, J, H2, e, I2, T, st2, f2, q⟩ := h2
  subst e
  refine wpAny_newObj_type (newEnv_comp ?_)
  generalize hD : s2.heap.objs.size = D
  have hDn : H2 D = none := I2.hok.fresh (Nat.le_of_eq hD)
  obtain ⟨W, ⟨m0, w0⟩, turn⟩ := q D hDn
  have I3 := Inv.laid (t' := s2.toks) I2 (fun b o e => Heap.get?_push_of_some { cls := Value.type "dict", data := Data.dict #[] } e) (Nat.le_refl _) (dt_empty s2.heap I2.big)
  rw [hD] at I3
  have h3' : ({ heap := s2.heap.push { cls := Value.type "dict", data := Data.dict #[] }, gens := s2.gens, drawn := s2.drawn, toks := s2.toks, os := s2.os } : Shared).heap = s2.heap.push { cls := Value.type "dict", data := Data.dict #[] } := rfl
  generalize hs3 : ({ heap := s2.heap.push { cls := Value.type "dict", data := Data.dict #[] }, gens := s2.gens, drawn := s2.drawn, toks := s2.toks, os := s2.os } : Shared) = s3 at I3 h3' ⊢
  have h3 : s3.heap = s2.heap.push { cls := Value.type "dict", data := Data.dict #[] } := h3'
  have sz : ∀ b ∈ fp, b < s2.heap.objs.size := fun b hb => by
    obtain ⟨o, e, _⟩ := T.obj _ _ st2 b hb
    exact Heap.lt_size e
  have f3 : ∀ b ∈ fp, FpOk X pins (upd H2 D (.dT [])) b ∧ b < s3.heap.objs.size := fun b hb => by
    have hlt := sz b hb
    refine ⟨⟨?_, (f2 b hb).2⟩, by rw [h3, Heap.size_push]; exact Nat.lt_succ_of_lt hlt⟩
    rw [upd_ne (by rw [← hD]; exact Nat.ne_of_lt hlt)]
    exact (f2 b hb).1
  have st3 : tn 0 s3.heap := T.keep _ _ _ st2 fun b _ o e => by rw [h3]; exact Heap.get?_push_of_some _ e
  have I4 := block_start I3 ok hN f3
  have pg := hg s3 (upd H2 D (.dT [])) s3.heap.objs.size (cellsFrom (s3.heap.objs.size + 1) scope.names (cloFrom X.env.cells scope.names [])) fp
  have pt := ht s3 (upd H2 D (.dT [])) s3.heap.objs.size (cellsFrom (s3.heap.objs.size + 1) scope.names (cloFrom X.env.cells scope.names [])) fp
  have pe := he s3 (upd H2 D (.dT [])) s3.heap.objs.size (cellsFrom (s3.heap.objs.size + 1) scope.names (cloFrom X.env.cells scope.names [])) fp
  have pk := hk s3 (upd H2 D (.dT [])) s3.heap.objs.size (cellsFrom (s3.heap.objs.size + 1) scope.names (cloFrom X.env.cells scope.names [])) fp
  have pi1 := hi1 s3 (upd H2 D (.dT [])) s3.heap.objs.size (cellsFrom (s3.heap.objs.size + 1) scope.names (cloFrom X.env.cells scope.names [])) fp
  have pg1 := hg1 s3 (upd H2 D (.dT [])) s3.heap.objs.size (cellsFrom (s3.heap.objs.size + 1) scope.names (cloFrom X.env.cells scope.names [])) fp
  have pt1 := ht1 s3 (upd H2 D (.dT [])) s3.heap.objs.size (cellsFrom (s3.heap.objs.size + 1) scope.names (cloFrom X.env.cells scope.names [])) fp
  show codeAny _ _ (.compStart (.DictComp kx vx [⟨tg, iter, ifs, 0⟩, ⟨tg1, iter1, ifs1, 0⟩] scope pos) 0 (.ref it) (.ref D) (compEnvC scope (cellsFrom (s3.heap.objs.size + 1) scope.names (cloFrom X.env.cells scope.names [])) s3.heap.objs.size X.env)) (compPost (model X.prog X.w) X.A X.xe use Qf (.ref D) s3.heap.objs.size) { s3 with heap := pushCells (s3.heap.push { cls := .type "dict", data := .dict #[] }) scope.names }
  have nfp : ∀ b ∈ fp, (upd H2 D (.dT [])) b = none := fun b hb => (f3 b hb).1.1
  generalize hce : compEnvC scope (cellsFrom (s3.heap.objs.size + 1) scope.names (cloFrom X.env.cells scope.names [])) s3.heap.objs.size X.env = ce at I4 pg pt pk pe pi1 pg1 pt1 ⊢
  have cL : ce.locals = s3.heap.objs.size := by subst hce; rfl
  generalize hH3 : upd H2 D (.dT []) = H3 at I3 I4 pg pt pk pe pi1 pg1 pt1 w0 nfp f3
  generalize hs4 : ({ s3 with heap := pushCells (s3.heap.push { cls := .type "dict", data := .dict #[] }) scope.names } : Shared) = s4 at I4 ⊢
  have st4 : tn 0 s4.heap := T.keep _ _ _ st3 fun b _ o e => by rw [← hs4]; exact pushCells_keeps _ _ _ _ (Heap.get?_push_of_some _ e)
  have stat : ∀ {σ' : L2.St} {H' : Hp} {s' : Shared}, Inv (X.blk s3 H3 scope ce fp) [] σ' H' s' → (∀ b ∈ fp, H' b = none) → ∀ b ∈ fp, FpOk (X.blk s3 H3 scope ce fp) [] H' b := fun {σ' H' s'} I' hn b hb =>
    ⟨hn b hb, (I'.ok.exf b hb).1, I'.ok.exfs b hb, .inl hb, fun x c e => (I'.ok.exf b hb).2 x c e, fun p hp => absurd (show p ∈ ([] : List (Addr × Obj)) ++ [] from hp) (by simp)⟩
  have loop : codeAny (model X.prog X.w) X.A (.compLoop (.DictComp kx vx [⟨tg, iter, ifs, 0⟩, ⟨tg1, iter1, ifs1, 0⟩] scope pos) 0 (.ref it) (.ref D) ce) (compPost (model X.prog X.w) X.A X.xe use Qf (.ref D) s3.heap.objs.size) s4 := by
    refine compLoop2_outZ (hs1 ce) (fun n s' => ∃ i H', Inv (X.blk s3 H3 scope ce fp) [] (wipe σ (own.map (·.2))) H' s' ∧ tn i s'.heap ∧ (∀ b ∈ fp, H' b = none) ∧ W i n H') ?_ m0 ⟨0, H3, I4, st4, nfp, w0⟩
    rintro n s5 ⟨i, H5, I5, st5, n5, w5⟩
    rcases turn i n H5 w5 with ⟨stop, qq⟩ | ⟨go, Nx, hNx, step⟩
    · have td := T.done (X.blk s3 H3 scope ce fp) rfl rfl rfl hc i [] s5 _ H5 (fun _ _ => False) I5 (stat I5 n5) st5 stop
      refine thnF td fun r s6 ⟨hr, I6⟩ => ?_
      subst hr
      -- back in the def's context
      have I7 : Inv X pins σ H5 s6 := I3.call' (ch := fp) I6.os I6.base I6.hok I6.bare fun b hb => ⟨(f3 b hb).1.2.2.2.1, (f3 b hb).1.2.1, (f3 b hb).1.2.2.2.2.1, (f3 b hb).1.2.2.2.2.2⟩
      have nC : H5 s3.heap.objs.size = none := by
        have z : H5 ce.locals = none := I6.free
        rw [cL] at z
        exact z
      obtain ⟨m, hn, _⟩ := I6.loc
      have hn : s6.heap.Ns ce.locals m := hn
      rw [cL] at hn
      exact hRR D s3.heap.objs.size s6 m H5 I7 qq hn (I3.fpOk (Nat.le_refl _) nC)
    · have ti := T.item (X.blk s3 H3 scope ce fp) rfl rfl rfl hc i [] s5 _ H5 (fun _ _ => False) I5 (stat I5 n5) st5 go
      refine thnF ti fun r s6 ⟨u, hr, h6⟩ => ?_
      subst hr
      refine thnF h6 fun _ s7 ⟨x, H7, I7, r7, y7, st7, n7⟩ => ?_
      have I7' := I7.pinned (stat I7 n7) (T.obj _ _ st7)
      refine thnF (pg.run _ s7 _ H7 x u _ I7' r7 (step x H7 y7)) fun _ s8 ⟨σ8, H8, I8, hw8, q8⟩ => ?_
      refine thnF (pt.run _ s8 σ8 H8 _ I8 q8) fun b s9 ⟨H9, I9, q9⟩ => ?_
      -- the turn's end, from any slots that know what the block knew at its start
      have fin : ∀ {σ9 : L2.St} {s' : Shared} {H' : Hp}, Inv (X.blk s3 H3 scope ce fp) ([] ++ pinsAt fp s7.heap) σ9 H' s' → (wipe σ (own.map (·.2))).length = σ9.length → (∀ (j : Nat) v, (wipe σ (own.map (·.2)))[j]? = some (some v) → σ9[j]? = some (some v)) → Nx H' →
          ∃ m, m < n ∧ ∃ i H', Inv (X.blk s3 H3 scope ce fp) [] (wipe σ (own.map (·.2))) H' s' ∧ tn i s'.heap ∧ (∀ b ∈ fp, H' b = none) ∧ W i m H' := fun {σ9 s' H'} I' hl hk nx => by
        obtain ⟨m', hm, w'⟩ := hNx H' nx
        have pin' : ∀ b ∈ fp, ∀ o, s7.heap.get? b = some o → s'.heap.get? b = some o ∧ H' b = none := fun b hb o e =>
          let z := I'.pin (b, o) (List.mem_append_right _ (List.mem_append_right _ (mem_pinsAt hb e)))
          ⟨z.1, z.2.1⟩
        refine ⟨m', hm, i + 1, H', (I'.unpinned (pins := [])).weak hl hk, T.keep _ _ _ st7 fun b hb o e => (pin' b hb o e).1, fun b hb => ?_, w'⟩
        obtain ⟨o, e, _⟩ := T.obj _ _ st7 b hb
        exact (pin' b hb o e).2
      have hl8 : (wipe σ (own.map (·.2))).length = σ8.length := by rw [← hw8, wipe_length]
      have hk8 : ∀ (j : Nat) v, (wipe σ (own.map (·.2)))[j]? = some (some v) → σ8[j]? = some (some v) := fun j v e => by
        rw [← hw8] at e
        exact (wipe_some e).1
      have hk9 : ∀ (j : Nat) v, (wipe σ (own.map (·.2)))[j]? = some (some v) → (wipe σ8 vs1)[j]? = some (some v) := fun j v e => by
        rw [← hw8] at e
        obtain ⟨e1, e2⟩ := wipe_some e
        rw [wipe_outZ fun z => e2 (hv j z)]
        exact e1
      cases b with
      | false =>
        simp only [Bool.false_eq_true, if_false] at q9 ⊢
        exact fin I9 hl8 hk8 q9
      | true =>
        simp only [if_true] at q9 ⊢
        refine thnF (pi1.run _ s9 σ8 H9 _ I9 q9) fun xv s10 hx => thnF hx fun itv s11 h11 => ?_
        obtain ⟨it1, fp1, tn1, J1, H11, e1, I11, T1, st11, f11, W1, ⟨m1, w1⟩, turn1⟩ := h11
        subst e1
        -- the inner loop
        have stat1 : ∀ {H' : Hp}, (∀ b ∈ fp1, H' b = none) → ∀ b ∈ fp1, FpOk (X.blk s3 H3 scope ce fp) ([] ++ pinsAt fp s7.heap) H' b := fun hn b hb => ⟨hn b hb, (f11 b hb).2⟩
        have loop1 : codeAny (model X.prog X.w) X.A (.compLoop (.DictComp kx vx [⟨tg, iter, ifs, 0⟩, ⟨tg1, iter1, ifs1, 0⟩] scope pos) 1 (.ref it1) (.ref D) ce)
            (fun r s' => match r with
              | .ok _ => ∃ m, m < n ∧ ∃ i H', Inv (X.blk s3 H3 scope ce fp) [] (wipe σ (own.map (·.2))) H' s' ∧ tn i s'.heap ∧ (∀ b ∈ fp, H' b = none) ∧ W i m H'
              | .error _ => False) s11 := by
          refine compLoop2_inZ (fun k s' => ∃ j H', Inv (X.blk s3 H3 scope ce fp) ([] ++ pinsAt fp s7.heap) (wipe σ8 vs1) H' s' ∧ tn1 j s'.heap ∧ (∀ b ∈ fp1, H' b = none) ∧ W1 j k H') ?_ m1 ⟨0, H11, I11.weak (wipe_length _ _) (fun j v e => (wipe_some e).1), st11, fun b hb => (f11 b hb).1, w1⟩
          rintro k s12 ⟨j, H12, I12, st12, n12, w12⟩
          rcases turn1 j k H12 w12 with ⟨stop1, nx1⟩ | ⟨go1, Nx1, hNx1, step1⟩
          · refine thnF (T1.done (X.blk s3 H3 scope ce fp) rfl rfl rfl hc j _ s12 (wipe σ8 vs1) H12 (fun _ _ => False) I12 (stat1 n12) st12 stop1) fun r s13 ⟨hr, I13⟩ => ?_
            subst hr
            exact fin I13 (hl8.trans (wipe_length σ8 vs1).symm) hk9 nx1
          · refine thnF (T1.item (X.blk s3 H3 scope ce fp) rfl rfl rfl hc j _ s12 (wipe σ8 vs1) H12 (fun _ _ => False) I12 (stat1 n12) st12 go1) fun r s13 ⟨u1, hr, h13⟩ => ?_
            subst hr
            refine thnF h13 fun _ s14 ⟨x1, H14, I14, r14, y14, st14, n14⟩ => ?_
            have I14' := I14.pinned (stat1 n14) (T1.obj _ _ st14)
            refine thnF (pg1.run _ s14 (wipe σ8 vs1) H14 x1 u1 _ I14' r14 (step1 x1 H14 y14)) fun _ s15 ⟨σ15, H15, I15, hw15, q15⟩ => ?_
            refine thnF (pt1.run _ s15 σ15 H15 _ I15 q15) fun b1 s16 ⟨H16, I16, q16⟩ => ?_
            have fin1 : ∀ {s' : Shared} {H' : Hp}, Inv (X.blk s3 H3 scope ce fp) (([] ++ pinsAt fp s7.heap) ++ pinsAt fp1 s14.heap) σ15 H' s' → Nx1 H' → ∃ m, m < k ∧ ∃ j H', Inv (X.blk s3 H3 scope ce fp) ([] ++ pinsAt fp s7.heap) (wipe σ8 vs1) H' s' ∧ tn1 j s'.heap ∧ (∀ b ∈ fp1, H' b = none) ∧ W1 j m H' := fun {s' H'} I' nx => by
              obtain ⟨m', hm, w'⟩ := hNx1 H' nx
              have pin' : ∀ b ∈ fp1, ∀ o, s14.heap.get? b = some o → s'.heap.get? b = some o ∧ H' b = none := fun b hb o e =>
                let z := I'.pin (b, o) (List.mem_append_right _ (List.mem_append_right _ (mem_pinsAt hb e)))
                ⟨z.1, z.2.1⟩
              refine ⟨m', hm, j + 1, H', I'.unpinned.weak (by rw [← hw15, wipe_length]) (fun j v e => by rw [← hw15] at e; exact (wipe_some e).1), T1.keep _ _ _ st14 fun b hb o e => (pin' b hb o e).1, fun b hb => ?_, w'⟩
              obtain ⟨o, e, _⟩ := T1.obj _ _ st14 b hb
              exact (pin' b hb o e).2
            cases b1 with
            | false =>
              simp only [Bool.false_eq_true, if_false] at q16 ⊢
              exact fin1 I16 q16
            | true =>
              simp only [if_true] at q16 ⊢
              refine thnF (pk.run _ s16 σ15 H16 _ I16 q16) fun z s17 ⟨yk, H17, I17, r17, q17⟩ => ?_
              refine thnF (pe.run _ s17 σ15 H17 _ I17 q17) fun z2 s18 ⟨yv, H18, I18, r18, kvs, kk, a, ey, ea, hD18, hz18, nx⟩ => ?_
              subst ey
              obtain rfl : z = Value.ref a := r17
              exact dset_tup (X := X.blk s3 H3 scope ce fp) hu I18 hD18 ea r18 hz18 fun s19 I19 => fin1 I19 nx
        exact compStart1_okZ loop1 (T1.self X.A 0 _ _ _ st11 loop1)
  exact codeAny_compStart_dict loop (T.self X.A 0 _ _ _ st4 loop)
end
section
variable {X : Cx} {kx vx tg iter tg1 iter1 : Expr} {ifs ifs1 : List Expr} {scope : Scope} {own : List (Str × Nat)} {vs1 : List Nat} {pos : Pos} {wi wi1 : TI} {g g1 : TG} {tt tt1 : TT} {tk tv : TE}
theorem ps_setDc2 {i : Nat} {y : Str} {py spos : Pos} (hu : X.A.units + 1 < cLine) (hc : X.calm = true) (hN : X.N.Nodup) (hy : X.N[i]? = some y) (hyl : List.lookup y X.env.scope.names = some NameKind.local)
    (hsw : swapsWith (.DictComp kx vx [⟨tg, iter, ifs, 0⟩, ⟨tg1, iter1, ifs1, 0⟩] scope pos) (some (.Name y py)) spos.line X.env = pure true) (hi : PI X tg iter wi) (ok : BlkOk X.N X.env.scope scope own) (hv : ∀ i ∈ vs1, i ∈ own.map (·.2))
    (hg : ∀ (s : Shared) (H : Hp) (C : Addr) (cl : List (Str × Addr)) (fp : List Addr), PG (X.blk s H scope (compEnvC scope cl C X.env) fp) tg g)
    (ht : ∀ (s : Shared) (H : Hp) (C : Addr) (cl : List (Str × Addr)) (fp : List Addr), PTs (X.blk s H scope (compEnvC scope cl C X.env) fp) ifs tt)
    (hk : ∀ (s : Shared) (H : Hp) (C : Addr) (cl : List (Str × Addr)) (fp : List Addr), PE (X.blk s H scope (compEnvC scope cl C X.env) fp) kx tk)
    (he : ∀ (s : Shared) (H : Hp) (C : Addr) (cl : List (Str × Addr)) (fp : List Addr), PE (X.blk s H scope (compEnvC scope cl C X.env) fp) vx tv)
    (hs : ∀ x : Value, foldedSetIterable iter X.env x = pure x)
    (hi1 : ∀ (s : Shared) (H : Hp) (C : Addr) (cl : List (Str × Addr)) (fp : List Addr), PI (X.blk s H scope (compEnvC scope cl C X.env) fp) tg1 iter1 wi1)
    (hg1 : ∀ (s : Shared) (H : Hp) (C : Addr) (cl : List (Str × Addr)) (fp : List Addr), PG (X.blk s H scope (compEnvC scope cl C X.env) fp) tg1 g1)
    (ht1 : ∀ (s : Shared) (H : Hp) (C : Addr) (cl : List (Str × Addr)) (fp : List Addr), PTs (X.blk s H scope (compEnvC scope cl C X.env) fp) ifs1 tt1)
    (hs1 : ∀ env x, foldedSetIterable iter1 env x = pure x) : PS X (.Assign [.Name y py] (.DictComp kx vx [⟨tg, iter, ifs, 0⟩, ⟨tg1, iter1, ifs1, 0⟩] scope pos) spos) (tAsg (tDc2 wi g tt wi1 g1 tt1 tk tv (own.map (·.2)) vs1) (gName i)) := by
  refine ⟨fun pins s σ H D I h => ?_⟩
  rw [exec_Assign_Name_used y py _ spos hsw]
  refine wpAny_bind (wpAny_standAt (wpAny_bind ?_))
  refine wpAny_bind (thn (dc2_core (Qf := fun _ s' => SP X pins D .next s') hu hc hN I hi ok hv hg ht hk he hs hi1 hg1 ht1 hs1 h fun L C s' m H' I' q hn f => ?_) fun x s' hq => wpAny_pure (wpAny_pure hq))
  refine wpAny_assign_Name (store_ok2 I' hN hy (.inl hyl) (show RelV (V.ref L) (Value.ref L) from rfl) (fun s2 I2 x => ?_) (.inr hyl))
  obtain ⟨a, sb, ha⟩ := x
  obtain ⟨f0, f1, _, f3, f4, f5⟩ := f
  have haC : C ≠ a := by
    rcases ha with z | z
    · rw [z]; exact f1
    · exact fun e => f4 y a z e.symm
  exact ⟨m, hn.sameBut sb haC, fun h3 sb3 => ⟨σ.set i (some (V.ref L)), H', Inv.turned I2 (fun b o hb e => (sb3.2 b hb).trans e) f0 f1 f3 f4 f5, q⟩⟩
end
section
variable {X : Cx} {es : List Slot} {os os0 os1 os2 : Os} {F0 : Hp} {rest : List Stmt} {D : Ends} {N V G W : List Str} {k i j vi gi : Nat} {x0 y0 : Str} {p0 p1 pos : Pos} {α β κ γ : Type} {scope : Scope} {iter iter1 kx vx : Expr} {xs : List α} {vp : α → VP} {vp1 : α → γ → VP}
/-- the mirror: l of each x, and of each thing of it at most one pair -/
def dcS2 [DecidableEq κ] (ys : α → Option (List γ)) (m : α → γ → Option (Option (κ × β))) : List α → List (κ × β) → Option (List (κ × β))
  | [], w => some w
  | x :: t, w => (ys x).bind fun l => (dcS (m x) l w).bind fun w' => dcS2 ys m t w'
theorem dput_ge [DecidableEq κ] (w : List (κ × β)) (k : κ) (v : β) : w.length ≤ (dPut w k v).length := by
  unfold dPut
  split
  · rw [List.length_map]; exact Nat.le_refl _
  · rw [List.length_append]; omega
theorem dcS_ge [DecidableEq κ] {m : α → Option (Option (κ × β))} : ∀ {xs : List α} {w wf : List (κ × β)}, dcS m xs w = some wf → w.length ≤ wf.length
  | [], w, wf, h => by cases h; exact Nat.le_refl _
  | x :: xs, w, wf, h => by
    unfold dcS at h
    obtain ⟨t, _, h⟩ := bnd h
    have h2 := dcS_ge h
    cases t with
    | none => exact h2
    | some z => exact Nat.le_trans (dput_ge w z.1 z.2) h2
theorem dcS2_ge [DecidableEq κ] {ys : α → Option (List γ)} {m : α → γ → Option (Option (κ × β))} : ∀ {xs : List α} {w wf : List (κ × β)}, dcS2 ys m xs w = some wf → w.length ≤ wf.length
  | [], w, wf, h => by cases h; exact Nat.le_refl _
  | x :: xs, w, wf, h => by
    unfold dcS2 at h
    obtain ⟨l, _, h⟩ := bnd h
    obtain ⟨w', h1, h⟩ := bnd h
    exact Nat.le_trans (dcS_ge h1) (dcS2_ge h)
theorem dc_read2 [DecidableEq κ] {f : κ → List Key} {enc : β → PyData} {ys : α → Option (List γ)} {m : α → γ → Option (Option (κ × β))} {wf : List (κ × β)} (hinj : (Kd.tu f).Inj) (hij : i ≠ j) (hu1 : es[i]? = some un) (hu2 : es[j]? = some un)
    (hi : IX X (.Name x0 p0) es os iter xs vp anyOs os0) (hl : dcS2 ys m xs [] = some wf) (hz : wf.length < sizeLine)
    (hb : ∀ x l q, x ∈ xs → ys x = some l → ∀ X', Fam X scope X' → IX X' (.Name y0 p1) (es.set i (sl (vp x))) (q :: os0) iter1 l (vp1 x) anyOs (q :: os0))
    (hc : ∀ x l y t q, x ∈ xs → ys x = some l → y ∈ l → m x y = some t → ∀ X', Fam X scope X' → ∃ z, t = some z ∧ EX X' ((es.set i (sl (vp x))).set j (sl (vp1 x y))) (q :: os0) kx (dat ((Kd.tu f).ek z.1)) (q :: os0) ∧ EX X' ((es.set i (sl (vp x))).set j (sl (vp1 x y))) (q :: os0) vx (dat (enc z.2)) (q :: os0))
    {F σ H Q} (ow : Ow F os H) (slo : Sl F es σ) (q : ∀ F' H' p, Same F F' → Ow F' ((p, od (.tu f) (eM enc wf)) :: os0) H' → Q (.ref p) H') :
    tDc2 (WI X (.Name x0 p0) iter) (gName i) (tIfs X scope []) (fun σ H R => ∀ X', Fam X scope X' → WI X' (.Name y0 p1) iter1 σ H R) (gName j) (tIfs X scope []) (tElt X scope kx) (tElt X scope vx) [i, j] [j] σ H Q := by
  refine hi F σ H _ ow slo fun F1 H1 J e1 o1 good Dl hD => ?_
  refine ⟨fun a n H => n = xs.length - a ∧ a ≤ xs.length ∧ ∃ w F, dcS2 ys m (xs.drop a) w = some wf ∧ Same F1 F ∧ Ow F ((Dl, od (.tu f) (eM enc w)) :: os0) H, ⟨_, rfl, Nat.zero_le _, [], F1, hl, Same.refl F1, o1.new hD (od_one (kd := .tu f) .nil)⟩, ?_⟩
  rintro a n H' ⟨rfl, ha, w, F', hr, e', o'⟩
  obtain ⟨stop, go⟩ := good F' H' _ a e' o' trivial
  cases hx : xs[a]? with
  | none =>
    have ha2 : xs.length ≤ a := List.getElem?_eq_none_iff.mp hx
    rw [List.drop_eq_nil_of_le ha2] at hr
    cases hr
    exact .inl ⟨stop ha2, q F' H' Dl (e1.trans e') o'⟩
  | some x =>
    obtain ⟨hgo, hyl⟩ := go x hx
    have hlt : a < xs.length := (List.getElem?_eq_some_iff.mp hx).1
    have hmem := List.mem_of_getElem? hx
    rw [drop_cons' hx] at hr
    unfold dcS2 at hr
    obtain ⟨l, hys, hr⟩ := bnd hr
    obtain ⟨w', hm, hr⟩ := bnd hr
    refine .inr ⟨hgo, fun H => ∃ w F, dcS2 ys m (xs.drop (a + 1)) w = some wf ∧ Same F1 F ∧ Ow F ((Dl, od (.tu f) (eM enc w)) :: os0) H, fun H2 hH2 => ⟨_, by omega, rfl, by omega, hH2⟩, fun v H3 yv => ?_⟩
    obtain ⟨F3, e3, o3, c3⟩ := hyl v H3 yv
    have slw : Sl F3 es (wipe σ [i, j]) := sl_wipe (slo.mono ((e1.trans e').trans e3)) _ fun q hq => by
      rcases List.mem_cons.mp hq with rfl | hq
      · exact ⟨un, hu1, rfl⟩
      · rcases List.mem_cons.mp hq with rfl | hq
        · exact ⟨un, hu2, rfl⟩
        · cases hq
    have hw : wipe ((wipe σ [i, j]).set i (some v)) [i, j] = wipe σ [i, j] := by
      show ((((σ.set j none).set i none).set i (some v)).set j none).set i none = (σ.set j none).set i none
      rw [List.set_set, List.set_comm _ _ hij, List.set_set, List.set_set]
    refine ⟨hw, ?_⟩
    have sl2 : Sl F3 (es.set i (sl (vp x))) ((wipe σ [i, j]).set i (some v)) := slw.put c3
    generalize (wipe σ [i, j]).set i (some v) = σ2 at sl2 ⊢
    refine fun X' hX' => ?_
    refine hb x l (Dl, od (.tu f) (eM enc w)) hmem hys X' hX' F3 σ2 H3 _ o3 sl2 fun F4 H4 J1 e4 o4 good1 => ?_
    refine ⟨fun b n H => n = l.length - b ∧ b ≤ l.length ∧ ∃ u F, dcS (m x) (l.drop b) u = some w' ∧ Same F1 F ∧ Same F4 F ∧ Ow F ((Dl, od (.tu f) (eM enc u)) :: os0) H, ⟨_, rfl, Nat.zero_le _, w, F4, hm, (e'.trans e3).trans e4, Same.refl F4, o4⟩, ?_⟩
    rintro b n H5 ⟨rfl, hb', u, F5, hr5, e15, e45, o5⟩
    obtain ⟨stop1, go1⟩ := good1 F5 H5 _ b e45 o5 trivial
    cases hy : l[b]? with
    | none =>
      have hb2 : l.length ≤ b := List.getElem?_eq_none_iff.mp hy
      rw [List.drop_eq_nil_of_le hb2] at hr5
      cases hr5
      exact .inl ⟨stop1 hb2, _, F5, hr, e15, o5⟩
    | some y =>
      obtain ⟨hgo1, hyl1⟩ := go1 y hy
      have hlt1 : b < l.length := (List.getElem?_eq_some_iff.mp hy).1
      have hmem1 := List.mem_of_getElem? hy
      rw [drop_cons' hy] at hr5
      unfold dcS at hr5
      obtain ⟨t, ht, hr5⟩ := bnd hr5
      refine .inr ⟨hgo1, fun H => ∃ u F, dcS (m x) (l.drop (b + 1)) u = some w' ∧ Same F1 F ∧ Same F4 F ∧ Ow F ((Dl, od (.tu f) (eM enc u)) :: os0) H, fun H6 h6 => ⟨_, by omega, rfl, by omega, h6⟩, fun v1 H6 yv1 => ?_⟩
      obtain ⟨F6, e6, o6, c6⟩ := hyl1 v1 H6 yv1
      have e36 : Same F3 F6 := (e4.trans e45).trans e6
      have slw1 : Sl F6 (es.set i (sl (vp x))) (wipe σ2 [j]) := sl_wipe (sl2.mono e36) _ fun q hq => by
        rcases List.mem_cons.mp hq with rfl | hq
        · exact ⟨un, by rw [List.getElem?_set_ne hij]; exact hu2, rfl⟩
        · cases hq
      have hw1 : wipe ((wipe σ2 [j]).set j (some v1)) [j] = wipe σ2 [j] := by
        show (((σ2.set j none).set j (some v1)).set j none) = σ2.set j none
        rw [List.set_set, List.set_set]
      refine ⟨hw1, ?_⟩
      have sl3 : Sl F6 ((es.set i (sl (vp x))).set j (sl (vp1 x y))) ((wipe σ2 [j]).set j (some v1)) := slw1.put c6
      generalize (wipe σ2 [j]).set j (some v1) = σ3 at sl3 ⊢
      refine fun X'' hX'' => ?_
      obtain ⟨z, rfl, k3, _⟩ := hc x l y t (Dl, od (.tu f) (eM enc u)) hmem hys hmem1 ht X'' hX''
      refine k3 F6 σ3 H6 _ o6 sl3 fun F7 H7 yv2 e7 o7 c7 => ?_
      intro X3 hX3
      obtain ⟨z', ez, _, k4⟩ := hc x l y (some z) (Dl, od (.tu f) (eM enc u)) hmem hys hmem1 ht X3 hX3
      cases ez
      refine k4 F7 σ3 H7 _ o7 (sl3.mono e7) fun F8 H8 uu e8 o8 c8 => ?_
      obtain ⟨_, o, ho, _, kvs, rfl, dv⟩ := o8.atU uni_od
      have hlen : kvs.length = u.length := by rw [dv_len dv, List.length_map]
      obtain ⟨b', rfl, hb8⟩ := key_val (kd := .tu f) (c7.mono e8)
      have l1 := dput_ge u z.1 z.2
      have l2 : (dPut u z.1 z.2).length ≤ w'.length := dcS_ge hr5
      have l3 := dcS2_ge hr
      refine ⟨_, f z.1, b', rfl, o8.ex _ _ hb8, ho, by rw [List.length_map, hlen]; omega, ?_⟩
      have e9 : putK (kvs.map fun p => (f p.1, p.2)) (f z.1) uu = (dPut kvs z.1 uu).map fun p => (f p.1, p.2) := dPut_key hinj z.1 uu kvs
      rw [e9]
      refine ⟨dPut u z.1 z.2, F8, hr5, ((e15.trans e6).trans e7).trans e8, ((e45.trans e6).trans e7).trans e8, ?_⟩
      exact o8.putU (o := (Kd.tu f).ho (dPut kvs z.1 uu)) uni_od (od_one (kd := .tu f) (dput_enc dv c8.now))
end
section
variable {X : Cx} {es : List Slot} {os os0 os1 os2 : Os} {F0 : Hp} {rest : List Stmt} {D : Ends} {N V G W : List Str} {k i j q0 vi gi : Nat} {x0 y0 y : Str} {p0 p1 pos py spos : Pos} {α β κ γ : Type} {scope : Scope} {iter iter1 kx vx : Expr} {xs : List α} {vp : α → VP} {vp1 : α → γ → VP}
theorem sx_asgDc2 [DecidableEq κ] {f : κ → List Key} {enc : β → PyData} {ys : α → Option (List γ)} {m : α → γ → Option (Option (κ × β))} {wf : List (κ × β)} (B : Bd X N W G k) (hq : N[q0]? = some y) (hyl : X.env.scope.names.lookup y = some .local) (hx : N[i]? = some x0) (hy : N[j]? = some y0) (hinj : (Kd.tu f).Inj) (hij : i ≠ j) (hu1 : es[i]? = some un) (hu2 : es[j]? = some un)
    (hblk : blkC X.N X.env.scope scope [(x0, i), (y0, j)] = true) (ho1 : ownB scope X.env.scope x0 = true) (ho2 : ownB scope X.env.scope y0 = true)
    (hi : IX X (.Name x0 p0) es os iter xs vp anyOs os0) (hl : dcS2 ys m xs [] = some wf) (hz : wf.length < sizeLine)
    (hb : ∀ x l q, x ∈ xs → ys x = some l → ∀ X', Fam X scope X' → IX X' (.Name y0 p1) (es.set i (sl (vp x))) (q :: os0) iter1 l (vp1 x) anyOs (q :: os0))
    (hc : ∀ x l y t q, x ∈ xs → ys x = some l → y ∈ l → m x y = some t → ∀ X', Fam X scope X' → ∃ z, t = some z ∧ EX X' ((es.set i (sl (vp x))).set j (sl (vp1 x y))) (q :: os0) kx (dat ((Kd.tu f).ek z.1)) (q :: os0) ∧ EX X' ((es.set i (sl (vp x))).set j (sl (vp1 x y))) (q :: os0) vx (dat (enc z.2)) (q :: os0))
    (hsw : swapsWith (.DictComp kx vx [⟨.Name x0 p0, iter, [], 0⟩, ⟨.Name y0 p1, iter1, [], 0⟩] scope pos) (some (.Name y py)) spos.line X.env = pure true)
    (hn : ∀ p, SX X (es.set q0 (sl (Z.own p))) ((p, od (.tu f) (eM enc wf)) :: os0) F0 rest D) (hs : ∀ x, foldedSetIterable iter X.env x = pure x := by intro _; rfl) (hs1 : ∀ env x, foldedSetIterable iter1 env x = pure x := by intro _ _; rfl) :
    SX X es os F0 (.Assign [.Name y py] (.DictComp kx vx [⟨.Name x0 p0, iter, [], 0⟩, ⟨.Name y0 p1, iter1, [], 0⟩] scope pos) spos :: rest) D := fun F σ H s ow sl =>
  wps_cons (ws_of (ps_setDc2 (own := [(x0, i), (y0, j)]) (vs1 := [j]) B.u1 B.calm (B.hN ▸ B.nd) (B.hN ▸ hq) hyl hsw pi_u (blkOk_by hblk) (fun q hq => by
      rcases List.mem_cons.mp hq with rfl | hq
      · simp
      · cases hq) (fun s H C cl fp => pg_own ⟨s, H, C, cl, fp, rfl⟩ B hx ho1) (fun s H C cl fp => pts_u ⟨s, H, C, cl, fp, rfl⟩ []) (fun s H C cl fp => pe_elt ⟨s, H, C, cl, fp, rfl⟩) (fun s H C cl fp => pe_elt ⟨s, H, C, cl, fp, rfl⟩) hs
      (fun s H C cl fp => (⟨fun pins s' σ H' R I h => h _ ⟨s, H, C, cl, fp, rfl⟩ pins s' I⟩ : PI _ (.Name y0 p1) iter1 (fun σ H R => ∀ X', Fam X scope X' → WI X' (.Name y0 p1) iter1 σ H R)))
      (fun s H C cl fp => pg_own ⟨s, H, C, cl, fp, rfl⟩ B hy ho2) (fun s H C cl fp => pts_u ⟨s, H, C, cl, fp, rfl⟩ []) hs1)
    (dc_read2 (Q := fun v H1 => gName q0 v σ H1 (WPs X rest D)) hinj hij hu1 hu2 hi hl hz hb hc ow sl fun F1 H1 p e1 o1 => hn p F1 _ H1 (s.trans e1) o1 ((sl.mono e1).put cl_own)))
end
theorem ek_tI (w : List Int) : PyData.tuple (w.map PyData.int) = kTI.ek w := by
  show _ = PyData.tuple ((w.map Sum.inl).map kPD)
  rw [List.map_map]
  rfl
section
variable {X : Cx} {es : List Slot} {os os1 : Os} {β : Type} {enc : β → PyData} {w : List (List Int × β)} {tg e : Expr}
theorem ix_keysTI (he : EX X es os e (dat (kTI.pd (eM enc w))) os1) : IX X tg es os e (w.map (·.1)) (fun x => dat (PyData.tuple (x.map PyData.int))) anyOs os1 := by
  have h : (fun (x : List Int) => dat (PyData.tuple (x.map PyData.int))) = fun x => dat (kTI.ek x) := funext fun x => by rw [ek_tI]
  rw [h]
  exact ix_keysD he
end
end Z
namespace Z
open PySem PySem.Spec PyProof.Rows L2
section
variable {X : Cx} {os os1 : Os} {es : List Slot} {φ : VP}
def mergeT (acc kvs : List (List Key × L2.V)) : List (List Key × L2.V) := kvs.foldl (fun a p => putK a p.1 p.2) acc
theorem kt_all {H : Hp} : ∀ {kvs : List (List Key × L2.V)} {prs : List (List Key × Addr × Value)} {acc : List (List Key × L2.V)} {xs : List (List Key × Addr × Value)}, KT H kvs prs → KT H acc xs → KT H (mergeT acc kvs) (storedAllH xs prs)
  | _, _, _, _, .nil, h => h
  | _, _, _, _, .cons (a := p) (b := q) hq t, h => by
    obtain ⟨e, hb, hr⟩ := hq
    show KT H (mergeT (putK _ p.1 p.2) _) (storedAllH (storedH _ q.1 q.2.1 q.2.2) _)
    rw [← e]
    exact kt_all t (h.put p.1 hb hr)
/-- a pair as it lies there: a tuple of the key and what it holds -/
def PrT (K : PySem.W.Frag) (H : Hp) (p : Addr) (kv : List Key × L2.V) : Prop := ∃ b, SqT K H p [.ref b, kv.2] ∧ H b = some (.tup (kv.1.map kV))
theorem pairsT_of {pins : List (Addr × Obj)} {σ : L2.St} {H : Hp} {s : Shared} (I : Inv X pins σ H s) : ∀ {ps : List Addr} {kvs : List (List Key × L2.V)}, Paired (fun p kv => PrT X.K H p kv) ps kvs →
    ∃ prs : List (List Key × Addr × Value), KT H kvs prs ∧ prs.length = ps.length ∧ ∀ (j : Nat) (q : List Key × Addr × Value), prs[j]? = some q → ∃ t : Addr, ps[j]? = some t ∧ IsTup s.heap t #[.ref q.2.1, q.2.2]
  | _, _, .nil => ⟨[], .nil, rfl, fun j q e => by simp at e⟩
  | _, _, .cons (a := p) (b := kv) h t => by
    obtain ⟨prs, r, hl, hp⟩ := pairsT_of I t
    obtain ⟨b, hs, hb⟩ := h
    obtain ⟨its, rv, ht, _⟩ := I.tuple hs
    obtain ⟨u, y, ei, ru, ry⟩ := vals2 rv
    subst ei
    obtain rfl : u = Value.ref b := ru
    refine ⟨(kv.1, b, y) :: prs, .cons ⟨rfl, hb, ry⟩ r, by rw [List.length_cons, List.length_cons, hl], fun j q e => ?_⟩
    cases j with
    | zero =>
      have e' : (kv.1, b, y) = q := Option.some.inj e
      subst e'
      exact ⟨p, rfl, ht⟩
    | succ j =>
      obtain ⟨b', e1, e2⟩ := hp j q (by simpa using e)
      exact ⟨b', by simpa using e1, e2⟩
theorem kt_keys {P : Program} {w : World} {H : Hp} {h : Heap} (ok : HOk P w H h) : ∀ {l : List (List Key × L2.V)} {m : List (List Key × Addr × Value)}, KT H l m → ∀ x ∈ m, (tupleKind (mixKind P w)).is h x.1 x.2.1
  | _, _, .nil => fun x hx => nomatch hx
  | _, _, .cons hq t => fun x hx => by
    rcases List.mem_cons.mp hx with e | hx
    · subst e
      exact key_of ok (by rw [← hq.1]; exact hq.2.1)
    · exact kt_keys ok t x hx
theorem merge_le : ∀ (kvs acc : List (List Key × L2.V)), (mergeT acc kvs).length ≤ acc.length + kvs.length
  | [], acc => Nat.le_refl _
  | p :: kvs, acc => by
    have a := merge_le kvs (putK acc p.1 p.2)
    have b : (putK acc p.1 p.2).length ≤ acc.length + 1 := by
      unfold putK
      split
      · rw [List.length_map]; omega
      · rw [List.length_append]; simp
    show (mergeT (putK acc p.1 p.2) kvs).length ≤ _
    rw [List.length_cons]
    omega
def rDictT (K : PySem.W.Frag) : List L2.V → Hp → VK → Prop := fun xs H Q => ∃ (a : Addr) (ps : List Addr) (kvs : List (List Key × L2.V)), xs = [.ref a] ∧ SqL K H a (ps.map L2.V.ref) ∧ Paired (fun p kv => PrT K H p kv) ps kvs ∧
    ∀ p, H p = none → Q (.ref p) (upd H p (.dT (mergeT [] kvs)))
theorem call_dictT (hcalm : X.calm = true) (hu : X.A.units + 64 < cLine) : CallR X (.type "dict") (rDictT X.K) := by
  intro pins s σ H xs us Q I r q
  obtain ⟨a, ps, kvs, ex, hq, hp, q⟩ := q
  subst ex
  obtain ⟨u, eu, rx⟩ := vals1 r
  subst eu
  cases rx
  obtain ⟨its, rv, pl, hz⟩ := I.list hq
  have ei := refs_at rv
  subst ei
  rw [List.length_map] at hz
  obtain ⟨prs, rel, hl, hpr⟩ := pairsT_of I hp
  obtain ⟨o, n, ho, hc, hd, hdat⟩ := pl
  have P := PairArg.list (prog := X.prog) (w := X.w) a (ps.map Value.ref).toArray (fun j => ps.getD j 0) (prs.map fun x => (Value.ref x.2.1, x.2.2))
  have hit : PairItems s.heap (ps.map Value.ref).toArray (fun j => ps.getD j 0) (prs.map fun x => (Value.ref x.2.1, x.2.2)) := by
    refine ⟨by simp [hl], fun j k v hj => ?_⟩
    rw [List.getElem?_map] at hj
    cases e : prs[j]? with
    | none => rw [e] at hj; cases hj
    | some x =>
      rw [e] at hj
      cases hj
      obtain ⟨t, e1, e2⟩ := hpr j x e
      have e3 : ps.getD j 0 = t := by rw [List.getD_eq_getElem?_getD, e1]; rfl
      refine ⟨?_, ?_⟩
      · show (ps.map Value.ref).toArray[j]? = some (Value.ref (ps.getD j 0))
        rw [e3]
        simp [e1]
      · show PairAt s.heap (ps.getD j 0) _ _
        rw [e3]
        exact .inl e2
  refine call_dict_pairsH (knd := tupleKind (mixKind X.prog X.w)) (ps := prs) P (I.ok.hd hcalm) (by show X.A.units + 1 + 1 < cLine; omega) ⟨⟨o, n, ho, hc, hd, hdat⟩, hit⟩ ?_ ?_ ?_ fun h' tk hd' k => ?_
  · refine ⟨by rw [List.length_map], fun i key v hr => ?_⟩
    have hr : (prs.map fun x => (Value.ref x.2.1, x.2.2))[i]? = some (key, v) := hr
    rw [List.getElem?_map] at hr
    cases e : prs[i]? with
    | none => rw [e] at hr; cases hr
    | some x =>
      rw [e] at hr
      cases hr
      exact ⟨x.1, x.2.1, rfl, rfl⟩
  · intro h' hk x hx
    obtain ⟨o1, its1, n1, e1, e2, e3, e4⟩ := kt_keys I.hok rel x hx
    exact ⟨o1, its1, n1, hk _ _ (Nat.ne_of_lt (Heap.lt_size e1)) (fun z => nomatch z) e1, e2, e3, e4⟩
  · rw [List.length_map, hl]; exact hz
  · have hm : (s.heap.objs.size == sysModules) = false := beq_eq_false_iff_ne.mpr (Nat.ne_of_gt I.big)
    have hlen : (mergeT [] kvs).length ≤ sizeLine := by
      refine Nat.le_trans (merge_le kvs []) ?_
      rw [List.length_nil, Nat.zero_add]
      rw [rel.length, hl]
      exact hz
    obtain ⟨o', es', ep', g1, g2, g3, g4, g5, g6⟩ := hd'
    have hn : H s.heap.objs.size = none := I.hok.fresh (Nat.le_refl _)
    refine ⟨.ref s.heap.objs.size, upd H s.heap.objs.size (.dT (mergeT [] kvs)), I.laid (t' := tk) (fun b o e => k b o (fun z => nomatch z) e) (Nat.le_refl _) (show ObjOk X.prog X.w _ _ _ (.dT (mergeT [] kvs)) from ⟨hlen, hm, storedAllH [] prs, ?_, o', es', ep', g1, g2, g3, g4, g6⟩), rfl, q _ hn⟩
    refine KT.keeps (kt_all rel .nil) fun b ys hb => ?_
    have : b ≠ s.heap.objs.size := fun z => by
      rw [z, hn] at hb
      cases hb
    rw [upd_ne this]
    exact hb
/-- the mirror: the later of pairs with one key wins, the place is the first one's -/
def dOf {κ β : Type} [DecidableEq κ] (w : List (κ × β)) : List (κ × β) := w.foldl (fun d p => dPut d p.1 p.2) []
theorem dq_pairT {κ : Type} {f : κ → List Key} {k : κ} {e : PyData} {F : Hp} {v : L2.V} (h : Dq F v (.tuple [(Kd.tu f).ek k, e])) : ∃ p b y, v = .ref p ∧ F p = some (.tup [.ref b, y]) ∧ F b = some (.tup ((f k).map kV)) ∧ Dq F y e := by
  cases h with
  | tup a hs =>
    cases hs with
    | cons h1 t =>
      cases t with
      | cons h2 t =>
        cases t
        have h1 : Dq F _ (.tuple ((f k).map kPD)) := h1
        cases h1 with
        | tup a1 b1 => exact ⟨_, _, _, rfl, a, by rw [← dqall_keys b1]; exact a1, h2⟩
theorem dq_pairsT {κ β : Type} [DecidableEq κ] {f : κ → List Key} {enc : β → PyData} (hinj : (Kd.tu f).Inj) {K : PySem.W.Frag} {F H : Hp} (hs : Same F H) : ∀ {w acc : List (κ × β)} {vs : List L2.V} {kacc : List (κ × L2.V)}, DqAll F vs (w.map fun p => PyData.tuple [(Kd.tu f).ek p.1, enc p.2]) → DV F kacc (eM enc acc) →
    ∃ (ps : List Addr) (kvs : List (List Key × L2.V)) (kr : List (κ × L2.V)), vs = ps.map L2.V.ref ∧ Paired (fun p kv => PrT K H p kv) ps kvs ∧ mergeT (kacc.map fun p => (f p.1, p.2)) kvs = kr.map (fun p => (f p.1, p.2)) ∧ DV F kr (eM enc (w.foldl (fun d p => dPut d p.1 p.2) acc))
  | [], acc, vs, kacc, h, dv => by
    cases h
    exact ⟨[], [], kacc, rfl, .nil, rfl, dv⟩
  | (k, x) :: w, acc, vs, kacc, h, dv => by
    cases h with
    | cons h t =>
      obtain ⟨p, b, y, rfl, hp, hb, hy⟩ := dq_pairT (f := f) h
      obtain ⟨ps, kvs, kr, e1, e2, e3, e4⟩ := dq_pairsT hinj (K := K) hs t (dput_enc (k := k) dv hy)
      refine ⟨p :: ps, (f k, y) :: kvs, kr, by rw [e1]; rfl, .cons ⟨b, .inl (.of (hs _ _ hp)), hs _ _ hb⟩ e2, ?_, e4⟩
      show mergeT (putK (kacc.map fun p => (f p.1, p.2)) (f k) y) kvs = _
      have e9 : putK (kacc.map fun p => (f p.1, p.2)) (f k) y = (dPut kacc k y).map fun p => (f p.1, p.2) := dPut_key hinj k y kacc
      rw [e9]
      exact e3
theorem rc_dictT {κ β : Type} [DecidableEq κ] {f : κ → List Key} {enc : β → PyData} {w : List (κ × β)} {g : κ × β → PyData} (hinj : (Kd.tu f).Inj) (hr : RdL X φ os (w.map g)) (hg : ∀ x, g x = PyData.tuple [(Kd.tu f).ek x.1, enc x.2]) : RCN (rDictT X.K) [φ] os (od (.tu f) (eM enc (dOf w))) os := fun F H vs Q ow c q => by
  obtain ⟨v, rfl, h⟩ := cla1 c
  obtain ⟨a, us, rfl, h1, h2⟩ := hr F H v ow h
  have eg : w.map g = w.map fun p => PyData.tuple [(Kd.tu f).ek p.1, enc p.2] := List.map_congr_left fun x _ => hg x
  rw [eg] at h2
  obtain ⟨ps, kvs, kr, e1, e2, e3, e4⟩ := dq_pairsT hinj (K := X.K) (H := H) (fun _ _ z => ow.ex _ _ z) (acc := []) (kacc := []) h2 .nil
  refine ⟨a, ps, kvs, rfl, by rw [← e1]; exact h1, e2, fun m hm => ?_⟩
  rw [show mergeT [] kvs = kr.map (fun p => (f p.1, p.2)) from e3]
  exact q F _ m (Same.refl F) (ow.new hm (od_one (kd := .tu f) e4))
theorem Bd.u64 {N V G : List Str} {n : Nat} (B : Bd X N V G n) : X.A.units + 64 < cLine := B.room.units
end
section
variable {X : Cx} {es : List Slot} {os os0 os1 os2 : Os} {F0 : Hp} {rest : List Stmt} {D : Ends} {N V G W : List Str} {k i j vi gi : Nat} {x0 y0 : Str} {p0 p1 pos : Pos} {α β κ γ : Type} {scope : Scope} {iter iter1 kx vx : Expr} {xs : List α} {vp : α → VP} {vp1 : α → γ → VP}
theorem dc_read2c [DecidableEq κ] {c : Os → Prop} {f : κ → List Key} {enc : β → PyData} {ys : α → Option (List γ)} {m : α → γ → Option (Option (κ × β))} {wf : List (κ × β)} (hinj : (Kd.tu f).Inj) (hij : i ≠ j) (hu1 : es[i]? = some un) (hu2 : es[j]? = some un)
    (hi : IX X (.Name x0 p0) es os iter xs vp c os0) (hcc : ∀ q e, c ((q, e) :: os0)) (hl : dcS2 ys m xs [] = some wf) (hz : wf.length < sizeLine)
    (hb : ∀ x l q, x ∈ xs → ys x = some l → ∀ X', Fam X scope X' → IX X' (.Name y0 p1) (es.set i (sl (vp x))) (q :: os0) iter1 l (vp1 x) anyOs (q :: os0))
    (hc : ∀ x l y t q, x ∈ xs → ys x = some l → y ∈ l → m x y = some t → ∀ X', Fam X scope X' → ∃ z, t = some z ∧ EX X' ((es.set i (sl (vp x))).set j (sl (vp1 x y))) (q :: os0) kx (dat ((Kd.tu f).ek z.1)) (q :: os0) ∧ EX X' ((es.set i (sl (vp x))).set j (sl (vp1 x y))) (q :: os0) vx (dat (enc z.2)) (q :: os0))
    {F σ H Q} (ow : Ow F os H) (slo : Sl F es σ) (q : ∀ F' H' p, Same F F' → Ow F' ((p, od (.tu f) (eM enc wf)) :: os0) H' → Q (.ref p) H') :
    tDc2 (WI X (.Name x0 p0) iter) (gName i) (tIfs X scope []) (fun σ H R => ∀ X', Fam X scope X' → WI X' (.Name y0 p1) iter1 σ H R) (gName j) (tIfs X scope []) (tElt X scope kx) (tElt X scope vx) [i, j] [j] σ H Q := by
  refine hi F σ H _ ow slo fun F1 H1 J e1 o1 good Dl hD => ?_
  refine ⟨fun a n H => n = xs.length - a ∧ a ≤ xs.length ∧ ∃ w F, dcS2 ys m (xs.drop a) w = some wf ∧ Same F1 F ∧ Ow F ((Dl, od (.tu f) (eM enc w)) :: os0) H, ⟨_, rfl, Nat.zero_le _, [], F1, hl, Same.refl F1, o1.new hD (od_one (kd := .tu f) .nil)⟩, ?_⟩
  rintro a n H' ⟨rfl, ha, w, F', hr, e', o'⟩
  obtain ⟨stop, go⟩ := good F' H' _ a e' o' (hcc _ _)
  cases hx : xs[a]? with
  | none =>
    have ha2 : xs.length ≤ a := List.getElem?_eq_none_iff.mp hx
    rw [List.drop_eq_nil_of_le ha2] at hr
    cases hr
    exact .inl ⟨stop ha2, q F' H' Dl (e1.trans e') o'⟩
  | some x =>
    obtain ⟨hgo, hyl⟩ := go x hx
    have hlt : a < xs.length := (List.getElem?_eq_some_iff.mp hx).1
    have hmem := List.mem_of_getElem? hx
    rw [drop_cons' hx] at hr
    unfold dcS2 at hr
    obtain ⟨l, hys, hr⟩ := bnd hr
    obtain ⟨w', hm, hr⟩ := bnd hr
    refine .inr ⟨hgo, fun H => ∃ w F, dcS2 ys m (xs.drop (a + 1)) w = some wf ∧ Same F1 F ∧ Ow F ((Dl, od (.tu f) (eM enc w)) :: os0) H, fun H2 hH2 => ⟨_, by omega, rfl, by omega, hH2⟩, fun v H3 yv => ?_⟩
    obtain ⟨F3, e3, o3, c3⟩ := hyl v H3 yv
    have slw : Sl F3 es (wipe σ [i, j]) := sl_wipe (slo.mono ((e1.trans e').trans e3)) _ fun q hq => by
      rcases List.mem_cons.mp hq with rfl | hq
      · exact ⟨un, hu1, rfl⟩
      · rcases List.mem_cons.mp hq with rfl | hq
        · exact ⟨un, hu2, rfl⟩
        · cases hq
    have hw : wipe ((wipe σ [i, j]).set i (some v)) [i, j] = wipe σ [i, j] := by
      show ((((σ.set j none).set i none).set i (some v)).set j none).set i none = (σ.set j none).set i none
      rw [List.set_set, List.set_comm _ _ hij, List.set_set, List.set_set]
    refine ⟨hw, ?_⟩
    have sl2 : Sl F3 (es.set i (sl (vp x))) ((wipe σ [i, j]).set i (some v)) := slw.put c3
    generalize (wipe σ [i, j]).set i (some v) = σ2 at sl2 ⊢
    refine fun X' hX' => ?_
    refine hb x l (Dl, od (.tu f) (eM enc w)) hmem hys X' hX' F3 σ2 H3 _ o3 sl2 fun F4 H4 J1 e4 o4 good1 => ?_
    refine ⟨fun b n H => n = l.length - b ∧ b ≤ l.length ∧ ∃ u F, dcS (m x) (l.drop b) u = some w' ∧ Same F1 F ∧ Same F4 F ∧ Ow F ((Dl, od (.tu f) (eM enc u)) :: os0) H, ⟨_, rfl, Nat.zero_le _, w, F4, hm, (e'.trans e3).trans e4, Same.refl F4, o4⟩, ?_⟩
    rintro b n H5 ⟨rfl, hb', u, F5, hr5, e15, e45, o5⟩
    obtain ⟨stop1, go1⟩ := good1 F5 H5 _ b e45 o5 trivial
    cases hy : l[b]? with
    | none =>
      have hb2 : l.length ≤ b := List.getElem?_eq_none_iff.mp hy
      rw [List.drop_eq_nil_of_le hb2] at hr5
      cases hr5
      exact .inl ⟨stop1 hb2, _, F5, hr, e15, o5⟩
    | some y =>
      obtain ⟨hgo1, hyl1⟩ := go1 y hy
      have hlt1 : b < l.length := (List.getElem?_eq_some_iff.mp hy).1
      have hmem1 := List.mem_of_getElem? hy
      rw [drop_cons' hy] at hr5
      unfold dcS at hr5
      obtain ⟨t, ht, hr5⟩ := bnd hr5
      refine .inr ⟨hgo1, fun H => ∃ u F, dcS (m x) (l.drop (b + 1)) u = some w' ∧ Same F1 F ∧ Same F4 F ∧ Ow F ((Dl, od (.tu f) (eM enc u)) :: os0) H, fun H6 h6 => ⟨_, by omega, rfl, by omega, h6⟩, fun v1 H6 yv1 => ?_⟩
      obtain ⟨F6, e6, o6, c6⟩ := hyl1 v1 H6 yv1
      have e36 : Same F3 F6 := (e4.trans e45).trans e6
      have slw1 : Sl F6 (es.set i (sl (vp x))) (wipe σ2 [j]) := sl_wipe (sl2.mono e36) _ fun q hq => by
        rcases List.mem_cons.mp hq with rfl | hq
        · exact ⟨un, by rw [List.getElem?_set_ne hij]; exact hu2, rfl⟩
        · cases hq
      have hw1 : wipe ((wipe σ2 [j]).set j (some v1)) [j] = wipe σ2 [j] := by
        show (((σ2.set j none).set j (some v1)).set j none) = σ2.set j none
        rw [List.set_set, List.set_set]
      refine ⟨hw1, ?_⟩
      have sl3 : Sl F6 ((es.set i (sl (vp x))).set j (sl (vp1 x y))) ((wipe σ2 [j]).set j (some v1)) := slw1.put c6
      generalize (wipe σ2 [j]).set j (some v1) = σ3 at sl3 ⊢
      refine fun X'' hX'' => ?_
      obtain ⟨z, rfl, k3, _⟩ := hc x l y t (Dl, od (.tu f) (eM enc u)) hmem hys hmem1 ht X'' hX''
      refine k3 F6 σ3 H6 _ o6 sl3 fun F7 H7 yv2 e7 o7 c7 => ?_
      intro X3 hX3
      obtain ⟨z', ez, _, k4⟩ := hc x l y (some z) (Dl, od (.tu f) (eM enc u)) hmem hys hmem1 ht X3 hX3
      cases ez
      refine k4 F7 σ3 H7 _ o7 (sl3.mono e7) fun F8 H8 uu e8 o8 c8 => ?_
      obtain ⟨_, o, ho, _, kvs, rfl, dv⟩ := o8.atU uni_od
      have hlen : kvs.length = u.length := by rw [dv_len dv, List.length_map]
      obtain ⟨b', rfl, hb8⟩ := key_val (kd := .tu f) (c7.mono e8)
      have l1 := dput_ge u z.1 z.2
      have l2 : (dPut u z.1 z.2).length ≤ w'.length := dcS_ge hr5
      have l3 := dcS2_ge hr
      refine ⟨_, f z.1, b', rfl, o8.ex _ _ hb8, ho, by rw [List.length_map, hlen]; omega, ?_⟩
      have e9 : putK (kvs.map fun p => (f p.1, p.2)) (f z.1) uu = (dPut kvs z.1 uu).map fun p => (f p.1, p.2) := dPut_key hinj z.1 uu kvs
      rw [e9]
      refine ⟨dPut u z.1 z.2, F8, hr5, ((e15.trans e6).trans e7).trans e8, ((e45.trans e6).trans e7).trans e8, ?_⟩
      exact o8.putU (o := (Kd.tu f).ho (dPut kvs z.1 uu)) uni_od (od_one (kd := .tu f) (dput_enc dv c8.now))
end
section
variable {X : Cx} {es : List Slot} {os os0 os1 os2 : Os} {F0 : Hp} {rest : List Stmt} {D : Ends} {N V G W : List Str} {k i j q0 vi gi : Nat} {x0 y0 y : Str} {p0 p1 pos py spos : Pos} {α β κ γ : Type} {scope : Scope} {iter iter1 kx vx : Expr} {xs : List α} {vp : α → VP} {vp1 : α → γ → VP}
theorem sx_asgDc2c [DecidableEq κ] {c : Os → Prop} {f : κ → List Key} {enc : β → PyData} {ys : α → Option (List γ)} {m : α → γ → Option (Option (κ × β))} {wf : List (κ × β)} (B : Bd X N W G k) (hq : N[q0]? = some y) (hyl : X.env.scope.names.lookup y = some .local) (hx : N[i]? = some x0) (hy : N[j]? = some y0) (hinj : (Kd.tu f).Inj) (hij : i ≠ j) (hu1 : es[i]? = some un) (hu2 : es[j]? = some un)
    (hblk : blkC X.N X.env.scope scope [(x0, i), (y0, j)] = true) (ho1 : ownB scope X.env.scope x0 = true) (ho2 : ownB scope X.env.scope y0 = true)
    (hi : IX X (.Name x0 p0) es os iter xs vp c os0) (hcc : ∀ q e, c ((q, e) :: os0)) (hl : dcS2 ys m xs [] = some wf) (hz : wf.length < sizeLine)
    (hb : ∀ x l q, x ∈ xs → ys x = some l → ∀ X', Fam X scope X' → IX X' (.Name y0 p1) (es.set i (sl (vp x))) (q :: os0) iter1 l (vp1 x) anyOs (q :: os0))
    (hc : ∀ x l y t q, x ∈ xs → ys x = some l → y ∈ l → m x y = some t → ∀ X', Fam X scope X' → ∃ z, t = some z ∧ EX X' ((es.set i (sl (vp x))).set j (sl (vp1 x y))) (q :: os0) kx (dat ((Kd.tu f).ek z.1)) (q :: os0) ∧ EX X' ((es.set i (sl (vp x))).set j (sl (vp1 x y))) (q :: os0) vx (dat (enc z.2)) (q :: os0))
    (hsw : swapsWith (.DictComp kx vx [⟨.Name x0 p0, iter, [], 0⟩, ⟨.Name y0 p1, iter1, [], 0⟩] scope pos) (some (.Name y py)) spos.line X.env = pure true)
    (hn : ∀ p, SX X (es.set q0 (sl (Z.own p))) ((p, od (.tu f) (eM enc wf)) :: os0) F0 rest D) (hs : ∀ x, foldedSetIterable iter X.env x = pure x := by intro _; rfl) (hs1 : ∀ env x, foldedSetIterable iter1 env x = pure x := by intro _ _; rfl) :
    SX X es os F0 (.Assign [.Name y py] (.DictComp kx vx [⟨.Name x0 p0, iter, [], 0⟩, ⟨.Name y0 p1, iter1, [], 0⟩] scope pos) spos :: rest) D := fun F σ H s ow sl =>
  wps_cons (ws_of (ps_setDc2 (own := [(x0, i), (y0, j)]) (vs1 := [j]) B.u1 B.calm (B.hN ▸ B.nd) (B.hN ▸ hq) hyl hsw pi_u (blkOk_by hblk) (fun q hq => by
      rcases List.mem_cons.mp hq with rfl | hq
      · simp
      · cases hq) (fun s H C cl fp => pg_own ⟨s, H, C, cl, fp, rfl⟩ B hx ho1) (fun s H C cl fp => pts_u ⟨s, H, C, cl, fp, rfl⟩ []) (fun s H C cl fp => pe_elt ⟨s, H, C, cl, fp, rfl⟩) (fun s H C cl fp => pe_elt ⟨s, H, C, cl, fp, rfl⟩) hs
      (fun s H C cl fp => (⟨fun pins s' σ H' R I h => h _ ⟨s, H, C, cl, fp, rfl⟩ pins s' I⟩ : PI _ (.Name y0 p1) iter1 (fun σ H R => ∀ X', Fam X scope X' → WI X' (.Name y0 p1) iter1 σ H R)))
      (fun s H C cl fp => pg_own ⟨s, H, C, cl, fp, rfl⟩ B hy ho2) (fun s H C cl fp => pts_u ⟨s, H, C, cl, fp, rfl⟩ []) hs1)
    (dc_read2c (Q := fun v H1 => gName q0 v σ H1 (WPs X rest D)) hinj hij hu1 hu2 hi hcc hl hz hb hc ow sl fun F1 H1 p e1 o1 => hn p F1 _ H1 (s.trans e1) o1 ((sl.mono e1).put cl_own)))
end
section
variable {X : Cx} {os os1 : Os} {es : List Slot} {φ : VP}
/-- what is owned, wherever it stands -/
theorem rdl_mem {p : Addr} {ds : List PyData} (h : (p, ol ds) ∈ os) : RdL X (Z.own p) os ds := by
  obtain ⟨k, hk⟩ := List.getElem?_of_mem h
  exact rdl_own k hk
end
end Z
namespace L06
open PySem PySem.Spec L2 Z
/-- steps_of -/
def m_p_steps_of (letters : Int) : Option (List Int) :=
  ((rngO 1 (letters + 1)).bind fun t1 => ((lp (fun (s2 : (List Int)) (letter3 : Int) => ((catO (α := Int) s2 ([letter3, (-letter3)])).bind fun t7 => some t7)) t1 ([] : (List Int))).bind fun f4 => some f4))
/-- straightened -/
def m_p_straightened (walk : (List Int)) : Option (List Int) :=
  ((lp (fun (s1 : (List Int)) (step2 : Int) => ((if (decide (0 < (s1.length : Int))) = true then ((idx s1 (-1)).bind fun t6 => some (decide (t6 = (-step2)))) else some false).bind fun t7 => ((if t7 = true then ((popO s1).bind fun t8 => some t8.2) else ((appO s1 step2).bind fun t9 => some t9) : Option (List Int)).bind fun s10 => some s10))) walk ([] : (List Int))).bind fun f3 => some f3)
/-- is_integer -/
def m_p_is_integer (value : Int) : Option Bool :=
  some (true && true)
/-- is_letters -/
def m_p_is_letters (value : Int) : Option Bool :=
  ((m_p_is_integer value).bind fun t1 => some (t1 && (decide (1 ≤ value) && decide (value ≤ 4))))
/-- is_step -/
def m_p_is_step (value : Int) (letters : Int) : Option Bool :=
  ((m_p_is_integer value).bind fun t1 => some (t1 && (decide (1 ≤ (absI value)) && decide ((absI value) ≤ letters))))
/-- is_a_walk -/
def m_p_is_a_walk (value : (List Int)) (letters : Int) : Option Bool :=
  ((if true = true then ((lcO (β := Bool) (fun (step1 : Int) => ((m_p_is_step step1 letters).bind fun t3 => some t3)) value).bind fun t4 => some (t4.all id)) else some false).bind fun t5 => some t5)
/-- need_letters -/
def m_p_need_letters (letters : Int) : Option Unit :=
  ((m_p_is_letters letters).bind fun t1 => (if (!t1) = true then none else some ()))
/-- need_number -/
def m_p_need_number (number : Int) (low : Int) (high : Unit) : Option Unit :=
  (if ((decide (number < low)) || false) = true then none else some ())
/-- steps_behind -/
def m_p_steps_behind (letters : Int) (walk : (List Int)) : Option (List Int) :=
  ((m_p_steps_of letters).bind fun t1 => (lcF (fun (step2 : Int) => (!decide ((cut walk (some (-1)) none) = [(-step2)]))) (fun (step2 : Int) => step2) t1).bind fun t4 => some t4)
/-- between -/
def m_p_between (letters : Int) (first : Int) (last : Int) (length : Int) : Option Int :=
  ((m_p_need_letters letters).bind fun t1 => ((lp (fun (s2 : Unit) (step3 : Int) => ((m_p_is_step step3 letters).bind fun t7 => (if (!t7) = true then none else some ()))) ([(first, last).1, (first, last).2]) ()).bind fun f4 => ((m_p_need_number length 1 ()).bind fun t9 => ((m_p_steps_of letters).bind fun t10 => (lenO t10).bind fun z12 => (dcS (fun (step11 : Int) => (some (some (step11, (if (decide (step11 = first)) = true then 1 else 0))) : Option (Option (Int × Int)))) t10 []).bind fun t14 => ((rngO 0 (length - 1)).bind fun t15 => ((lp (fun (s16 : (List (Int × Int))) (turn17 : Int) => ((m_p_steps_of letters).bind fun t21 => (lenO t21).bind fun z24 => (dcS (fun (step22 : Int) => (((dGet s16 (-step22)).bind fun t23 => some (some (step22, ((List.map Prod.snd s16).sum - t23)))) : Option (Option (Int × Int)))) t21 []).bind fun t26 => some t26)) t15 t14).bind fun f18 => ((dGet f18 last).bind fun t28 => some t28)))))))
/-- need_told -/
def m_p_need_told (letters : Int) (told : (List (List Int))) : Option Unit :=
  ((lp (fun (s1 : Unit) (walk2 : (List Int)) => ((m_p_is_a_walk walk2 letters).bind fun t6 => (if (!t6) = true then some true else ((if (!(decide (1 ≤ (walk2.length : Int)) && decide ((walk2.length : Int) ≤ 5))) = true then some true else ((m_p_straightened walk2).bind fun t7 => some (!decide (t7 = walk2)))).bind fun t8 => some t8)).bind fun t9 => (if t9 = true then none else some ()))) told ()).bind fun f3 => some ())
/-- need_told -/
def m_p_need_toldO (letters : Int) (w_told : (List (List Int))) : Option (Unit × (List (List Int))) :=
  ((lp (fun (s1 : Unit) (walk2 : (List Int)) => ((m_p_is_a_walk walk2 letters).bind fun t6 => (if (!t6) = true then some true else ((if (!(decide (1 ≤ (walk2.length : Int)) && decide ((walk2.length : Int) ≤ 5))) = true then some true else ((m_p_straightened walk2).bind fun t7 => some (!decide (t7 = walk2)))).bind fun t8 => some t8)).bind fun t9 => (if t9 = true then none else some ()))) w_told ()).bind fun f3 => some ((), w_told))
/-- end_kept -/
def m_p_end_kept (walk : (List Int)) (begins : (List ((List Int) × Bool))) : Option (List Int) :=
  ((rngO 0 (walk.length : Int)).bind fun t1 => ((lpR (fun (s2 : Unit) (at_3 : Int) => ((if (dGet begins (cut walk (some at_3) none)).isSome = true then some (Step.ret (cut walk (some at_3) none)) else some (Step.go ())) : Option (Step (List Int) Unit))) t1 ()).bind fun f4o => Sum.elim (fun r8 => some r8) (fun f4 => some (cut walk (some (-1)) none)) f4o))
/-- machine -/
def m_p_machine (letters : Int) (told : (List (List Int))) : Option (List ((List Int) × (List (Int × (List Int))))) :=
  ((dcS2 (fun (walk1 : (List Int)) => (((rngO 1 (walk1.length : Int)).bind fun t3 => some t3) : Option (List Int))) (fun (walk1 : (List Int)) (size2 : Int) => (some (some ((cut walk1 none (some size2)), true)) : Option (Option ((List Int) × Bool)))) told []).bind fun t4 => (lenO t4).bind fun t5 => ((wh (fun (s9 : (Int × (List (List Int)) × (List ((List Int) × (List (Int × (List Int))))))) => some (decide (s9.1 < (s9.2.1.length : Int)))) (fun (s9 : (Int × (List (List Int)) × (List ((List Int) × (List (Int × (List Int))))))) => (((idx s9.2.1 s9.1).bind fun t13 => ((m_p_steps_behind letters t13).bind fun t15 => ((lp (fun (s16 : (List (Int × (List Int)))) (step17 : Int) => ((catO (α := Int) t13 ([step17])).bind fun t21 => ((lcT (fun (walk22 : (List Int)) => (decide ((cut t21 (some (-(walk22.length : Int))) none) = walk22))) told).bind fun t24 => ((if (!(t24.any id)) = true then ((m_p_end_kept t21 t4).bind fun t25 => (appO s16 (step17, t25)).bind fun t26 => some t26) else some s16 : Option (List (Int × (List Int)))).bind fun s27 => some s27)))) t15 ([] : (List (Int × (List Int))))).bind fun f18 => ((dPutO s9.2.2 t13 f18).bind fun t29 => ((lp (fun (s30 : (List (List Int))) (x31 : (Int × (List Int))) => ((if ((!(dGet t29 x31.2).isSome) && (!hasD s30 x31.2)) = true then ((appO s30 x31.2).bind fun t35 => some t35) else some s30 : Option (List (List Int))).bind fun s36 => some s36)) f18 s9.2.1).bind fun f32 => some (Step.go ((s9.1 + 1), f32, t29))))))) : Option (Step (List ((List Int) × (List (Int × (List Int))))) (Int × (List (List Int)) × (List ((List Int) × (List (Int × (List Int))))))))) 1000 (0, [([] : (List Int))], ([] : (List ((List Int) × (List (Int × (List Int)))))))).bind fun f10o => Sum.elim (fun r40 => none) (fun f10 => some f10.2.2) f10o))
/-- machine -/
def m_p_machineO (letters : Int) (w_told : (List (List Int))) : Option ((List ((List Int) × (List (Int × (List Int))))) × (List (List Int))) :=
  ((dcS2 (fun (walk1 : (List Int)) => (((rngO 1 (walk1.length : Int)).bind fun t3 => some t3) : Option (List Int))) (fun (walk1 : (List Int)) (size2 : Int) => (some (some ((cut walk1 none (some size2)), true)) : Option (Option ((List Int) × Bool)))) w_told []).bind fun t4 => (lenO t4).bind fun t5 => ((wh (fun (s9 : (Int × (List (List Int)) × (List ((List Int) × (List (Int × (List Int))))))) => some (decide (s9.1 < (s9.2.1.length : Int)))) (fun (s9 : (Int × (List (List Int)) × (List ((List Int) × (List (Int × (List Int))))))) => (((idx s9.2.1 s9.1).bind fun t13 => ((m_p_steps_behind letters t13).bind fun t15 => ((lp (fun (s16 : (List (Int × (List Int)))) (step17 : Int) => ((catO (α := Int) t13 ([step17])).bind fun t21 => ((lcT (fun (walk22 : (List Int)) => (decide ((cut t21 (some (-(walk22.length : Int))) none) = walk22))) w_told).bind fun t24 => ((if (!(t24.any id)) = true then ((m_p_end_kept t21 t4).bind fun t25 => (appO s16 (step17, t25)).bind fun t26 => some t26) else some s16 : Option (List (Int × (List Int)))).bind fun s27 => some s27)))) t15 ([] : (List (Int × (List Int))))).bind fun f18 => ((dPutO s9.2.2 t13 f18).bind fun t29 => ((lp (fun (s30 : (List (List Int))) (x31 : (Int × (List Int))) => ((if ((!(dGet t29 x31.2).isSome) && (!hasD s30 x31.2)) = true then ((appO s30 x31.2).bind fun t35 => some t35) else some s30 : Option (List (List Int))).bind fun s36 => some s36)) f18 s9.2.1).bind fun f32 => some (Step.go ((s9.1 + 1), f32, t29))))))) : Option (Step ((List ((List Int) × (List (Int × (List Int))))) × (List (List Int))) (Int × (List (List Int)) × (List ((List Int) × (List (Int × (List Int))))))))) 1000 (0, [([] : (List Int))], ([] : (List ((List Int) × (List (Int × (List Int)))))))).bind fun f10o => Sum.elim (fun r40 => none) (fun f10 => some (f10.2.2, w_told)) f10o))
/-- counts_by_length -/
def m_p_counts_by_length (table : (List ((List Int) × (List (Int × (List Int)))))) (length : Int) : Option (List (List ((List Int) × Int))) :=
  ((lenO (List.map Prod.fst table)).bind fun z2 => (dcS (fun (here1 : (List Int)) => (some (some (here1, 1)) : Option (Option ((List Int) × Int)))) (List.map Prod.fst table) []).bind fun t4 => ((rngO 0 length).bind fun t5 => ((lp (fun (s6 : (List (List ((List Int) × Int)))) (turn7 : Int) => ((lenO (List.map Prod.fst table)).bind fun z18 => (dcS (fun (here11 : (List Int)) => (((dGet table here11).bind fun t12 => (lcO (β := Int) (fun (x13 : (Int × (List Int))) => ((idx s6 (-1)).bind fun t15 => (dGet t15 x13.2).bind fun t16 => some t16)) t12).bind fun t17 => some (some (here11, t17.sum))) : Option (Option ((List Int) × Int)))) (List.map Prod.fst table) []).bind fun t20 => (appO s6 t20).bind fun t21 => some t21)) t5 ([t4])).bind fun f8 => some f8)))
/-- how_many_without -/
def m_p_how_many_without (letters : Int) (told : (List (List Int))) (length : Int) : Option Int :=
  ((m_p_need_letters letters).bind fun t1 => ((m_p_need_told letters told).bind fun t2 => ((m_p_need_number length 0 ()).bind fun t3 => ((m_p_machine letters told).bind fun t4 => (m_p_counts_by_length t4 length).bind fun t5 => (idx t5 length).bind fun t6 => (dGet t6 ([] : (List Int))).bind fun t7 => some t7))))
/-- how_many_without -/
def m_p_how_many_withoutO (letters : Int) (w_told : (List (List Int))) (length : Int) : Option (Int × (List (List Int))) :=
  ((m_p_need_letters letters).bind fun t1 => ((m_p_need_toldO letters w_told).bind fun t2 => ((m_p_need_number length 0 ()).bind fun t3 => ((m_p_machineO letters t2.2).bind fun t4 => (m_p_counts_by_length t4.1 length).bind fun t5 => (idx t5 length).bind fun t6 => (dGet t6 ([] : (List Int))).bind fun t7 => some (t7, t4.2)))))
/-- first_without -/
def m_p_first_without (letters : Int) (told : (List (List Int))) (length : Int) : Option (Option (List Int)) :=
  ((m_p_need_letters letters).bind fun t1 => ((m_p_need_told letters told).bind fun t2 => ((m_p_need_number length 0 ()).bind fun t3 => ((m_p_machine letters told).bind fun t4 => ((m_p_counts_by_length t4 length).bind fun t5 => ((idx t5 length).bind fun t6 => (dGet t6 ([] : (List Int))).bind fun t7 => (if (decide (t7 = 0)) = true then some none else ((rngDO (length - 1) (-1)).bind fun t8 => ((lp (fun (s9 : ((List Int) × (List Int))) (left10 : Int) => ((dGet t4 s9.1).bind fun t14 => (lcG (β := (Int × (List Int))) (fun (x15 : (Int × (List Int))) => ((idx t5 left10).bind fun t17 => (dGet t17 x15.2).bind fun t18 => if (decide (0 < t18)) = true then some (some (x15.1, x15.2)) else some none)) t14).bind fun t19 => (idx t19 0).bind fun t20 => ((catO (α := Int) s9.2 ([t20.1])).bind fun t21 => some (t20.2, t21)))) t8 (([] : (List Int)), ([] : (List Int)))).bind fun f11 => some (some f11.2))))))))))
/-- first_without -/
def m_p_first_withoutO (letters : Int) (w_told : (List (List Int))) (length : Int) : Option ((Option (List Int)) × (List (List Int))) :=
  ((m_p_need_letters letters).bind fun t1 => ((m_p_need_toldO letters w_told).bind fun t2 => ((m_p_need_number length 0 ()).bind fun t3 => ((m_p_machineO letters t2.2).bind fun t4 => ((m_p_counts_by_length t4.1 length).bind fun t5 => ((idx t5 length).bind fun t6 => (dGet t6 ([] : (List Int))).bind fun t7 => (if (decide (t7 = 0)) = true then some (none, t4.2) else ((rngDO (length - 1) (-1)).bind fun t8 => ((lp (fun (s9 : ((List Int) × (List Int))) (left10 : Int) => ((dGet t4.1 s9.1).bind fun t14 => (lcG (β := (Int × (List Int))) (fun (x15 : (Int × (List Int))) => ((idx t5 left10).bind fun t17 => (dGet t17 x15.2).bind fun t18 => if (decide (0 < t18)) = true then some (some (x15.1, x15.2)) else some none)) t14).bind fun t19 => (idx t19 0).bind fun t20 => ((catO (α := Int) s9.2 ([t20.1])).bind fun t21 => some (t20.2, t21)))) t8 (([] : (List Int)), ([] : (List Int)))).bind fun f11 => some ((some f11.2), t4.2))))))))))
/-- _law_well -/
def m_l_well (script : (List Int)) (k_ : Int) : Option (List Int) :=
  ((if (decide (k_ < (script.length : Int))) = true then ((idx script k_).bind fun t1 => some t1) else some ((11 * k_) + 6) : Option Int).bind fun s2 => ((lcT (fun (one3 : Int) => (one3 % 1000000000000000000000000103)) script).bind fun t5 => ((some ((((((absI s2) * 8929) + (61 * t5.sum)) + (2 * k_)) + (if (decide (s2 < 0)) = true then 1 else 0)) % 10000000000000000000000000000033)).bind fun seed6 => some [(maxI 0 (s2 - 1000000000000000000)), seed6, 0])))
/-- _law_take -/
def m_l_take (w_well_here : (List Int)) (many : Int) : Option (Int × (List Int)) :=
  ((idx w_well_here 0).bind fun t1 => (if (decide (0 < t1)) = true then ((idx w_well_here 0).bind fun t2 => (modO t2 many).bind fun t3 => ((idx w_well_here 0).bind fun t4 => (fdivO t4 many).bind fun t5 => (setO w_well_here 0 t5).bind fun t6 => some (t3, t6))) else ((idx w_well_here 2).bind fun t7 => (setO w_well_here 2 (t7 + 1)).bind fun t8 => ((idx t8 1).bind fun t9 => (idx t8 2).bind fun t10 => (powO (t9 + (314159 * t10)) 3).bind fun t11 => (idx t8 2).bind fun t12 => (some ((t11 + (2718281 * t12)) % 1000000000000000000000000000000073)).bind fun mixed13 => ((mulO mixed13 (mixed13 + 40503)).bind fun t15 => (modO ((t15 % 10000000000000000000000000000000193) / 10007) many).bind fun t16 => some (t16, t8))))))
/-- _law_steps -/
def m_l_steps (letters : Int) : Option (List Int) :=
  ((rngO 1 (letters + 1)).bind fun t1 => ((lp (fun (s2 : (List Int)) (letter3 : Int) => ((catO (α := Int) s2 ([letter3, (-letter3)])).bind fun t7 => some t7)) t1 ([] : (List Int))).bind fun f4 => some f4))
/-- _law_is -/
def m_l_is (found : (List Int)) (due : (List Int)) : Option Bool :=
  (if (false || (!decide (found = due))) = true then some false else ((lcT (fun (step1 : Int) => (true && true)) found).bind fun t3 => some (t3.all id)))
/-- _law_is -/
def m_l_isN (found : Unit) (due : (List Int)) : Option Bool :=
  (some false)
/-- _law_line -/
def m_l_line (w_well_here : (List Int)) (letters : Int) (size : Int) : Option ((List Int) × (List Int)) :=
  ((rngO 0 size).bind fun t1 => ((lp (fun (s2 : ((List Int) × (List Int))) (turn3 : Int) => ((m_l_steps letters).bind fun t7 => (lcF (fun (step8 : Int) => (!decide ((cut s2.1 (some (-1)) none) = [(-step8)]))) (fun (step8 : Int) => step8) t7).bind fun t10 => ((m_l_take s2.2 (t10.length : Int)).bind fun t11 => (idx t10 t11.1).bind fun t12 => (catO (α := Int) s2.1 ([t12])).bind fun t13 => some (t13, t11.2)))) t1 (([] : (List Int)), w_well_here)).bind fun f4 => some (f4.1, f4.2)))
/-- _law_told -/
def m_l_told (w_well_here : (List Int)) (letters : Int) : Option ((List (List Int)) × (List Int)) :=
  ((m_l_steps letters).bind fun t1 => (m_l_take w_well_here 4).bind fun t2 => (if (decide (t2.1 = 1)) = true then ((m_l_take t2.2 (t1.length : Int)).bind fun t4 => ((catO (α := Int) (cut t1 none (some t4.1)) (cut t1 (some (t4.1 + 1)) none)).bind fun t5 => (lcT (fun (step6 : Int) => [step6]) t5).bind fun t8 => (if (decide (t2.1 = 2)) = true then ((m_l_take t4.2 (t1.length : Int)).bind fun t9 => (idx t1 t9.1).bind fun t10 => ((lcF (fun (step11 : Int) => (!decide (step11 = (-t10)))) (fun (step11 : Int) => [t10, step11]) t1).bind fun t13 => ((m_l_take t9.2 (9 - ((cut t13 none (some 8)).length : Int))).bind fun t14 => (rngO 0 t14.1).bind fun t15 => ((lp (fun (s16 : ((List Int) × (List (List Int)))) (turn17 : Int) => ((if (!decide (s16.2 = ([] : (List (List Int))))) = true then ((m_l_take s16.1 4).bind fun t21 => some ((decide (t21.1 = 0)), t21.2)) else some (false, s16.1)).bind fun t22 => (if t22.1 = true then ((m_l_take t22.2 (s16.2.length : Int)).bind fun t23 => (idx s16.2 t23.1).bind fun t24 => ((m_l_take t23.2 (t24.length : Int)).bind fun t25 => (appO s16.2 (cut t24 none (some (1 + t25.1)))).bind fun t26 => some (t25.2, t26))) else ((m_l_take t22.2 5).bind fun t27 => (m_l_line t27.2 letters (1 + t27.1)).bind fun t28 => (appO s16.2 t28.1).bind fun t29 => some (t28.2, t29))))) t15 (t14.2, (cut t13 none (some 8)))).bind fun f18 => ((m_l_take f18.1 ((f18.2.length : Int) + 1)).bind fun t31 => ((catO (α := (List Int)) (cut f18.2 (some t31.1) none) (cut f18.2 none (some t31.1))).bind fun t32 => some (t32, t31.2))))))) else ((m_l_take t4.2 (9 - (t8.length : Int))).bind fun t34 => (rngO 0 t34.1).bind fun t35 => ((lp (fun (s36 : ((List Int) × (List (List Int)))) (turn37 : Int) => ((if (!decide (s36.2 = ([] : (List (List Int))))) = true then ((m_l_take s36.1 4).bind fun t41 => some ((decide (t41.1 = 0)), t41.2)) else some (false, s36.1)).bind fun t42 => (if t42.1 = true then ((m_l_take t42.2 (s36.2.length : Int)).bind fun t43 => (idx s36.2 t43.1).bind fun t44 => ((m_l_take t43.2 (t44.length : Int)).bind fun t45 => (appO s36.2 (cut t44 none (some (1 + t45.1)))).bind fun t46 => some (t45.2, t46))) else ((m_l_take t42.2 5).bind fun t47 => (m_l_line t47.2 letters (1 + t47.1)).bind fun t48 => (appO s36.2 t48.1).bind fun t49 => some (t48.2, t49))))) t35 (t34.2, t8)).bind fun f38 => ((m_l_take f38.1 ((f38.2.length : Int) + 1)).bind fun t51 => ((catO (α := (List Int)) (cut f38.2 (some t51.1) none) (cut f38.2 none (some t51.1))).bind fun t52 => some (t52, t51.2)))))))) else (if (decide (t2.1 = 2)) = true then ((m_l_take t2.2 (t1.length : Int)).bind fun t54 => (idx t1 t54.1).bind fun t55 => ((lcF (fun (step56 : Int) => (!decide (step56 = (-t55)))) (fun (step56 : Int) => [t55, step56]) t1).bind fun t58 => ((m_l_take t54.2 (9 - ((cut t58 none (some 8)).length : Int))).bind fun t59 => (rngO 0 t59.1).bind fun t60 => ((lp (fun (s61 : ((List Int) × (List (List Int)))) (turn62 : Int) => ((if (!decide (s61.2 = ([] : (List (List Int))))) = true then ((m_l_take s61.1 4).bind fun t66 => some ((decide (t66.1 = 0)), t66.2)) else some (false, s61.1)).bind fun t67 => (if t67.1 = true then ((m_l_take t67.2 (s61.2.length : Int)).bind fun t68 => (idx s61.2 t68.1).bind fun t69 => ((m_l_take t68.2 (t69.length : Int)).bind fun t70 => (appO s61.2 (cut t69 none (some (1 + t70.1)))).bind fun t71 => some (t70.2, t71))) else ((m_l_take t67.2 5).bind fun t72 => (m_l_line t72.2 letters (1 + t72.1)).bind fun t73 => (appO s61.2 t73.1).bind fun t74 => some (t73.2, t74))))) t60 (t59.2, (cut t58 none (some 8)))).bind fun f63 => ((m_l_take f63.1 ((f63.2.length : Int) + 1)).bind fun t76 => ((catO (α := (List Int)) (cut f63.2 (some t76.1) none) (cut f63.2 none (some t76.1))).bind fun t77 => some (t77, t76.2))))))) else ((m_l_take t2.2 (9 - (([] : (List (List Int))).length : Int))).bind fun t79 => (rngO 0 t79.1).bind fun t80 => ((lp (fun (s81 : ((List Int) × (List (List Int)))) (turn82 : Int) => ((if (!decide (s81.2 = ([] : (List (List Int))))) = true then ((m_l_take s81.1 4).bind fun t86 => some ((decide (t86.1 = 0)), t86.2)) else some (false, s81.1)).bind fun t87 => (if t87.1 = true then ((m_l_take t87.2 (s81.2.length : Int)).bind fun t88 => (idx s81.2 t88.1).bind fun t89 => ((m_l_take t88.2 (t89.length : Int)).bind fun t90 => (appO s81.2 (cut t89 none (some (1 + t90.1)))).bind fun t91 => some (t90.2, t91))) else ((m_l_take t87.2 5).bind fun t92 => (m_l_line t92.2 letters (1 + t92.1)).bind fun t93 => (appO s81.2 t93.1).bind fun t94 => some (t93.2, t94))))) t80 (t79.2, ([] : (List (List Int))))).bind fun f83 => ((m_l_take f83.1 ((f83.2.length : Int) + 1)).bind fun t96 => ((catO (α := (List Int)) (cut f83.2 (some t96.1) none) (cut f83.2 none (some t96.1))).bind fun t97 => some (t97, t96.2))))))))
/-- _law_free -/
def m_l_free (told_here : (List (List Int))) (walk : (List Int)) : Option Bool :=
  ((lcF (fun (other1 : (List Int)) => (decide ((cut walk (some (-(other1.length : Int))) none) = other1))) (fun (other1 : (List Int)) => other1) told_here).bind fun t3 => some (decide (t3 = ([] : (List (List Int))))))
/-- _law_all -/
def m_l_all (letters : Int) (told_here : (List (List Int))) (length : Int) : Option (List (List Int)) :=
  ((rngO 0 length).bind fun t1 => ((lp (fun (s2 : (List (List Int))) (turn3 : Int) => ((lp (fun (s7 : (List (List Int))) (walk8 : (List Int)) => ((m_l_steps letters).bind fun t12 => ((lp (fun (s13 : (List (List Int))) (step14 : Int) => ((if (!decide ((cut walk8 (some (-1)) none) = [(-step14)])) = true then ((catO (α := Int) walk8 ([step14])).bind fun t18 => (m_l_free told_here t18).bind fun t19 => some t19) else some false).bind fun t20 => ((if t20 = true then ((catO (α := Int) walk8 ([step14])).bind fun t21 => (appO s13 t21).bind fun t22 => some t22) else some s13 : Option (List (List Int))).bind fun s23 => some s23))) t12 s7).bind fun f15 => some f15))) s2 ([] : (List (List Int)))).bind fun f9 => some f9)) t1 ([([] : (List Int))])).bind fun f4 => some f4))
/-- _law_end -/
def m_l_end (told_here : (List (List Int))) (walk : (List Int)) : Option (List Int) :=
  ((rngO 0 ((walk.length : Int) - 1)).bind fun t1 => ((lpR (fun (s2 : Unit) (at_3 : Int) => (((lcF (fun (other7 : (List Int)) => ((decide (((walk.length : Int) - at_3) < (other7.length : Int))) && (decide ((cut other7 none (some ((walk.length : Int) - at_3))) = (cut walk (some at_3) none))))) (fun (other7 : (List Int)) => other7) told_here).bind fun t9 => (if (!decide (t9 = ([] : (List (List Int))))) = true then some (Step.ret (cut walk (some at_3) none)) else some (Step.go ()))) : Option (Step (List Int) Unit))) t1 ()).bind fun f4o => Sum.elim (fun r11 => some r11) (fun f4 => some (cut walk (some (-1)) none)) f4o))
/-- _law_ways -/
def m_l_ways (letters : Int) (told_here : (List (List Int))) : Option (List ((List Int) × (List (Int × (List Int))))) :=
  ((rngO 0 60).bind fun t3 => ((lpR (fun (s4 : ((List (List Int)) × (List ((List Int) × (List (Int × (List Int))))))) (at_5 : Int) => ((if (decide ((s4.1.length : Int) ≤ at_5)) = true then some (Step.brk (s4.1, s4.2)) else ((idx s4.1 at_5).bind fun t9 => ((m_l_steps letters).bind fun t11 => ((lp (fun (s12 : (List (Int × (List Int)))) (step13 : Int) => ((if (!decide ((cut t9 (some (-1)) none) = [(-step13)])) = true then ((catO (α := Int) t9 ([step13])).bind fun t17 => (m_l_free told_here t17).bind fun t18 => some t18) else some false).bind fun t19 => ((if t19 = true then ((catO (α := Int) t9 ([step13])).bind fun t20 => (m_l_end told_here t20).bind fun t21 => (appO s12 (step13, t21)).bind fun t22 => some t22) else some s12 : Option (List (Int × (List Int)))).bind fun s23 => some s23))) t11 ([] : (List (Int × (List Int))))).bind fun f14 => ((dPutO s4.2 t9 f14).bind fun t25 => ((lp (fun (s26 : ((List (List Int)) × (List ((List Int) × (List (Int × (List Int))))))) (x27 : (Int × (List Int))) => ((if (!(dGet s26.2 x27.2).isSome) = true then ((dPutO s26.2 x27.2 ([] : (List (Int × (List Int))))).bind fun t31 => ((appO s26.1 x27.2).bind fun t32 => some (t32, t31))) else some (s26.1, s26.2) : Option ((List (List Int)) × (List ((List Int) × (List (Int × (List Int))))))).bind fun s33 => some (s33.1, s33.2))) f14 (s4.1, t25)).bind fun f28 => some (Step.go (f28.1, f28.2)))))))) : Option (Step (List ((List Int) × (List (Int × (List Int))))) ((List (List Int)) × (List ((List Int) × (List (Int × (List Int))))))))) t3 ([([] : (List Int))], ([] : (List ((List Int) × (List (Int × (List Int)))))))).bind fun f6o => Sum.elim (fun r38 => none) (fun f6 => some f6.2) f6o))
/-- _law_counts -/
def m_l_counts (ways_here : (List ((List Int) × (List (Int × (List Int)))))) (length : Int) : Option (List (List ((List Int) × Int))) :=
  ((lcT (fun (last1 : (List Int)) => (last1, 1)) (List.map Prod.fst ways_here)).bind fun t3 => ((rngO 0 length).bind fun t4 => ((lp (fun (s5 : (List (List ((List Int) × Int)))) (turn6 : Int) => ((lcO (β := ((List Int) × Int)) (fun (last10 : (List Int)) => ((dGet ways_here last10).bind fun t12 => (lcO (β := Int) (fun (x13 : (Int × (List Int))) => ((idx s5 (-1)).bind fun t15 => (dGet t15 x13.2).bind fun t16 => some t16)) t12).bind fun t17 => some (last10, t17.sum))) (List.map Prod.fst ways_here)).bind fun t18 => (appO s5 (dOf t18)).bind fun t19 => some t19)) t4 ([(dOf t3)])).bind fun f7 => some f7)))
/-- _law_first -/
def m_l_first (ways_here : (List ((List Int) × (List (Int × (List Int)))))) (counts_here : (List (List ((List Int) × Int)))) : Option (Option (List Int)) :=
  ((idx counts_here (-1)).bind fun t1 => (dGet t1 ([] : (List Int))).bind fun t2 => (if (decide (t2 = 0)) = true then some none else ((rngDO ((counts_here.length : Int) - 2) (-1)).bind fun t3 => ((lp (fun (s4 : ((List Int) × (List Int))) (left5 : Int) => ((dGet ways_here s4.1).bind fun t9 => (lcG (β := (Int × (List Int))) (fun (way10 : (Int × (List Int))) => ((idx counts_here left5).bind fun t12 => (dGet t12 way10.2).bind fun t13 => if (decide (0 < t13)) = true then some (some way10) else some none)) t9).bind fun t14 => (idx t14 0).bind fun t15 => ((catO (α := Int) s4.2 ([t15.1])).bind fun t16 => some (t15.2, t16)))) t3 (([] : (List Int)), ([] : (List Int)))).bind fun f6 => some (some f6.2)))))
/-- _law_number -/
def m_l_number (found : Int) (due : Int) : Option Bool :=
  some (true && (true && (decide (found = due))))
/-- _law_without -/
def m_l_without (letters : Int) (told_here : (List (List Int))) (length : Int) (due : Int) (first_here : (Option (List Int))) : Option Bool :=
  (match first_here with | none => ((reprO (PyData.list (List.map (eT PyData.int) told_here))).bind fun t1 => ((m_p_how_many_withoutO letters told_here length).bind fun t3 => (m_l_number t3.1 due).bind fun t4 => (if (!t4) = true then some false else ((m_p_first_withoutO letters t3.2 length).bind fun t5 => (match t5.1 with | none => (if ((true && false) || false) = true then some false else ((reprO (PyData.list (List.map (eT PyData.int) t5.2))).bind fun t6 => (if (!decide (t6 = t1)) = true then some false else ((appO t5.2 ([1])).bind fun t7 => ((m_p_how_many_without letters told_here length).bind fun t8 => (m_l_number t8 due).bind fun t9 => (if (!t9) = true then some false else ((m_p_first_without letters told_here length).bind fun t10 => some (decide (t10 = (none : (Option (List Int)))))))))))) | some found11 => (if ((true && true) || false) = true then some false else ((reprO (PyData.list (List.map (eT PyData.int) t5.2))).bind fun t12 => (if (!decide (t12 = t1)) = true then some false else ((appO t5.2 ([1])).bind fun t13 => ((m_p_how_many_without letters told_here length).bind fun t14 => (m_l_number t14 due).bind fun t15 => (if (!t15) = true then some false else ((m_p_first_without letters told_here length).bind fun t16 => some (decide (t16 = (none : (Option (List Int))))))))))))))))) | some first_here17 => ((reprO (PyData.list (List.map (eT PyData.int) told_here))).bind fun t18 => ((m_p_how_many_withoutO letters told_here length).bind fun t20 => (m_l_number t20.1 due).bind fun t21 => (if (!t21) = true then some false else ((m_p_first_withoutO letters t20.2 length).bind fun t22 => (match t22.1 with | none => (if (false || (true && true)) = true then some false else ((reprO (PyData.list (List.map (eT PyData.int) t22.2))).bind fun t23 => (if (!decide (t23 = t18)) = true then some false else ((appO t22.2 ([1])).bind fun t24 => ((m_p_how_many_without letters told_here length).bind fun t25 => (m_l_number t25 due).bind fun t26 => (if (!t26) = true then some false else ((m_p_first_without letters told_here length).bind fun t27 => some (decide (t27 = (some first_here17)))))))))) | some found28 => ((if false = true then some true else ((if true = true then ((m_l_is found28 first_here17).bind fun t29 => some (!t29)) else some false).bind fun t30 => some t30)).bind fun t31 => (if t31 = true then some false else ((reprO (PyData.list (List.map (eT PyData.int) t22.2))).bind fun t32 => (if (!decide (t32 = t18)) = true then some false else ((appO t22.2 ([1])).bind fun t33 => ((m_p_how_many_without letters told_here length).bind fun t34 => (m_l_number t34 due).bind fun t35 => (if (!t35) = true then some false else ((m_p_first_without letters told_here length).bind fun t36 => some (decide (t36 = (some first_here17)))))))))))))))))
/-- _law_short -/
def m_l_short (letters : Int) (told_here : (List (List Int))) (length : Int) : Option Bool :=
  ((m_l_all letters told_here length).bind fun t1 => ((catO (α := (List Int)) t1 ([([] : (List Int))])).bind fun t2 => (idx t2 0).bind fun t3 => (idx ([none, (some t3)]) (if (!decide (t1 = ([] : (List (List Int))))) = true then 1 else 0)).bind fun t4 => (m_l_without letters told_here length (t1.length : Int) t4).bind fun t5 => some t5))
/-- _law_great -/
def m_l_great (w_well_here : (List Int)) (letters : Int) (told_here : (List (List Int))) : Option (Bool × (List Int)) :=
  ((m_l_ways letters told_here).bind fun t1 => (m_l_take w_well_here 101).bind fun t2 => (m_l_take t2.2 4).bind fun t3 => (idx ([t2.1, 100]) (if (decide (t3.1 = 0)) = true then 1 else 0)).bind fun t4 => ((m_l_counts t1 t4).bind fun t5 => ((idx t5 (-1)).bind fun t6 => (dGet t6 ([] : (List Int))).bind fun t7 => (m_l_first t1 t5).bind fun t8 => (m_l_without letters told_here t4 t7 t8).bind fun t9 => some (t9, t3.2))))
/-- _law_ends -/
def m_l_ends (letters : Int) (first_here : Int) (last : Int) (length : Int) : Option Int :=
  ((rngO 0 (length - 1)).bind fun t1 => ((lp (fun (s2 : (Int × Int × Int × Int)) (turn3 : Int) => ((mulO s2.2.2.2 ((2 * letters) - 1)).bind fun t7 => some ((s2.2.2.2 - s2.2.1), (s2.2.2.2 - s2.1), (s2.2.2.2 - s2.2.2.1), t7))) t1 (1, 0, 0, 1)).bind fun f4 => (if (decide (last = first_here)) = true then some f4.1 else some (if (decide (last = (-first_here))) = true then f4.2.1 else f4.2.2.1))))
/-- _law_between -/
def m_l_between (w_well_here : (List Int)) (letters : Int) : Option (Bool × (List Int)) :=
  ((m_l_steps letters).bind fun t1 => (m_l_take w_well_here 4).bind fun t2 => (m_l_take t2.2 100).bind fun t3 => (m_l_take t3.2 2).bind fun t4 => (idx ([(1 + t2.1), (1 + t3.1)]) t4.1).bind fun t5 => ((m_l_take t4.2 (t1.length : Int)).bind fun t6 => (idx t1 t6.1).bind fun t7 => (m_l_take t6.2 (t1.length : Int)).bind fun t8 => (idx t1 t8.1).bind fun t9 => ((lpR (fun (s10 : Unit) (end_here11 : Int) => (((m_l_ends letters t7 end_here11 t5).bind fun t15 => ((m_p_between letters t7 end_here11 t5).bind fun t16 => (m_l_number t16 t15).bind fun t17 => (if (!t17) = true then some (Step.ret (false, t8.2)) else ((m_p_between letters end_here11 t7 t5).bind fun t18 => (m_l_number t18 t15).bind fun t19 => (if (!t19) = true then some (Step.ret (false, t8.2)) else some (Step.go ())))))) : Option (Step (Bool × (List Int)) Unit))) ([t9, t7, (-t7)]) ()).bind fun f12o => Sum.elim (fun r30 => some r30) (fun f12 => ((m_l_all letters ([] : (List (List Int))) 3).bind fun t21 => ((lcG (β := (List Int)) (fun (walk22 : (List Int)) => ((idx walk22 0).bind fun t24 => (if (decide (t24 = t7)) = true then ((idx walk22 2).bind fun t25 => some (decide (t25 = t9))) else some false).bind fun t26 => if t26 = true then some (some walk22) else some none)) t21).bind fun t27 => ((m_p_between letters t7 t9 3).bind fun t28 => (m_l_number t28 (t27.length : Int)).bind fun t29 => some (t29, t8.2))))) f12o)))
/-- _law_right -/
def m_l_right (w_well_here : (List Int)) : Option (Bool × (List Int)) :=
  ((m_l_take w_well_here 4).bind fun t1 => ((m_l_told t1.2 (1 + t1.1)).bind fun t2 => (idx ([8, 6, 4, 4]) ((1 + t1.1) - 1)).bind fun t3 => (m_l_take t2.2 t3).bind fun t4 => ((m_l_short (1 + t1.1) t2.1 t4.1).bind fun t5 => (if (!t5) = true then some (true, t4.2) else ((m_l_take t4.2 3).bind fun t6 => (m_l_short (1 + t1.1) ([] : (List (List Int))) t6.1).bind fun t7 => some ((!t7), t6.2))).bind fun t8 => (if t8.1 = true then some (false, t8.2) else ((m_l_short (1 + t1.1) t2.1 1).bind fun t9 => (if (!t9) = true then some true else ((m_l_short (1 + t1.1) t2.1 0).bind fun t10 => some (!t10))).bind fun t11 => (if t11 = true then some (false, t8.2) else ((m_l_great t8.2 (1 + t1.1) t2.1).bind fun t12 => (if t12.1 = true then ((m_l_between t12.2 (1 + t1.1)).bind fun t13 => some (t13.1, t13.2)) else some (false, t12.2)).bind fun t14 => some (t14.1, t14.2))))))))
/-- law -/
def m_l_law (script : (List Int)) : Option Bool :=
  ((rngO 0 (maxI 1 (minI 3 (script.length : Int)))).bind fun t1 => ((lpR (fun (s2 : Unit) (k_3 : Int) => (((m_l_well script k_3).bind fun t7 => (m_l_right t7).bind fun t8 => (if (!t8.1) = true then some (Step.ret false) else some (Step.go ()))) : Option (Step Bool Unit))) t1 ()).bind fun f4o => Sum.elim (fun r10 => some r10) (fun f4 => some true) f4o))
end L06
namespace L06
open PySem PySem.Spec PyProof.Rows L2 Z
def top (i : Nat) : Stmt := PySem.Challenge.pw_walkclubs_k06_walks_without_told_ones.main.body.getD i (.Pass ⟨0, 0, 0, 0⟩)
abbrev s_p_steps_of : Stmt := top 6
def N_p_steps_of : List Str := ["letters", "found", "letter"]
def V_p_steps_of : List Str := ["letters", "found", "letter"]
def G_p_steps_of : List Str := ["range"]
theorem sc_p_steps_of : FnScope N_p_steps_of ["letters"] (defScope s_p_steps_of) := ⟨rfl, rfl, rfl, by decide +kernel, rfl, by decide +kernel, by decide +kernel⟩
abbrev sp_p_steps_of (K : PySem.W.Frag) : Sp := spZ (α := Int) (β := (List Int)) (fun a => [(dat (PyData.int a))]) (fun a => []) (fun a => m_p_steps_of a) (fun a b => (dat (PyData.list (List.map PyData.int b)))) (fun a b => [])
set_option maxHeartbeats 4000000 in
theorem body_p_steps_of {X : Cx} (hsc : X.env.scope = defScope s_p_steps_of) {sts_ : List Stmt} (hst_ : defBody s_p_steps_of = sts_) (B : Bd X N_p_steps_of V_p_steps_of G_p_steps_of 0) (T : Bt X V_p_steps_of) (g_range : X.mg "range" = none) (letters : Int) (b : (List Int)) (F0 : Hp) (os : Os) (D : Ends) (hm : m_p_steps_of letters = some b) (R : RetZ F0 (os) (dat (PyData.list (List.map PyData.int b))) D) :
    SX X [sl (dat (PyData.int letters)), un, un] (os) F0 sts_ D := by
  subst hst_
  unfold m_p_steps_of at hm
  refine sx_asgN (i := 1) (vi := 1) (n := ol (List.map PyData.int ([] : (List Int)))) B T rfl rfl (en_lst (ds := []) ax_nil) (fun q_found0 => ?_)
  obtain ⟨t1, h1, hm⟩ := bnd hm
  obtain ⟨f4, h8, hm⟩ := bnd hm
  refine sx_for (c := anyOs) _ (fun (s2 : (List Int)) (_ : Unit) => [sl (dat (PyData.int letters)), sl (own q_found0), un]) (fun (s2 : (List Int)) (_ : Unit) => (q_found0, ol (List.map PyData.int s2)) :: os) B T (fun letter3 => gx_name (i := 2) (vi := 2) (φ := (dat (PyData.int letter3))) B T rfl rfl) ([] : (List Int)) () f4 h8 (ix_rng2 (gi := 0) B rfl g_range h1 ex_int (ex_add (ex_v (i := 0) (j := 0) B rfl rfl rfl) ex_int)) ⟨.inl rfl, .inl rfl, .inl rfl, trivial⟩ (fun _ _ => trivial) (fun F6 e5 s2 _ letter3 z9 hx hm => ?_) (fun _ => ?_)
  · clear h8
    obtain ⟨t7, h7, hm⟩ := bnd hm
    refine sx_expr (ex_extend (enc := PyData.int) (j := 0) (xs0 := s2) (xs := s2) (ys := ([letter3, (-letter3)])) h7 (ex_v (i := 1) (j := 1) B rfl rfl rfl) rfl (en_lst (ds := [(PyData.int letter3), (PyData.int (-letter3))]) (hl := len_ok (n := 2) rfl) (ax_cons (ex_v (i := 2) (j := 2) B rfl rfl rfl) (ax_cons (ex_neg (ex_v (i := 2) (j := 2) B rfl rfl rfl)) ax_nil))) rfl) ?_
    obtain rfl := som hm
    exact sx_nil fun σ H a => ⟨(), (a.weak ⟨.inl rfl, .inl rfl, .inr rfl, trivial⟩)⟩
  · skip
    refine sx_frz (j := 0) (i := 1) rfl rfl ?_
    obtain rfl := som hm
    exact sx_ret (ex_v (i := 1) (j := 1) B rfl rfl rfl) (fun F H v e o c => R.rt F H v e o c)
theorem cal_p_steps_of {P : Program} {w : World} {K : PySem.W.Frag} {mg : Str → Option Value} {base : Heap} {f : Addr} {fd : FuncData} (Fn : Fun K "steps_of" "steps_of" s_p_steps_of f fd) (hmg : mg "steps_of" = some (.ref f)) (hb : Binds K fd ["letters"] []) (g_range : mg "range" = none) : Cal P w K mg base 1 "steps_of" s_p_steps_of ["letters"] (sp_p_steps_of K) := by
  obtain ⟨sts_, hst_⟩ : ∃ z_, defBody s_p_steps_of = z_ := ⟨_, rfl⟩
  exact cal_ZQ (V := V_p_steps_of) (Gs := G_p_steps_of) (nl := 2) hst_ Fn sc_p_steps_of (by decide +kernel) (by decide +kernel) hmg hb (fun _ => rfl) rfl fun _ _ _ _ _ _ _ a b F0 os D B T hm R => body_p_steps_of rfl hst_ B T g_range a b F0 os D hm R
abbrev s_p_straightened : Stmt := top 7
def N_p_straightened : List Str := ["walk", "found", "step"]
def V_p_straightened : List Str := ["walk", "found", "step"]
def G_p_straightened : List Str := ["len", "tuple"]
theorem sc_p_straightened : FnScope N_p_straightened ["walk"] (defScope s_p_straightened) := ⟨rfl, rfl, rfl, by decide +kernel, rfl, by decide +kernel, by decide +kernel⟩
abbrev sp_p_straightened (K : PySem.W.Frag) : Sp := spZ (α := (List Int)) (β := (List Int)) (fun a => [(dat (PyData.tuple (List.map PyData.int a)))]) (fun a => []) (fun a => m_p_straightened a) (fun a b => (dat (PyData.tuple (List.map PyData.int b)))) (fun a b => [])
set_option maxHeartbeats 4000000 in
theorem body_p_straightened {X : Cx} (hsc : X.env.scope = defScope s_p_straightened) {sts_ : List Stmt} (hst_ : defBody s_p_straightened = sts_) (B : Bd X N_p_straightened V_p_straightened G_p_straightened 0) (T : Bt X V_p_straightened) (g_len : X.mg "len" = none) (g_tuple : X.mg "tuple" = none) (walk : (List Int)) (b : (List Int)) (F0 : Hp) (os : Os) (D : Ends) (hm : m_p_straightened walk = some b) (R : RetZ F0 (os) (dat (PyData.tuple (List.map PyData.int b))) D) :
    SX X [sl (dat (PyData.tuple (List.map PyData.int walk))), un, un] (os) F0 sts_ D := by
  subst hst_
  unfold m_p_straightened at hm
  refine sx_asgN (i := 1) (vi := 1) (n := ol (List.map PyData.int ([] : (List Int)))) B T rfl rfl (en_lst (ds := []) ax_nil) (fun q_found0 => ?_)
  obtain ⟨f3, h11, hm⟩ := bnd hm
  refine sx_for (c := anyOs) _ (fun (s1 : (List Int)) (_ : Unit) => [sl (dat (PyData.tuple (List.map PyData.int walk))), sl (own q_found0), un]) (fun (s1 : (List Int)) (_ : Unit) => (q_found0, ol (List.map PyData.int s1)) :: os) B T (fun step2 => gx_name (i := 2) (vi := 2) (φ := (dat (PyData.int step2))) B T rfl rfl) ([] : (List Int)) () f3 h11 (ix_tup (enc := PyData.int) (ex_v (i := 0) (j := 0) B rfl rfl rfl) rdt_dat) ⟨.inl rfl, .inl rfl, .inl rfl, trivial⟩ (fun _ _ => trivial) (fun F5 e4 s1 _ step2 z12 hx hm => ?_) (fun _ => ?_)
  · clear h11
    obtain ⟨t7, h7, hm⟩ := bnd hm
    obtain ⟨s10, h_s10, hm⟩ := bnd hm
    refine sx_join [sl (dat (PyData.tuple (List.map PyData.int walk))), sl (own q_found0), sl (dat (PyData.int step2))] ((q_found0, ol (List.map PyData.int s10)) :: os) (?_) (fun Q => ?_)
    · clear h_s10
      obtain rfl := som hm
      exact sx_nil fun σ H a => ⟨(), (a.weak ⟨.inl rfl, .inl rfl, .inr rfl, trivial⟩)⟩
    · have hm := h_s10
      refine sx_if (WX.tx (wx_and (l := t7) (os2 := (q_found0, ol (List.map PyData.int s1)) :: os) (tx_cmp op_gt r2_gt (nomark _) (EX.to (ex_fn (j := 0) B rfl g_len (by decide +kernel) call_len_seq (rc_lenL (ds := List.map PyData.int s1) (rdl_own 0 rfl)) (ax_cons (ex_v (i := 1) (j := 1) B rfl rfl rfl) ax_nil)) (by rw [List.length_map])) ex_int) (fun hk => by (have hm := ifT h7 hk; obtain ⟨t6, h6, hm⟩ := bnd hm; obtain rfl := som hm; exact (wx_and1 (tx_cmp op_eq r2_eqI (nomark _) (ex_idxL (enc := PyData.int) h6 (rdl_own 0 rfl) (ex_v (i := 1) (j := 1) B rfl rfl rfl) (ex_neg ex_int)) (ex_neg (ex_v (i := 2) (j := 2) B rfl rfl rfl)))))) (fun hk => by (have hm := ifF h7 hk; obtain rfl := som hm; rfl)) (and_fix (fun hk => by (have hm := ifF h7 hk; obtain rfl := som hm; rfl))))) (fun hk => ?_) (fun hk => ?_)
      · have hm := ifT hm hk
        obtain ⟨t8, h8, hm⟩ := bnd hm
        refine sx_expr (ex_popO (enc := PyData.int) (j := 0) h8 (ex_v (i := 1) (j := 1) B rfl rfl rfl) rfl) ?_
        obtain rfl := som hm
        exact sx_fall Q rfl
      · have hm := ifF hm hk
        obtain ⟨t9, h9, hm⟩ := bnd hm
        refine sx_expr (ex_app (enc := PyData.int) (j := 0) (xs0 := s1) (xs := s1) (y := step2) h9 (ex_v (i := 1) (j := 1) B rfl rfl rfl) rfl (ex_v (i := 2) (j := 2) B rfl rfl rfl) rfl) ?_
        obtain rfl := som hm
        exact sx_fall Q rfl
  · skip
    refine sx_frz (j := 0) (i := 1) rfl rfl ?_
    obtain rfl := som hm
    exact sx_ret (ex_ty (j := 1) B rfl g_tuple (by decide +kernel) call_tuple_of (rc_tupL (ds := List.map PyData.int f3) rdl_dat) (ax_cons (ex_v (i := 1) (j := 1) B rfl rfl rfl) ax_nil)) (fun F H v e o c => R.rt F H v e o c)
theorem cal_p_straightened {P : Program} {w : World} {K : PySem.W.Frag} {mg : Str → Option Value} {base : Heap} {f : Addr} {fd : FuncData} (Fn : Fun K "straightened" "straightened" s_p_straightened f fd) (hmg : mg "straightened" = some (.ref f)) (hb : Binds K fd ["walk"] []) (g_len : mg "len" = none) (g_tuple : mg "tuple" = none) : Cal P w K mg base 1 "straightened" s_p_straightened ["walk"] (sp_p_straightened K) := by
  obtain ⟨sts_, hst_⟩ : ∃ z_, defBody s_p_straightened = z_ := ⟨_, rfl⟩
  exact cal_ZQ (V := V_p_straightened) (Gs := G_p_straightened) (nl := 2) hst_ Fn sc_p_straightened (by decide +kernel) (by decide +kernel) hmg hb (fun _ => rfl) rfl fun _ _ _ _ _ _ _ a b F0 os D B T hm R => body_p_straightened rfl hst_ B T g_len g_tuple a b F0 os D hm R
abbrev s_p_is_integer : Stmt := top 10
def N_p_is_integer : List Str := ["value"]
def V_p_is_integer : List Str := ["value"]
def G_p_is_integer : List Str := ["isinstance", "int", "bool"]
theorem sc_p_is_integer : FnScope N_p_is_integer ["value"] (defScope s_p_is_integer) := ⟨rfl, rfl, rfl, by decide +kernel, rfl, by decide +kernel, by decide +kernel⟩
abbrev sp_p_is_integer (K : PySem.W.Frag) : Sp := spZ (α := Int) (β := Bool) (fun a => [(dat (PyData.int a))]) (fun a => []) (fun a => m_p_is_integer a) (fun a b => (dat (PyData.bool b))) (fun a b => [])
set_option maxHeartbeats 4000000 in
theorem body_p_is_integer {X : Cx} (hsc : X.env.scope = defScope s_p_is_integer) {sts_ : List Stmt} (hst_ : defBody s_p_is_integer = sts_) (B : Bd X N_p_is_integer V_p_is_integer G_p_is_integer 0) (T : Bt X V_p_is_integer) (g_isinstance : X.mg "isinstance" = none) (g_int : X.mg "int" = none) (g_bool : X.mg "bool" = none) (value : Int) (b : Bool) (F0 : Hp) (os : Os) (D : Ends) (hm : m_p_is_integer value = some b) (R : RetZ F0 (os) (dat (PyData.bool b)) D) :
    SX X [sl (dat (PyData.int value))] (os) F0 sts_ D := by
  subst hst_
  unfold m_p_is_integer at hm
  obtain rfl := som hm
  exact sx_ret (ex_and (ex_fn (j := 0) B rfl g_isinstance (by decide +kernel) call_isi (rc_isi (d := (PyData.int value)) (T := "int") (show kitB "int" "int" = some true by decide +kernel)) (ax_cons (ex_v (i := 0) (j := 0) B rfl rfl rfl) (ax_cons (ex_tyname (T := "int") (gi := 1) B rfl g_int (by decide +kernel)) ax_nil))) (fun _ => (ex_one (ex_not (ex_fn (j := 0) B rfl g_isinstance (by decide +kernel) call_isi (rc_isi (d := (PyData.int value)) (T := "bool") (show kitB "int" "bool" = some false by decide +kernel)) (ax_cons (ex_v (i := 0) (j := 0) B rfl rfl rfl) (ax_cons (ex_tyname (T := "bool") (gi := 2) B rfl g_bool (by decide +kernel)) ax_nil)))))) (fun _ => rfl) rfl) (fun F H v e o c => R.rt F H v e o c)
theorem cal_p_is_integer {P : Program} {w : World} {K : PySem.W.Frag} {mg : Str → Option Value} {base : Heap} {f : Addr} {fd : FuncData} (Fn : Fun K "is_integer" "is_integer" s_p_is_integer f fd) (hmg : mg "is_integer" = some (.ref f)) (hb : Binds K fd ["value"] []) (g_isinstance : mg "isinstance" = none) (g_int : mg "int" = none) (g_bool : mg "bool" = none) : Cal P w K mg base 1 "is_integer" s_p_is_integer ["value"] (sp_p_is_integer K) := by
  obtain ⟨sts_, hst_⟩ : ∃ z_, defBody s_p_is_integer = z_ := ⟨_, rfl⟩
  exact cal_ZQ (V := V_p_is_integer) (Gs := G_p_is_integer) (nl := 0) hst_ Fn sc_p_is_integer (by decide +kernel) (by decide +kernel) hmg hb (fun _ => rfl) rfl fun _ _ _ _ _ _ _ a b F0 os D B T hm R => body_p_is_integer rfl hst_ B T g_isinstance g_int g_bool a b F0 os D hm R
abbrev s_p_is_letters : Stmt := top 12
def N_p_is_letters : List Str := ["value"]
def V_p_is_letters : List Str := ["value"]
def G_p_is_letters : List Str := ["is_integer", "MOST_LETTERS"]
theorem sc_p_is_letters : FnScope N_p_is_letters ["value"] (defScope s_p_is_letters) := ⟨rfl, rfl, rfl, by decide +kernel, rfl, by decide +kernel, by decide +kernel⟩
abbrev sp_p_is_letters (K : PySem.W.Frag) : Sp := spZ (α := Int) (β := Bool) (fun a => [(dat (PyData.int a))]) (fun a => []) (fun a => m_p_is_letters a) (fun a b => (dat (PyData.bool b))) (fun a b => [])
set_option maxHeartbeats 4000000 in
theorem body_p_is_letters {X : Cx} (hsc : X.env.scope = defScope s_p_is_letters) {sts_ : List Stmt} (hst_ : defBody s_p_is_letters = sts_) (B : Bd X N_p_is_letters V_p_is_letters G_p_is_letters 1) (T : Bt X V_p_is_letters) {tk_MOST_LETTERS : Tok} (c_p_is_integer : Cal X.prog X.w X.K X.mg X.base 1 "is_integer" s_p_is_integer ["value"] (sp_p_is_integer X.K)) (g_MOST_LETTERS : X.mg "MOST_LETTERS" = some (.int 4 tk_MOST_LETTERS)) (value : Int) (b : Bool) (F0 : Hp) (os : Os) (D : Ends) (hm : m_p_is_letters value = some b) (R : RetZ F0 (os) (dat (PyData.bool b)) D) :
    SX X [sl (dat (PyData.int value))] (os) F0 sts_ D := by
  subst hst_
  unfold m_p_is_letters at hm
  obtain ⟨t1, h1, hm⟩ := bnd hm
  obtain rfl := som hm
  exact sx_ret (ex_and (ex_call (a := value) (b := t1) (gi := 0) (rest := os) B rfl c_p_is_integer (by decide) h1 (ax_cons (ex_v (i := 0) (j := 0) B rfl rfl rfl) ax_nil)) (fun _ => (ex_one (ex_chain op_le op_le r2_le r2_le (fun _ => rfl) ex_int (ex_v (i := 0) (j := 0) B rfl rfl rfl) (fun _ => (ex_g (j := 1) B rfl g_MOST_LETTERS))))) (fun _ => rfl) rfl) (fun F H v e o c => R.rt F H v e o c)
theorem cal_p_is_letters {P : Program} {w : World} {K : PySem.W.Frag} {mg : Str → Option Value} {base : Heap} {f : Addr} {fd : FuncData} (Fn : Fun K "is_letters" "is_letters" s_p_is_letters f fd) (hmg : mg "is_letters" = some (.ref f)) (hb : Binds K fd ["value"] []) {tk_MOST_LETTERS : Tok} (c_p_is_integer : Cal P w K mg base 1 "is_integer" s_p_is_integer ["value"] (sp_p_is_integer K)) (g_MOST_LETTERS : mg "MOST_LETTERS" = some (.int 4 tk_MOST_LETTERS)) : Cal P w K mg base 2 "is_letters" s_p_is_letters ["value"] (sp_p_is_letters K) := by
  obtain ⟨sts_, hst_⟩ : ∃ z_, defBody s_p_is_letters = z_ := ⟨_, rfl⟩
  exact cal_ZQ (V := V_p_is_letters) (Gs := G_p_is_letters) (nl := 0) hst_ Fn sc_p_is_letters (by decide +kernel) (by decide +kernel) hmg hb (fun _ => rfl) rfl fun _ _ _ _ _ _ _ a b F0 os D B T hm R => body_p_is_letters rfl hst_ B T c_p_is_integer g_MOST_LETTERS a b F0 os D hm R
abbrev s_p_is_step : Stmt := top 13
def N_p_is_step : List Str := ["value", "letters"]
def V_p_is_step : List Str := ["value", "letters"]
def G_p_is_step : List Str := ["is_integer", "abs"]
theorem sc_p_is_step : FnScope N_p_is_step ["value", "letters"] (defScope s_p_is_step) := ⟨rfl, rfl, rfl, by decide +kernel, rfl, by decide +kernel, by decide +kernel⟩
abbrev sp_p_is_step (K : PySem.W.Frag) : Sp := spZ (α := (Int × Int)) (β := Bool) (fun a => [(dat (PyData.int a.1)), (dat (PyData.int a.2))]) (fun a => []) (fun a => m_p_is_step a.1 a.2) (fun a b => (dat (PyData.bool b))) (fun a b => [])
set_option maxHeartbeats 4000000 in
theorem body_p_is_step {X : Cx} (hsc : X.env.scope = defScope s_p_is_step) {sts_ : List Stmt} (hst_ : defBody s_p_is_step = sts_) (B : Bd X N_p_is_step V_p_is_step G_p_is_step 1) (T : Bt X V_p_is_step) (c_p_is_integer : Cal X.prog X.w X.K X.mg X.base 1 "is_integer" s_p_is_integer ["value"] (sp_p_is_integer X.K)) (g_abs : X.mg "abs" = none) (value : Int) (letters : Int) (b : Bool) (F0 : Hp) (os : Os) (D : Ends) (hm : m_p_is_step value letters = some b) (R : RetZ F0 (os) (dat (PyData.bool b)) D) :
    SX X [sl (dat (PyData.int value)), sl (dat (PyData.int letters))] (os) F0 sts_ D := by
  subst hst_
  unfold m_p_is_step at hm
  obtain ⟨t1, h1, hm⟩ := bnd hm
  obtain rfl := som hm
  exact sx_ret (ex_and (ex_call (a := value) (b := t1) (gi := 0) (rest := os) B rfl c_p_is_integer (by decide) h1 (ax_cons (ex_v (i := 0) (j := 0) B rfl rfl rfl) ax_nil)) (fun _ => (ex_one (ex_chain op_le op_le r2_le r2_le (fun _ => rfl) ex_int (ex_fn (j := 1) B rfl g_abs (by decide +kernel) call_abs rc_abs (ax_cons (ex_v (i := 0) (j := 0) B rfl rfl rfl) ax_nil)) (fun _ => (ex_v (i := 1) (j := 1) B rfl rfl rfl))))) (fun _ => rfl) rfl) (fun F H v e o c => R.rt F H v e o c)
theorem cal_p_is_step {P : Program} {w : World} {K : PySem.W.Frag} {mg : Str → Option Value} {base : Heap} {f : Addr} {fd : FuncData} (Fn : Fun K "is_step" "is_step" s_p_is_step f fd) (hmg : mg "is_step" = some (.ref f)) (hb : Binds K fd ["value", "letters"] []) (c_p_is_integer : Cal P w K mg base 1 "is_integer" s_p_is_integer ["value"] (sp_p_is_integer K)) (g_abs : mg "abs" = none) : Cal P w K mg base 2 "is_step" s_p_is_step ["value", "letters"] (sp_p_is_step K) := by
  obtain ⟨sts_, hst_⟩ : ∃ z_, defBody s_p_is_step = z_ := ⟨_, rfl⟩
  exact cal_ZQ (V := V_p_is_step) (Gs := G_p_is_step) (nl := 0) hst_ Fn sc_p_is_step (by decide +kernel) (by decide +kernel) hmg hb (fun _ => rfl) rfl fun _ _ _ _ _ _ _ a b F0 os D B T hm R => body_p_is_step rfl hst_ B T c_p_is_integer g_abs a.1 a.2 b F0 os D hm R
abbrev s_p_is_a_walk : Stmt := top 14
def N_p_is_a_walk : List Str := ["value", "letters", "step"]
def V_p_is_a_walk : List Str := ["value", "letters"]
def G_p_is_a_walk : List Str := ["isinstance", "tuple", "all"]
theorem sc_p_is_a_walk : FnScope N_p_is_a_walk ["value", "letters"] (defScope s_p_is_a_walk) := ⟨rfl, rfl, rfl, by decide +kernel, rfl, by decide +kernel, by decide +kernel⟩
abbrev sp_p_is_a_walk (K : PySem.W.Frag) : Sp := spZ (α := ((List Int) × Int)) (β := Bool) (fun a => [(dat (PyData.tuple (List.map PyData.int a.1))), (dat (PyData.int a.2))]) (fun a => []) (fun a => m_p_is_a_walk a.1 a.2) (fun a b => (dat (PyData.bool b))) (fun a b => [])
set_option maxHeartbeats 4000000 in
theorem body_p_is_a_walk {X : Cx} (hsc : X.env.scope = defScope s_p_is_a_walk) {sts_ : List Stmt} (hst_ : defBody s_p_is_a_walk = sts_) (B : Bd X N_p_is_a_walk V_p_is_a_walk G_p_is_a_walk 2) (T : Bt X V_p_is_a_walk) (g_isinstance : X.mg "isinstance" = none) (g_tuple : X.mg "tuple" = none) (g_all : X.mg "all" = none) (c_p_is_step : Cal X.prog X.w X.K X.mg X.base 2 "is_step" s_p_is_step ["value", "letters"] (sp_p_is_step X.K)) (value : (List Int)) (letters : Int) (b : Bool) (F0 : Hp) (os : Os) (D : Ends) (hm : m_p_is_a_walk value letters = some b) (R : RetZ F0 (os) (dat (PyData.bool b)) D) :
    SX X [sl (dat (PyData.tuple (List.map PyData.int value))), sl (dat (PyData.int letters)), un] (os) F0 sts_ D := by
  subst hst_
  unfold m_p_is_a_walk at hm
  obtain ⟨t5, h5, hm⟩ := bnd hm
  obtain rfl := som hm
  exact sx_ret (ex_and (l := t5) (os2 := os) (ex_fn (j := 0) B rfl g_isinstance (by decide +kernel) call_isi (rc_isi (d := (PyData.tuple (List.map PyData.int value))) (T := "tuple") (show kitB "tuple" "tuple" = some true by decide +kernel)) (ax_cons (ex_v (i := 0) (j := 0) B rfl rfl rfl) (ax_cons (ex_tyname (T := "tuple") (gi := 1) B rfl g_tuple (by decide +kernel)) ax_nil))) (fun hk => by (have hm := ifT h5 hk; obtain ⟨t4, h4, hm⟩ := bnd hm; obtain rfl := som hm; exact (ex_one (ex_fn (j := 2) B rfl g_all (by decide +kernel) (cr_all B.calm) (rc_all rdl_dat) (ax_cons (EN.ex (en_lc (lc_mk1 (j := 2) (vp := fun step1 => (dat (PyData.int step1))) (c := anyOs) (enc := PyData.bool) (fun (_ : Unit) (step1 : Int) => ((fun (step1 : Int) => ((m_p_is_step step1 letters).bind fun t3 => some t3)) step1).map fun y => (some y, ())) (fun (_ : Unit) (tl1 : Os) => tl1) () (t4) () B rfl rfl (by rw [B.hN, hsc]; decide +kernel) (by rw [hsc]; decide +kernel) (by decide) (lcO_ok h4) (ix_tup (enc := PyData.int) (ex_v (i := 0) (j := 0) B rfl rfl rfl) rdt_dat) (fun _ _ => trivial) (fun _ _ _ => List.Perm.refl _) (fun _ step1 t tl1 hx hf => by (obtain ⟨y, hy, rfl⟩ := Option.map_eq_some_iff.mp hf; obtain ⟨t3, h3, hy⟩ := bnd hy; obtain rfl := som hy; exact ⟨true, _, fun X1 hX => by (have B1 := Bd.fam (W' := ["letters", "step"]) (G' := ["is_step"]) B hX (by (try rw [hsc]); decide +kernel); have c_p_is_step' := fam_cal hX c_p_is_step; exact ⟨.nil, fun _ => ⟨_, rfl, (ex_call (a := (step1, letters)) (b := t3) (gi := 0) (rest := tl1) B1 rfl c_p_is_step' (by decide) h3 (ax_cons (ex_v (i := 2) (j := 1) B1 rfl rfl rfl) (ax_cons (ex_v (i := 1) (j := 0) B1 rfl rfl rfl) ax_nil)))⟩, fun h => Bool.noConfusion h⟩)⟩))))) ax_nil))))) (fun hk => by (have hm := ifF h5 hk; obtain rfl := som hm; rfl)) (and_fix (fun hk => by (have hm := ifF h5 hk; obtain rfl := som hm; rfl)))) (fun F H v e o c => R.rt F H v e o c)
theorem cal_p_is_a_walk {P : Program} {w : World} {K : PySem.W.Frag} {mg : Str → Option Value} {base : Heap} {f : Addr} {fd : FuncData} (Fn : Fun K "is_a_walk" "is_a_walk" s_p_is_a_walk f fd) (hmg : mg "is_a_walk" = some (.ref f)) (hb : Binds K fd ["value", "letters"] []) (g_isinstance : mg "isinstance" = none) (g_tuple : mg "tuple" = none) (g_all : mg "all" = none) (c_p_is_step : Cal P w K mg base 2 "is_step" s_p_is_step ["value", "letters"] (sp_p_is_step K)) : Cal P w K mg base 3 "is_a_walk" s_p_is_a_walk ["value", "letters"] (sp_p_is_a_walk K) := by
  obtain ⟨sts_, hst_⟩ : ∃ z_, defBody s_p_is_a_walk = z_ := ⟨_, rfl⟩
  exact cal_ZQ (V := V_p_is_a_walk) (Gs := G_p_is_a_walk) (nl := 1) hst_ Fn sc_p_is_a_walk (by decide +kernel) (by decide +kernel) hmg hb (fun _ => rfl) rfl fun _ _ _ _ _ _ _ a b F0 os D B T hm R => body_p_is_a_walk rfl hst_ B T g_isinstance g_tuple g_all c_p_is_step a.1 a.2 b F0 os D hm R
abbrev s_p_need_letters : Stmt := top 15
def N_p_need_letters : List Str := ["letters"]
def V_p_need_letters : List Str := ["letters"]
def G_p_need_letters : List Str := ["is_letters", "InvalidLetters"]
theorem sc_p_need_letters : FnScope N_p_need_letters ["letters"] (defScope s_p_need_letters) := ⟨rfl, rfl, rfl, by decide +kernel, rfl, by decide +kernel, by decide +kernel⟩
abbrev sp_p_need_letters (K : PySem.W.Frag) : Sp := spZ (α := Int) (β := Unit) (fun a => [(dat (PyData.int a))]) (fun a => []) (fun a => m_p_need_letters a) (fun a b => (dat PyData.none)) (fun a b => [])
set_option maxHeartbeats 4000000 in
theorem body_p_need_letters {X : Cx} (hsc : X.env.scope = defScope s_p_need_letters) {sts_ : List Stmt} (hst_ : defBody s_p_need_letters = sts_) (B : Bd X N_p_need_letters V_p_need_letters G_p_need_letters 2) (T : Bt X V_p_need_letters) (c_p_is_letters : Cal X.prog X.w X.K X.mg X.base 2 "is_letters" s_p_is_letters ["value"] (sp_p_is_letters X.K)) (letters : Int) (b : Unit) (F0 : Hp) (os : Os) (D : Ends) (hm : m_p_need_letters letters = some b) (R : RetZ F0 (os) (dat PyData.none) D) :
    SX X [sl (dat (PyData.int letters))] (os) F0 sts_ D := by
  subst hst_
  unfold m_p_need_letters at hm
  obtain ⟨t1, h1, hm⟩ := bnd hm
  refine sx_if (tx_not (tx_val (ex_call (a := letters) (b := t1) (gi := 0) (rest := os) B rfl c_p_is_letters (by decide) h1 (ax_cons (ex_v (i := 0) (j := 0) B rfl rfl rfl) ax_nil)) (by intro _; rfl))) (fun hk => ?_) (fun hk => ?_)
  · have hm := ifT hm hk
    exact nomatch hm
  · have hm := ifF hm hk
    refine sx_fall ?_ rfl
    obtain rfl := som hm
    exact sx_end fun F σ H e o => R.nx σ H (R.rt F H .non e o (cl_dat .non))
theorem cal_p_need_letters {P : Program} {w : World} {K : PySem.W.Frag} {mg : Str → Option Value} {base : Heap} {f : Addr} {fd : FuncData} (Fn : Fun K "need_letters" "need_letters" s_p_need_letters f fd) (hmg : mg "need_letters" = some (.ref f)) (hb : Binds K fd ["letters"] []) (c_p_is_letters : Cal P w K mg base 2 "is_letters" s_p_is_letters ["value"] (sp_p_is_letters K)) : Cal P w K mg base 3 "need_letters" s_p_need_letters ["letters"] (sp_p_need_letters K) := by
  obtain ⟨sts_, hst_⟩ : ∃ z_, defBody s_p_need_letters = z_ := ⟨_, rfl⟩
  exact cal_ZQ (V := V_p_need_letters) (Gs := G_p_need_letters) (nl := 0) hst_ Fn sc_p_need_letters (by decide +kernel) (by decide +kernel) hmg hb (fun _ => rfl) rfl fun _ _ _ _ _ _ _ a b F0 os D B T hm R => body_p_need_letters rfl hst_ B T c_p_is_letters a b F0 os D hm R
abbrev s_p_need_number : Stmt := top 16
def N_p_need_number : List Str := ["number", "low", "high"]
def V_p_need_number : List Str := ["number", "low", "high"]
def G_p_need_number : List Str := ["InvalidNumber"]
theorem sc_p_need_number : FnScope N_p_need_number ["number", "low", "high"] (defScope s_p_need_number) := ⟨rfl, rfl, rfl, by decide +kernel, rfl, by decide +kernel, by decide +kernel⟩
abbrev sp_p_need_number (K : PySem.W.Frag) : Sp := spZ (α := (Int × Int × Unit)) (β := Unit) (fun a => [(dat (PyData.int a.1)), (dat (PyData.int a.2.1)), (dat PyData.none)]) (fun a => []) (fun a => m_p_need_number a.1 a.2.1 a.2.2) (fun a b => (dat PyData.none)) (fun a b => [])
set_option maxHeartbeats 4000000 in
theorem body_p_need_number {X : Cx} (hsc : X.env.scope = defScope s_p_need_number) {sts_ : List Stmt} (hst_ : defBody s_p_need_number = sts_) (B : Bd X N_p_need_number V_p_need_number G_p_need_number 0) (T : Bt X V_p_need_number)  (number : Int) (low : Int) (high : Unit) (b : Unit) (F0 : Hp) (os : Os) (D : Ends) (hm : m_p_need_number number low high = some b) (R : RetZ F0 (os) (dat PyData.none) D) :
    SX X [sl (dat (PyData.int number)), sl (dat (PyData.int low)), sl (dat PyData.none)] (os) F0 sts_ D := by
  subst hst_
  unfold m_p_need_number at hm
  refine sx_if (WX.tx (wx_or (tx_cmp op_lt r2_lt (nomark _) (ex_v (i := 0) (j := 0) B rfl rfl rfl) (ex_v (i := 1) (j := 1) B rfl rfl rfl)) (fun _ => (wx_or1 (WX.tx (wx_and (l := false) (tx_cmp op_notN (r2_notN (d := PyData.none) (t := false) rfl) (nomark _) (ex_v (i := 2) (j := 2) B rfl rfl rfl) ex_none) (fun hk => Bool.noConfusion hk) (fun _ => rfl) rfl)))) (fun _ => rfl) rfl)) (fun hk => ?_) (fun hk => ?_)
  · have hm := ifT hm hk
    exact nomatch hm
  · have hm := ifF hm hk
    refine sx_fall ?_ rfl
    obtain rfl := som hm
    exact sx_end fun F σ H e o => R.nx σ H (R.rt F H .non e o (cl_dat .non))
theorem cal_p_need_number {P : Program} {w : World} {K : PySem.W.Frag} {mg : Str → Option Value} {base : Heap} {f : Addr} {fd : FuncData} (Fn : Fun K "need_number" "need_number" s_p_need_number f fd) (hmg : mg "need_number" = some (.ref f)) (hb : Binds K fd ["number", "low", "high"] [])  : Cal P w K mg base 1 "need_number" s_p_need_number ["number", "low", "high"] (sp_p_need_number K) := by
  obtain ⟨sts_, hst_⟩ : ∃ z_, defBody s_p_need_number = z_ := ⟨_, rfl⟩
  exact cal_ZQ (V := V_p_need_number) (Gs := G_p_need_number) (nl := 0) hst_ Fn sc_p_need_number (by decide +kernel) (by decide +kernel) hmg hb (fun _ => rfl) rfl fun _ _ _ _ _ _ _ a b F0 os D B T hm R => body_p_need_number rfl hst_ B T  a.1 a.2.1 a.2.2 b F0 os D hm R
abbrev s_p_steps_behind : Stmt := top 19
def N_p_steps_behind : List Str := ["letters", "walk", "step"]
def V_p_steps_behind : List Str := ["letters", "walk"]
def G_p_steps_behind : List Str := ["steps_of"]
theorem sc_p_steps_behind : FnScope N_p_steps_behind ["letters", "walk"] (defScope s_p_steps_behind) := ⟨rfl, rfl, rfl, by decide +kernel, rfl, by decide +kernel, by decide +kernel⟩
abbrev sp_p_steps_behind (K : PySem.W.Frag) : Sp := spZ (α := (Int × (List Int))) (β := (List Int)) (fun a => [(dat (PyData.int a.1)), (dat (PyData.tuple (List.map PyData.int a.2)))]) (fun a => []) (fun a => m_p_steps_behind a.1 a.2) (fun a b => (dat (PyData.list (List.map PyData.int b)))) (fun a b => [])
set_option maxHeartbeats 4000000 in
theorem body_p_steps_behind {X : Cx} (hsc : X.env.scope = defScope s_p_steps_behind) {sts_ : List Stmt} (hst_ : defBody s_p_steps_behind = sts_) (B : Bd X N_p_steps_behind V_p_steps_behind G_p_steps_behind 1) (T : Bt X V_p_steps_behind) (c_p_steps_of : Cal X.prog X.w X.K X.mg X.base 1 "steps_of" s_p_steps_of ["letters"] (sp_p_steps_of X.K)) (letters : Int) (walk : (List Int)) (b : (List Int)) (F0 : Hp) (os : Os) (D : Ends) (hm : m_p_steps_behind letters walk = some b) (R : RetZ F0 (os) (dat (PyData.list (List.map PyData.int b))) D) :
    SX X [sl (dat (PyData.int letters)), sl (dat (PyData.tuple (List.map PyData.int walk))), un] (os) F0 sts_ D := by
  subst hst_
  unfold m_p_steps_behind at hm
  obtain ⟨t1, h1, hm⟩ := bnd hm
  obtain ⟨t4, h4, hm⟩ := bnd hm
  obtain rfl := som hm
  exact sx_ret (EN.ex (en_lc (lc_mk1 (j := 2) (vp := fun step2 => (dat (PyData.int step2))) (c := anyOs) (enc := PyData.int) (fun (_ : Unit) (step2 : Int) => some (if (!decide ((cut walk (some (-1)) none) = [(-step2)])) = true then some step2 else none, ())) (fun (_ : Unit) (tl1 : Os) => tl1) () (t4) () B rfl rfl (by rw [B.hN, hsc]; decide +kernel) (by rw [hsc]; decide +kernel) (by decide) (lcF_ok h4) (ix_list (enc := PyData.int) (c := anyOs) (ex_call (a := letters) (b := t1) (gi := 0) (rest := os) B rfl c_p_steps_of (by decide) h1 (ax_cons (ex_v (i := 0) (j := 0) B rfl rfl rfl) ax_nil)) (fun _ _ => rdl_dat) trivial) (fun _ _ => trivial) (fun _ _ _ => List.Perm.refl _) (fun _ step2 t tl1 hx hf => by (obtain rfl := som hf; exact ⟨(!decide ((cut walk (some (-1)) none) = [(-step2)])), _, fun X1 hX => by (have B1 := Bd.fam (W' := ["walk", "step"]) (G' := []) B hX (by (try rw [hsc]); decide +kernel); exact ⟨.one (tx_neR (e := (eT PyData.int)) (x := (cut walk (some (-1)) none)) (y := ([(-step2)])) B1 (eqv_tup eqv_int) (sh_tup sh_int) (by decide) rdx_dat rdx_dat (ex_cutT (enc := PyData.int) rdt_dat (ex_v (i := 1) (j := 0) B1 rfl rfl rfl) (px_some (ex_neg ex_int)) px_none) (ex_tup (ds := [(PyData.int (-step2))]) (hl := len_ok (n := 1) rfl) (ax_cons (ex_neg (ex_v (i := 2) (j := 1) B1 rfl rfl rfl)) ax_nil))), fun h => ⟨_, if_pos h, (ex_v (i := 2) (j := 1) B1 rfl rfl rfl)⟩, fun h => ⟨(by first | exact if_neg (by rw [h]; exact Bool.false_ne_true) | rfl), rfl⟩⟩)⟩))))) (fun F H v e o c => R.rt F H v e o c)
theorem cal_p_steps_behind {P : Program} {w : World} {K : PySem.W.Frag} {mg : Str → Option Value} {base : Heap} {f : Addr} {fd : FuncData} (Fn : Fun K "steps_behind" "steps_behind" s_p_steps_behind f fd) (hmg : mg "steps_behind" = some (.ref f)) (hb : Binds K fd ["letters", "walk"] []) (c_p_steps_of : Cal P w K mg base 1 "steps_of" s_p_steps_of ["letters"] (sp_p_steps_of K)) : Cal P w K mg base 2 "steps_behind" s_p_steps_behind ["letters", "walk"] (sp_p_steps_behind K) := by
  obtain ⟨sts_, hst_⟩ : ∃ z_, defBody s_p_steps_behind = z_ := ⟨_, rfl⟩
  exact cal_ZQ (V := V_p_steps_behind) (Gs := G_p_steps_behind) (nl := 1) hst_ Fn sc_p_steps_behind (by decide +kernel) (by decide +kernel) hmg hb (fun _ => rfl) rfl fun _ _ _ _ _ _ _ a b F0 os D B T hm R => body_p_steps_behind rfl hst_ B T c_p_steps_of a.1 a.2 b F0 os D hm R
abbrev s_p_between : Stmt := top 20
def N_p_between : List Str := ["letters", "first", "last", "length", "step", "counts", "turn", "total"]
def V_p_between : List Str := ["letters", "first", "last", "length", "step", "counts", "turn", "total"]
def G_p_between : List Str := ["need_letters", "is_step", "InvalidNumber", "need_number", "steps_of", "range", "sum", "list"]
theorem sc_p_between : FnScope N_p_between ["letters", "first", "last", "length"] (defScope s_p_between) := ⟨rfl, rfl, rfl, by decide +kernel, rfl, by decide +kernel, by decide +kernel⟩
abbrev sp_p_between (K : PySem.W.Frag) : Sp := spZ (α := (Int × Int × Int × Int)) (β := Int) (fun a => [(dat (PyData.int a.1)), (dat (PyData.int a.2.1)), (dat (PyData.int a.2.2.1)), (dat (PyData.int a.2.2.2))]) (fun a => []) (fun a => m_p_between a.1 a.2.1 a.2.2.1 a.2.2.2) (fun a b => (dat (PyData.int b))) (fun a b => [])
set_option maxHeartbeats 4000000 in
theorem body_p_between {X : Cx} (hsc : X.env.scope = defScope s_p_between) {sts_ : List Stmt} (hst_ : defBody s_p_between = sts_) (B : Bd X N_p_between V_p_between G_p_between 3) (T : Bt X V_p_between) (c_p_need_letters : Cal X.prog X.w X.K X.mg X.base 3 "need_letters" s_p_need_letters ["letters"] (sp_p_need_letters X.K)) (c_p_is_step : Cal X.prog X.w X.K X.mg X.base 2 "is_step" s_p_is_step ["value", "letters"] (sp_p_is_step X.K)) (c_p_need_number : Cal X.prog X.w X.K X.mg X.base 1 "need_number" s_p_need_number ["number", "low", "high"] (sp_p_need_number X.K)) (c_p_steps_of : Cal X.prog X.w X.K X.mg X.base 1 "steps_of" s_p_steps_of ["letters"] (sp_p_steps_of X.K)) (g_int : X.mg "int" = none) (g_range : X.mg "range" = none) (g_sum : X.mg "sum" = none) (g_list : X.mg "list" = none) (letters : Int) (first : Int) (last : Int) (length : Int) (b : Int) (F0 : Hp) (os : Os) (D : Ends) (hm : m_p_between letters first last length = some b) (R : RetZ F0 (os) (dat (PyData.int b)) D) :
    SX X [sl (dat (PyData.int letters)), sl (dat (PyData.int first)), sl (dat (PyData.int last)), sl (dat (PyData.int length)), un, un, un, un] (os) F0 sts_ D := by
  subst hst_
  unfold m_p_between at hm
  obtain ⟨t1, h1, hm⟩ := bnd hm
  refine sx_expr (ex_call (a := letters) (b := t1) (gi := 0) (rest := os) B rfl c_p_need_letters (by decide) h1 (ax_cons (ex_v (i := 0) (j := 0) B rfl rfl rfl) ax_nil)) ?_
  obtain ⟨f4, h8, hm⟩ := bnd hm
  refine sx_for (c := anyOs) _ (fun (s2 : Unit) (_ : Unit) => [sl (dat (PyData.int letters)), sl (dat (PyData.int first)), sl (dat (PyData.int last)), sl (dat (PyData.int length)), un, un, un, un]) (fun (s2 : Unit) (_ : Unit) => os) B T (fun step3 => gx_name (i := 4) (vi := 4) (φ := (dat (PyData.int step3))) B T rfl rfl) () () f4 h8 (ix_tup (enc := PyData.int) (xs := [(first, last).1, (first, last).2]) (ex_tup (ds := [(PyData.int first), (PyData.int last)]) (hl := len_ok (n := 2) rfl) (ax_cons (ex_v (i := 1) (j := 1) B rfl rfl rfl) (ax_cons (ex_v (i := 2) (j := 2) B rfl rfl rfl) ax_nil))) rdt_dat) ⟨.inl rfl, .inl rfl, .inl rfl, .inl rfl, .inl rfl, .inl rfl, .inl rfl, .inl rfl, trivial⟩ (fun _ _ => trivial) (fun F6 e5 s2 _ step3 z30 hx hm => ?_) (fun _ => ?_)
  · clear h8
    obtain ⟨t7, h7, hm⟩ := bnd hm
    refine sx_if (tx_not (tx_val (ex_call (a := (step3, letters)) (b := t7) (gi := 1) (rest := os) B rfl c_p_is_step (by decide) h7 (ax_cons (ex_v (i := 4) (j := 4) B rfl rfl rfl) (ax_cons (ex_v (i := 0) (j := 0) B rfl rfl rfl) ax_nil))) (by intro _; rfl))) (fun hk => ?_) (fun hk => ?_)
    · have hm := ifT hm hk
      exact nomatch hm
    · have hm := ifF hm hk
      refine sx_fall ?_ rfl
      obtain rfl := som hm
      exact sx_nil fun σ H a => ⟨(), (a.weak ⟨.inl rfl, .inl rfl, .inl rfl, .inl rfl, .inr rfl, .inl rfl, .inl rfl, .inl rfl, trivial⟩)⟩
  · skip
    obtain ⟨t9, h9, hm⟩ := bnd hm
    refine sx_expr (ex_call (a := (length, 1, ())) (b := t9) (gi := 3) (rest := os) B rfl c_p_need_number (by decide) h9 (ax_cons (ex_v (i := 3) (j := 3) B rfl rfl rfl) (ax_cons ex_int (ax_cons ex_none ax_nil)))) ?_
    obtain ⟨t10, h10, hm⟩ := bnd hm
    obtain ⟨z12, h13, hm⟩ := bnd hm
    obtain ⟨t14, h14, hm⟩ := bnd hm
    refine sx_asg (hs := sw_noD (by rw [hsc]; decide +kernel)) (i := 5) (vi := 5) (φ := (dat (Kd.pd kI (eM PyData.int t14)))) B T rfl rfl (EN.exF (en_dc (enc := PyData.int) (m := (fun (step11 : Int) => (some (some (step11, (if (decide (step11 = first)) = true then 1 else 0))) : Option (Option (Int × Int))))) inj_kI (cp_mk1 (j := 4) (vp := fun step11 => (dat (PyData.int step11))) (c := anyOs) B rfl rfl (by rw [B.hN, hsc]; decide +kernel) (by rw [hsc]; decide +kernel) (lenO_ok h13) (ix_list (enc := PyData.int) (c := anyOs) (ex_call (a := letters) (b := t10) (gi := 4) (rest := os) B rfl c_p_steps_of (by decide) h10 (ax_cons (ex_v (i := 0) (j := 0) B rfl rfl rfl) ax_nil)) (fun _ _ => rdl_dat) trivial) (fun _ => trivial)) (by decide) h14 (fun step11 t q1 hx hf => by (obtain rfl := som hf; exact ⟨true, fun X1 hX => by (have B1 := Bd.fam (W' := ["first", "step"]) (G' := ["int"]) B hX (by (try rw [hsc]); decide +kernel); have g_int' := fam_mg hX g_int; exact ⟨.nil, fun _ => ⟨_, rfl, (ex_v (i := 4) (j := 1) B1 rfl rfl rfl), (ex_ty (j := 0) B1 rfl g_int' (by decide +kernel) call_int1 rc_intB (ax_cons (ex_cmp op_eq r2_eqI (nomark _) (ex_v (i := 4) (j := 1) B1 rfl rfl rfl) (ex_v (i := 1) (j := 0) B1 rfl rfl rfl)) ax_nil))⟩, fun h => Bool.noConfusion h⟩)⟩))) frb_od) ?_
    obtain ⟨t15, h15, hm⟩ := bnd hm
    obtain ⟨f18, h27, hm⟩ := bnd hm
    refine sx_for (c := anyOs) _ (fun (s16 : (List (Int × Int))) (_ : Unit) => [sl (dat (PyData.int letters)), sl (dat (PyData.int first)), sl (dat (PyData.int last)), sl (dat (PyData.int length)), un, sl (dat (Kd.pd kI (eM PyData.int s16))), un, un]) (fun (s16 : (List (Int × Int))) (_ : Unit) => os) B T (fun turn17 => gx_name (i := 6) (vi := 6) (φ := (dat (PyData.int turn17))) B T rfl rfl) t14 () f18 h27 (ix_rng1 (gi := 5) B rfl g_range h15 (ex_sub (ex_v (i := 3) (j := 3) B rfl rfl rfl) ex_int)) ⟨.inl rfl, .inl rfl, .inl rfl, .inl rfl, .inl rfl, .inl rfl, .inl rfl, .inl rfl, trivial⟩ (fun _ _ => trivial) (fun F20 e19 s16 _ turn17 z29 hx hm => ?_) (fun _ => ?_)
    · clear h27
      refine sx_asg (i := 7) (vi := 7) (φ := (dat (PyData.int ((List.map Prod.snd s16).sum)))) B T rfl rfl (ex_fn (j := 6) B rfl g_sum (by decide +kernel) (cr_sum B.calm) (rc_sum rdl_dat) (ax_cons (EN.ex (en_ty (j := 7) B rfl g_list (by decide +kernel) (cr_listV B.calm) (rc_listV (enc := PyData.int) (w := s16) rdd_dat) (ax_cons (ex_vals (d := eM PyData.int s16) rdd_dat (ex_v (i := 5) (j := 5) B rfl rfl rfl)) ax_nil))) ax_nil)) ?_
      obtain ⟨t21, h21, hm⟩ := bnd hm
      obtain ⟨z24, h25, hm⟩ := bnd hm
      obtain ⟨t26, h26, hm⟩ := bnd hm
      refine sx_asg (hs := sw_noD (by rw [hsc]; decide +kernel)) (i := 5) (vi := 5) (φ := (dat (Kd.pd kI (eM PyData.int t26)))) B T rfl rfl (EN.exF (en_dc (enc := PyData.int) (m := (fun (step22 : Int) => (((dGet s16 (-step22)).bind fun t23 => some (some (step22, ((List.map Prod.snd s16).sum - t23)))) : Option (Option (Int × Int))))) inj_kI (cp_mk1 (j := 4) (vp := fun step22 => (dat (PyData.int step22))) (c := anyOs) B rfl rfl (by rw [B.hN, hsc]; decide +kernel) (by rw [hsc]; decide +kernel) (lenO_ok h25) (ix_list (enc := PyData.int) (c := anyOs) (ex_call (a := letters) (b := t21) (gi := 4) (rest := os) B rfl c_p_steps_of (by decide) h21 (ax_cons (ex_v (i := 0) (j := 0) B rfl rfl rfl) ax_nil)) (fun _ _ => rdl_dat) trivial) (fun _ => trivial)) (by decide) h26 (fun step22 t q1 hx hf => by (obtain ⟨t23, h23, hf⟩ := bnd hf; obtain rfl := som hf; exact ⟨true, fun X1 hX => by (have B1 := Bd.fam (W' := ["step", "counts", "total"]) (G' := []) B hX (by (try rw [hsc]); decide +kernel); exact ⟨.nil, fun _ => ⟨_, rfl, (ex_v (i := 4) (j := 0) B1 rfl rfl rfl), (ex_sub (ex_v (i := 7) (j := 2) B1 rfl rfl rfl) (ex_dget (kd := kI) (enc := PyData.int) (w := s16) inj_kI h23 B1 rdd_dat (ex_v (i := 5) (j := 1) B1 rfl rfl rfl) (ex_neg (ex_v (i := 4) (j := 0) B1 rfl rfl rfl))))⟩, fun h => Bool.noConfusion h⟩)⟩))) frb_od) ?_
      obtain rfl := som hm
      exact sx_nil fun σ H a => ⟨(), (a.weak ⟨.inl rfl, .inl rfl, .inl rfl, .inl rfl, .inl rfl, .inl rfl, .inr rfl, .inr rfl, trivial⟩)⟩
    · skip
      obtain ⟨t28, h28, hm⟩ := bnd hm
      obtain rfl := som hm
      exact sx_ret (ex_dget (kd := kI) (enc := PyData.int) (w := f18) inj_kI h28 B rdd_dat (ex_v (i := 5) (j := 5) B rfl rfl rfl) (ex_v (i := 2) (j := 2) B rfl rfl rfl)) (fun F H v e o c => R.rt F H v e o c)
theorem cal_p_between {P : Program} {w : World} {K : PySem.W.Frag} {mg : Str → Option Value} {base : Heap} {f : Addr} {fd : FuncData} (Fn : Fun K "between" "between" s_p_between f fd) (hmg : mg "between" = some (.ref f)) (hb : Binds K fd ["letters", "first", "last", "length"] []) (c_p_need_letters : Cal P w K mg base 3 "need_letters" s_p_need_letters ["letters"] (sp_p_need_letters K)) (c_p_is_step : Cal P w K mg base 2 "is_step" s_p_is_step ["value", "letters"] (sp_p_is_step K)) (c_p_need_number : Cal P w K mg base 1 "need_number" s_p_need_number ["number", "low", "high"] (sp_p_need_number K)) (c_p_steps_of : Cal P w K mg base 1 "steps_of" s_p_steps_of ["letters"] (sp_p_steps_of K)) (g_int : mg "int" = none) (g_range : mg "range" = none) (g_sum : mg "sum" = none) (g_list : mg "list" = none) : Cal P w K mg base 4 "between" s_p_between ["letters", "first", "last", "length"] (sp_p_between K) := by
  obtain ⟨sts_, hst_⟩ : ∃ z_, defBody s_p_between = z_ := ⟨_, rfl⟩
  exact cal_ZQ (V := V_p_between) (Gs := G_p_between) (nl := 4) hst_ Fn sc_p_between (by decide +kernel) (by decide +kernel) hmg hb (fun _ => rfl) rfl fun _ _ _ _ _ _ _ a b F0 os D B T hm R => body_p_between rfl hst_ B T c_p_need_letters c_p_is_step c_p_need_number c_p_steps_of g_int g_range g_sum g_list a.1 a.2.1 a.2.2.1 a.2.2.2 b F0 os D hm R
abbrev s_p_need_told : Stmt := top 21
def N_p_need_told : List Str := ["letters", "told", "walk"]
def V_p_need_told : List Str := ["letters", "told", "walk"]
def G_p_need_told : List Str := ["is_a_walk", "len", "MOST_TOLD", "straightened", "InvalidWalk", "anew"]
theorem sc_p_need_told : FnScope N_p_need_told ["letters", "told"] (defScope s_p_need_told) := ⟨rfl, rfl, rfl, by decide +kernel, rfl, by decide +kernel, by decide +kernel⟩
abbrev sp_p_need_told (K : PySem.W.Frag) : Sp := spZ (α := (Int × (List (List Int)))) (β := Unit) (fun a => [(dat (PyData.int a.1)), (dat (PyData.list (List.map (eT PyData.int) a.2)))]) (fun a => []) (fun a => m_p_need_told a.1 a.2) (fun a b => (dat PyData.none)) (fun a b => [])
set_option maxHeartbeats 4000000 in
theorem body_p_need_told {X : Cx} (hsc : X.env.scope = defScope s_p_need_told) {sts_ : List Stmt} (hst_ : defBody s_p_need_told = sts_) (B : Bd X N_p_need_told V_p_need_told G_p_need_told 3) (T : Bt X V_p_need_told) {tk_MOST_TOLD : Tok} (c_p_is_a_walk : Cal X.prog X.w X.K X.mg X.base 3 "is_a_walk" s_p_is_a_walk ["value", "letters"] (sp_p_is_a_walk X.K)) (g_len : X.mg "len" = none) (g_MOST_TOLD : X.mg "MOST_TOLD" = some (.int 5 tk_MOST_TOLD)) (c_p_straightened : Cal X.prog X.w X.K X.mg X.base 1 "straightened" s_p_straightened ["walk"] (sp_p_straightened X.K)) (letters : Int) (told : (List (List Int))) (b : Unit) (F0 : Hp) (os : Os) (D : Ends) (hm : m_p_need_told letters told = some b) (R : RetZ F0 (os) (dat PyData.none) D) :
    SX X [sl (dat (PyData.int letters)), sl (dat (PyData.list (List.map (eT PyData.int) told))), un] (os) F0 sts_ D := by
  subst hst_
  unfold m_p_need_told at hm
  obtain ⟨f3, h10, hm⟩ := bnd hm
  refine sx_for (c := anyOs) _ (fun (s1 : Unit) (_ : Unit) => [sl (dat (PyData.int letters)), sl (dat (PyData.list (List.map (eT PyData.int) told))), un]) (fun (s1 : Unit) (_ : Unit) => os) B T (fun walk2 => gx_name (i := 2) (vi := 2) (φ := (dat (PyData.tuple (List.map PyData.int walk2)))) B T rfl rfl) () () f3 h10 (ix_list (enc := (eT PyData.int)) (c := anyOs) (ex_v (i := 1) (j := 1) B rfl rfl rfl) (fun _ _ => rdl_dat) trivial) ⟨.inl rfl, .inl rfl, .inl rfl, trivial⟩ (fun _ _ => trivial) (fun F5 e4 s1 _ walk2 z11 hx hm => ?_) (fun _ => ?_)
  · clear h10
    obtain ⟨t6, h6, hm⟩ := bnd hm
    obtain ⟨t9, h9, hm⟩ := bnd hm
    refine sx_if (WX.tx (wx_or (l := t9) (os2 := os) (tx_not (tx_val (ex_call (a := (walk2, letters)) (b := t6) (gi := 0) (rest := os) B rfl c_p_is_a_walk (by decide) h6 (ax_cons (ex_v (i := 2) (j := 2) B rfl rfl rfl) (ax_cons (ex_v (i := 0) (j := 0) B rfl rfl rfl) ax_nil))) (by intro _; rfl))) (fun hk => by (have hm := ifF h9 hk; obtain ⟨t8, h8, hm⟩ := bnd hm; obtain rfl := som hm; exact (wx_or (l := t8) (os2 := os) (tx_not (tx_chain op_le op_le r2_le r2_le (fun _ => rfl) ex_int (EX.to (ex_fn (j := 1) B rfl g_len (by decide +kernel) call_len_seq (rc_lenT (ds := List.map PyData.int walk2) rdt_dat) (ax_cons (ex_v (i := 2) (j := 2) B rfl rfl rfl) ax_nil)) (by rw [List.length_map])) (fun _ => (ex_g (j := 2) B rfl g_MOST_TOLD)))) (fun hk => by (have hm := ifF h8 hk; obtain ⟨t7, h7, hm⟩ := bnd hm; obtain rfl := som hm; exact (wx_or1 (tx_neR (e := (eT PyData.int)) (x := t7) (y := walk2) B (eqv_tup eqv_int) (sh_tup sh_int) (by decide) rdx_dat rdx_dat (ex_call (a := walk2) (b := t7) (gi := 3) (rest := os) B rfl c_p_straightened (by decide) h7 (ax_cons (ex_v (i := 2) (j := 2) B rfl rfl rfl) ax_nil)) (ex_v (i := 2) (j := 2) B rfl rfl rfl))))) (fun hk => by (have hm := ifT h8 hk; obtain rfl := som hm; rfl)) (or_fix (fun hk => by (have hm := ifT h8 hk; obtain rfl := som hm; rfl)))))) (fun hk => by (have hm := ifT h9 hk; obtain rfl := som hm; rfl)) (or_fix (fun hk => by (have hm := ifT h9 hk; obtain rfl := som hm; rfl))))) (fun hk => ?_) (fun hk => ?_)
    · have hm := ifT hm hk
      exact nomatch hm
    · have hm := ifF hm hk
      refine sx_fall ?_ rfl
      obtain rfl := som hm
      exact sx_nil fun σ H a => ⟨(), (a.weak ⟨.inl rfl, .inl rfl, .inr rfl, trivial⟩)⟩
  · skip
    obtain rfl := som hm
    exact sx_end fun F σ H e o => R.nx σ H (R.rt F H .non e o (cl_dat .non))
theorem cal_p_need_told {P : Program} {w : World} {K : PySem.W.Frag} {mg : Str → Option Value} {base : Heap} {f : Addr} {fd : FuncData} (Fn : Fun K "need_told" "need_told" s_p_need_told f fd) (hmg : mg "need_told" = some (.ref f)) (hb : Binds K fd ["letters", "told"] []) {tk_MOST_TOLD : Tok} (c_p_is_a_walk : Cal P w K mg base 3 "is_a_walk" s_p_is_a_walk ["value", "letters"] (sp_p_is_a_walk K)) (g_len : mg "len" = none) (g_MOST_TOLD : mg "MOST_TOLD" = some (.int 5 tk_MOST_TOLD)) (c_p_straightened : Cal P w K mg base 1 "straightened" s_p_straightened ["walk"] (sp_p_straightened K)) : Cal P w K mg base 4 "need_told" s_p_need_told ["letters", "told"] (sp_p_need_told K) := by
  obtain ⟨sts_, hst_⟩ : ∃ z_, defBody s_p_need_told = z_ := ⟨_, rfl⟩
  exact cal_ZQ (V := V_p_need_told) (Gs := G_p_need_told) (nl := 1) hst_ Fn sc_p_need_told (by decide +kernel) (by decide +kernel) hmg hb (fun _ => rfl) rfl fun _ _ _ _ _ _ _ a b F0 os D B T hm R => body_p_need_told rfl hst_ B T c_p_is_a_walk g_len g_MOST_TOLD c_p_straightened a.1 a.2 b F0 os D hm R
abbrev s_p_need_toldO : Stmt := top 21
def N_p_need_toldO : List Str := ["letters", "told", "walk"]
def V_p_need_toldO : List Str := ["letters", "told", "walk"]
def G_p_need_toldO : List Str := ["is_a_walk", "len", "MOST_TOLD", "straightened", "InvalidWalk", "anew"]
theorem sc_p_need_toldO : FnScope N_p_need_toldO ["letters", "told"] (defScope s_p_need_toldO) := ⟨rfl, rfl, rfl, by decide +kernel, rfl, by decide +kernel, by decide +kernel⟩
abbrev sp_p_need_toldO (K : PySem.W.Frag) : Sp := spZ (α := (Int × Addr × (List (List Int)))) (β := (Unit × (List (List Int)))) (fun a => [(dat (PyData.int a.1)), own a.2.1]) (fun a => (a.2.1, ol (List.map (eT PyData.int) a.2.2)) :: []) (fun a => m_p_need_toldO a.1 a.2.2) (fun a b => (dat PyData.none)) (fun a b => (a.2.1, ol (List.map (eT PyData.int) b.2)) :: [])
set_option maxHeartbeats 4000000 in
theorem body_p_need_toldO {X : Cx} (hsc : X.env.scope = defScope s_p_need_toldO) {sts_ : List Stmt} (hst_ : defBody s_p_need_toldO = sts_) (B : Bd X N_p_need_toldO V_p_need_toldO G_p_need_toldO 3) (T : Bt X V_p_need_toldO) {tk_MOST_TOLD : Tok} (c_p_is_a_walk : Cal X.prog X.w X.K X.mg X.base 3 "is_a_walk" s_p_is_a_walk ["value", "letters"] (sp_p_is_a_walk X.K)) (g_len : X.mg "len" = none) (g_MOST_TOLD : X.mg "MOST_TOLD" = some (.int 5 tk_MOST_TOLD)) (c_p_straightened : Cal X.prog X.w X.K X.mg X.base 1 "straightened" s_p_straightened ["walk"] (sp_p_straightened X.K)) (letters : Int) (q_told : Addr) (w_told : (List (List Int))) (b : (Unit × (List (List Int)))) (F0 : Hp) (os : Os) (D : Ends) (hm : m_p_need_toldO letters w_told = some b) (R : RetZ F0 ((q_told, ol (List.map (eT PyData.int) b.2)) :: os) (dat PyData.none) D) :
    SX X [sl (dat (PyData.int letters)), sl (own q_told), un] ((q_told, ol (List.map (eT PyData.int) w_told)) :: os) F0 sts_ D := by
  subst hst_
  unfold m_p_need_toldO at hm
  obtain ⟨f3, h10, hm⟩ := bnd hm
  refine sx_for (c := (fun o => o[0]? = some (q_told, ol (List.map (eT PyData.int) w_told)))) _ (fun (s1 : Unit) (_ : Unit) => [sl (dat (PyData.int letters)), sl (own q_told), un]) (fun (s1 : Unit) (_ : Unit) => (q_told, ol (List.map (eT PyData.int) w_told)) :: os) B T (fun walk2 => gx_name (i := 2) (vi := 2) (φ := (dat (PyData.tuple (List.map PyData.int walk2)))) B T rfl rfl) () () f3 h10 (ix_list (enc := (eT PyData.int)) (c := (fun o => o[0]? = some (q_told, ol (List.map (eT PyData.int) w_told)))) (ex_v (i := 1) (j := 1) B rfl rfl rfl) (fun _ h => rdl_own 0 h) rfl) ⟨.inl rfl, .inl rfl, .inl rfl, trivial⟩ (fun _ _ => rfl) (fun F5 e4 s1 _ walk2 z11 hx hm => ?_) (fun _ => ?_)
  · clear h10
    obtain ⟨t6, h6, hm⟩ := bnd hm
    obtain ⟨t9, h9, hm⟩ := bnd hm
    refine sx_if (WX.tx (wx_or (l := t9) (os2 := (q_told, ol (List.map (eT PyData.int) w_told)) :: os) (tx_not (tx_val (ex_call (a := (walk2, letters)) (b := t6) (gi := 0) (rest := (q_told, ol (List.map (eT PyData.int) w_told)) :: os) B rfl c_p_is_a_walk (by decide) h6 (ax_cons (ex_v (i := 2) (j := 2) B rfl rfl rfl) (ax_cons (ex_v (i := 0) (j := 0) B rfl rfl rfl) ax_nil))) (by intro _; rfl))) (fun hk => by (have hm := ifF h9 hk; obtain ⟨t8, h8, hm⟩ := bnd hm; obtain rfl := som hm; exact (wx_or (l := t8) (os2 := (q_told, ol (List.map (eT PyData.int) w_told)) :: os) (tx_not (tx_chain op_le op_le r2_le r2_le (fun _ => rfl) ex_int (EX.to (ex_fn (j := 1) B rfl g_len (by decide +kernel) call_len_seq (rc_lenT (ds := List.map PyData.int walk2) rdt_dat) (ax_cons (ex_v (i := 2) (j := 2) B rfl rfl rfl) ax_nil)) (by rw [List.length_map])) (fun _ => (ex_g (j := 2) B rfl g_MOST_TOLD)))) (fun hk => by (have hm := ifF h8 hk; obtain ⟨t7, h7, hm⟩ := bnd hm; obtain rfl := som hm; exact (wx_or1 (tx_neR (e := (eT PyData.int)) (x := t7) (y := walk2) B (eqv_tup eqv_int) (sh_tup sh_int) (by decide) rdx_dat rdx_dat (ex_call (a := walk2) (b := t7) (gi := 3) (rest := (q_told, ol (List.map (eT PyData.int) w_told)) :: os) B rfl c_p_straightened (by decide) h7 (ax_cons (ex_v (i := 2) (j := 2) B rfl rfl rfl) ax_nil)) (ex_v (i := 2) (j := 2) B rfl rfl rfl))))) (fun hk => by (have hm := ifT h8 hk; obtain rfl := som hm; rfl)) (or_fix (fun hk => by (have hm := ifT h8 hk; obtain rfl := som hm; rfl)))))) (fun hk => by (have hm := ifT h9 hk; obtain rfl := som hm; rfl)) (or_fix (fun hk => by (have hm := ifT h9 hk; obtain rfl := som hm; rfl))))) (fun hk => ?_) (fun hk => ?_)
    · have hm := ifT hm hk
      exact nomatch hm
    · have hm := ifF hm hk
      refine sx_fall ?_ rfl
      obtain rfl := som hm
      exact sx_nil fun σ H a => ⟨(), (a.weak ⟨.inl rfl, .inl rfl, .inr rfl, trivial⟩)⟩
  · skip
    obtain rfl := som hm
    exact sx_end fun F σ H e o => R.nx σ H (R.rt F H .non e o (cl_dat .non))
theorem cal_p_need_toldO {P : Program} {w : World} {K : PySem.W.Frag} {mg : Str → Option Value} {base : Heap} {f : Addr} {fd : FuncData} (Fn : Fun K "need_told" "need_told" s_p_need_toldO f fd) (hmg : mg "need_told" = some (.ref f)) (hb : Binds K fd ["letters", "told"] []) {tk_MOST_TOLD : Tok} (c_p_is_a_walk : Cal P w K mg base 3 "is_a_walk" s_p_is_a_walk ["value", "letters"] (sp_p_is_a_walk K)) (g_len : mg "len" = none) (g_MOST_TOLD : mg "MOST_TOLD" = some (.int 5 tk_MOST_TOLD)) (c_p_straightened : Cal P w K mg base 1 "straightened" s_p_straightened ["walk"] (sp_p_straightened K)) : Cal P w K mg base 4 "need_told" s_p_need_toldO ["letters", "told"] (sp_p_need_toldO K) := by
  obtain ⟨sts_, hst_⟩ : ∃ z_, defBody s_p_need_toldO = z_ := ⟨_, rfl⟩
  exact cal_ZQ (V := V_p_need_toldO) (Gs := G_p_need_toldO) (nl := 1) hst_ Fn sc_p_need_toldO (by decide +kernel) (by decide +kernel) hmg hb (fun _ => rfl) rfl fun _ _ _ _ _ _ _ a b F0 os D B T hm R => body_p_need_toldO rfl hst_ B T c_p_is_a_walk g_len g_MOST_TOLD c_p_straightened a.1 a.2.1 a.2.2 b F0 os D hm R
abbrev s_p_end_kept : Stmt := top 22
def N_p_end_kept : List Str := ["walk", "begins", "at"]
def V_p_end_kept : List Str := ["walk", "begins", "at"]
def G_p_end_kept : List Str := ["range", "len"]
theorem sc_p_end_kept : FnScope N_p_end_kept ["walk", "begins"] (defScope s_p_end_kept) := ⟨rfl, rfl, rfl, by decide +kernel, rfl, by decide +kernel, by decide +kernel⟩
abbrev sp_p_end_kept (K : PySem.W.Frag) : Sp := spZ (α := ((List Int) × (List ((List Int) × Bool)))) (β := (List Int)) (fun a => [(dat (PyData.tuple (List.map PyData.int a.1))), (dat (Kd.pd kTI (eM PyData.bool a.2)))]) (fun a => []) (fun a => m_p_end_kept a.1 a.2) (fun a b => (dat (PyData.tuple (List.map PyData.int b)))) (fun a b => [])
set_option maxHeartbeats 4000000 in
theorem body_p_end_kept {X : Cx} (hsc : X.env.scope = defScope s_p_end_kept) {sts_ : List Stmt} (hst_ : defBody s_p_end_kept = sts_) (B : Bd X N_p_end_kept V_p_end_kept G_p_end_kept 0) (T : Bt X V_p_end_kept) (g_range : X.mg "range" = none) (g_len : X.mg "len" = none) (walk : (List Int)) (begins : (List ((List Int) × Bool))) (b : (List Int)) (F0 : Hp) (os : Os) (D : Ends) (hm : m_p_end_kept walk begins = some b) (R : RetZ F0 (os) (dat (PyData.tuple (List.map PyData.int b))) D) :
    SX X [sl (dat (PyData.tuple (List.map PyData.int walk))), sl (dat (Kd.pd kTI (eM PyData.bool begins))), un] (os) F0 sts_ D := by
  subst hst_
  unfold m_p_end_kept at hm
  obtain ⟨t1, h1, hm⟩ := bnd hm
  obtain ⟨f4o, h7, hm⟩ := bnd hm
  refine sx_forR (c := anyOs) _ (fun (s2 : Unit) (_ : Unit) => [sl (dat (PyData.tuple (List.map PyData.int walk))), sl (dat (Kd.pd kTI (eM PyData.bool begins))), un]) (fun (s2 : Unit) (_ : Unit) => os) (fun (r : (List Int)) v H => ∃ F, Same F0 F ∧ Ow F (os) H ∧ Cl (dat (PyData.tuple (List.map PyData.int r))) F v) B T (fun at_3 => gx_name (i := 2) (vi := 2) (φ := (dat (PyData.int at_3))) B T rfl rfl) () () f4o h7 (ix_rng1 (gi := 0) B rfl g_range h1 (EX.to (ex_fn (j := 1) B rfl g_len (by decide +kernel) call_len_seq (rc_lenT (ds := List.map PyData.int walk) rdt_dat) (ax_cons (ex_v (i := 0) (j := 0) B rfl rfl rfl) ax_nil)) (by rw [List.length_map]))) ⟨.inl rfl, .inl rfl, .inl rfl, trivial⟩ (fun _ _ => trivial) (fun F6 e5 s2 _ at_3 z9 hx hm2 => ?_) (fun f4 _ ho => ?_) (fun r8 v H ho hr => ?_)
  · clear hm h7
    have hm := hm2
    refine sx_if (tx_din (kd := kTI) (enc := PyData.bool) (w := begins) (k := (cut walk (some at_3) none)) inj_kTI B rdd_dat (EX.to (ex_cutT (enc := PyData.int) rdt_dat (ex_v (i := 0) (j := 0) B rfl rfl rfl) (px_some (ex_v (i := 2) (j := 2) B rfl rfl rfl)) px_none) (by first | exact ek_tI _ | rfl)) (ex_v (i := 1) (j := 1) B rfl rfl rfl)) (fun hk => ?_) (fun hk => ?_)
    · have hm := ifT hm hk
      exact sx_ret (ex_cutT (enc := PyData.int) rdt_dat (ex_v (i := 0) (j := 0) B rfl rfl rfl) (px_some (ex_v (i := 2) (j := 2) B rfl rfl rfl)) px_none) (fun F H v e o c => ⟨_, (som hm).symm, F, (e5.trans e), o, c⟩)
    · have hm := ifF hm hk
      refine sx_fall ?_ rfl
      exact sx_nil fun σ H a => ⟨_, (), (som hm).symm, (a.weak ⟨.inl rfl, .inl rfl, .inr rfl, trivial⟩)⟩
  · cases ho
    have hm := elimR hm
    obtain rfl := som hm
    exact sx_ret (ex_cutT (enc := PyData.int) rdt_dat (ex_v (i := 0) (j := 0) B rfl rfl rfl) (px_some (ex_neg ex_int)) px_none) (fun F H v e o c => R.rt F H v e o c)
  · cases ho
    have hm := elimL hm
    obtain rfl := som hm
    obtain ⟨F, e, o, c⟩ := hr
    exact R.rt F H v e o c
theorem cal_p_end_kept {P : Program} {w : World} {K : PySem.W.Frag} {mg : Str → Option Value} {base : Heap} {f : Addr} {fd : FuncData} (Fn : Fun K "end_kept" "end_kept" s_p_end_kept f fd) (hmg : mg "end_kept" = some (.ref f)) (hb : Binds K fd ["walk", "begins"] []) (g_range : mg "range" = none) (g_len : mg "len" = none) : Cal P w K mg base 1 "end_kept" s_p_end_kept ["walk", "begins"] (sp_p_end_kept K) := by
  obtain ⟨sts_, hst_⟩ : ∃ z_, defBody s_p_end_kept = z_ := ⟨_, rfl⟩
  exact cal_ZQ (V := V_p_end_kept) (Gs := G_p_end_kept) (nl := 1) hst_ Fn sc_p_end_kept (by decide +kernel) (by decide +kernel) hmg hb (fun _ => rfl) rfl fun _ _ _ _ _ _ _ a b F0 os D B T hm R => body_p_end_kept rfl hst_ B T g_range g_len a.1 a.2 b F0 os D hm R
abbrev s_p_machine : Stmt := top 23
def N_p_machine : List Str := ["letters", "told", "begins", "table", "order", "at", "here", "found", "step", "longer", "goal", "walk", "size"]
def V_p_machine : List Str := ["letters", "told", "begins", "table", "order", "at", "here", "found", "step", "longer", "goal"]
def G_p_machine : List Str := ["len", "steps_behind", "any", "end_kept"]
theorem sc_p_machine : FnScope N_p_machine ["letters", "told"] (defScope s_p_machine) := ⟨rfl, rfl, rfl, by decide +kernel, rfl, by decide +kernel, by decide +kernel⟩
abbrev sp_p_machine (K : PySem.W.Frag) : Sp := spZ (α := (Int × (List (List Int)))) (β := (List ((List Int) × (List (Int × (List Int)))))) (fun a => [(dat (PyData.int a.1)), (dat (PyData.list (List.map (eT PyData.int) a.2)))]) (fun a => []) (fun a => m_p_machine a.1 a.2) (fun a b => (dat (Kd.pd kTI (eM (eL (eP PyData.int (eT PyData.int))) b)))) (fun a b => [])
set_option maxHeartbeats 4000000 in
theorem body_p_machine {X : Cx} (hsc : X.env.scope = defScope s_p_machine) {sts_ : List Stmt} (hst_ : defBody s_p_machine = sts_) (B : Bd X N_p_machine V_p_machine G_p_machine 2) (T : Bt X V_p_machine) (g_range : X.mg "range" = none) (g_len : X.mg "len" = none) (c_p_steps_behind : Cal X.prog X.w X.K X.mg X.base 2 "steps_behind" s_p_steps_behind ["letters", "walk"] (sp_p_steps_behind X.K)) (g_any : X.mg "any" = none) (c_p_end_kept : Cal X.prog X.w X.K X.mg X.base 1 "end_kept" s_p_end_kept ["walk", "begins"] (sp_p_end_kept X.K)) (letters : Int) (told : (List (List Int))) (b : (List ((List Int) × (List (Int × (List Int)))))) (F0 : Hp) (os : Os) (D : Ends) (hm : m_p_machine letters told = some b) (R : RetZ F0 (os) (dat (Kd.pd kTI (eM (eL (eP PyData.int (eT PyData.int))) b))) D) :
    SX X [sl (dat (PyData.int letters)), sl (dat (PyData.list (List.map (eT PyData.int) told))), un, un, un, un, un, un, un, un, un, un, un] (os) F0 sts_ D := by
  subst hst_
  unfold m_p_machine at hm
  obtain ⟨t4, h4, hm⟩ := bnd hm
  obtain ⟨t5, h5, hm⟩ := bnd hm
  refine sx_asgDc2 (q0 := 2) (i := 11) (j := 12) (vp := fun walk1 => (dat (PyData.tuple (List.map PyData.int walk1)))) (vp1 := fun walk1 size2 => (dat (PyData.int size2))) (enc := PyData.bool) (ys := (fun (walk1 : (List Int)) => (((rngO 1 (walk1.length : Int)).bind fun t3 => some t3) : Option (List Int)))) (m := (fun (walk1 : (List Int)) (size2 : Int) => (some (some ((cut walk1 none (some size2)), true)) : Option (Option ((List Int) × Bool))))) B rfl (by rw [hsc]; exact lcl_of (by decide +kernel)) rfl rfl inj_kTI (by decide) rfl rfl (by rw [B.hN, hsc]; decide +kernel) (by rw [hsc]; decide +kernel) (by rw [hsc]; decide +kernel) (ix_list (enc := (eT PyData.int)) (c := anyOs) (ex_v (i := 1) (j := 1) B rfl rfl rfl) (fun _ _ => rdl_dat) trivial) h4 (lenO_ok h5) (fun walk1 l_ q1 hx hf X1 hX => by (obtain ⟨t3, h3, hf⟩ := bnd hf; obtain rfl := som hf; have B1 := Bd.fam (W' := ["walk"]) (G' := ["range", "len"]) B hX (by (try rw [hsc]); decide +kernel); have g_range' := fam_mg hX g_range; have g_len' := fam_mg hX g_len; exact (ix_rng2 (gi := 0) B1 rfl g_range' h3 ex_int (EX.to (ex_fn (j := 1) B1 rfl g_len' (by decide +kernel) call_len_seq (rc_lenT (ds := List.map PyData.int walk1) rdt_dat) (ax_cons (ex_v (i := 11) (j := 0) B1 rfl rfl rfl) ax_nil)) (by rw [List.length_map]))))) (fun walk1 l_ size2 t_ q1 hx hf0 hy hf X1 hX => by (obtain rfl := som hf; have B1 := Bd.fam (W' := ["walk", "size"]) (G' := []) B hX (by (try rw [hsc]); decide +kernel); exact ⟨_, rfl, (EX.to (ex_cutT (enc := PyData.int) rdt_dat (ex_v (i := 11) (j := 0) B1 rfl rfl rfl) px_none (px_some (ex_v (i := 12) (j := 1) B1 rfl rfl rfl))) (by first | exact ek_tI _ | rfl)), ex_bool⟩)) (sw_okD (by rw [hsc]; decide +kernel) (by rw [hsc]; exact lcl_of (by decide +kernel)) (by decide) (by decide +kernel)) (fun q_begins6 => ?_)
  refine sx_frzF (j := 0) (i := 2) frb_od rfl rfl ?_
  refine sx_par3 (i := 3) (j := 4) (l := 5) _ hsc B rfl rfl rfl (by decide) (by decide) (by decide) (by decide +kernel) (by decide +kernel) (by decide +kernel) (by intro env he; cases env; cases he; first | rfl | kernel_rfl) (aq_n (n := od kTI (eM (eL (eP PyData.int (eT PyData.int))) ([] : (List ((List Int) × (List (Int × (List Int)))))))) (en_dnew (kd := kTI)) (fun q_table7 => (aq_n (n := ol (List.map (eT PyData.int) ([([] : (List Int))]))) (en_lst (ds := [(PyData.tuple (List.map PyData.int ([] : (List Int))))]) (hl := len_ok (n := 1) rfl) (ax_cons (ex_tup (ds := []) ax_nil) ax_nil)) (fun q_order8 => (aq_x (φ := (dat (PyData.int 0))) ex_int aq_nil))))) (fun v0 v1 v2 os_ hr_ => ?_) (by rintro φs os_ ⟨q_table7, _, rfl, q_order8, _, rfl, _, rfl, rfl, rfl⟩; exact ⟨_, _, _, rfl⟩)
  obtain ⟨q_table7, _, e0, q_order8, _, e1, _, e2, e8, e9⟩ := hr_
  cases e0; cases e1; cases e2; cases e8; cases e9
  obtain ⟨f10o, h41, hm⟩ := bnd hm
  refine sx_while _ _ (fun (s9 : (Int × (List (List Int)) × (List ((List Int) × (List (Int × (List Int))))))) (_ : Unit) => [sl (dat (PyData.int letters)), sl (dat (PyData.list (List.map (eT PyData.int) told))), sl (dat (Kd.pd kTI (eM PyData.bool t4))), sl (own q_table7), sl (own q_order8), sl (dat (PyData.int s9.1)), un, un, un, un, un, un, un]) (fun (s9 : (Int × (List (List Int)) × (List ((List Int) × (List (Int × (List Int))))))) (_ : Unit) => (q_order8, ol (List.map (eT PyData.int) s9.2.1)) :: (q_table7, od kTI (eM (eL (eP PyData.int (eT PyData.int))) s9.2.2)) :: os) (fun (r : (List ((List Int) × (List (Int × (List Int)))))) v H => ∃ F, Same F0 F ∧ Ow F (os) H ∧ Cl (dat (Kd.pd kTI (eM (eL (eP PyData.int (eT PyData.int))) r))) F v) T 1000 (0, [([] : (List Int))], ([] : (List ((List Int) × (List (Int × (List Int))))))) () f10o h41 ⟨.inl rfl, .inl rfl, .inl rfl, .inl rfl, .inl rfl, .inl rfl, .inl rfl, .inl rfl, .inl rfl, .inl rfl, .inl rfl, .inl rfl, .inl rfl, trivial⟩ rfl (fun s9 _ b hm => by (obtain rfl := som hm; exact (tx_cmp op_lt r2_lt (nomark _) (ex_v (i := 5) (j := 5) B rfl rfl rfl) (EX.to (ex_fn (j := 0) B rfl g_len (by decide +kernel) call_len_seq (rc_lenL (ds := List.map (eT PyData.int) s9.2.1) (rdl_own 0 rfl)) (ax_cons (ex_v (i := 4) (j := 4) B rfl rfl rfl) ax_nil)) (by rw [List.length_map]))))) (fun F12 e11 s9 _ z42 _ hm => ?_) (fun f10 _ ho => ?_) (fun r40 v H ho hr => ?_)
  · clear h41
    obtain ⟨t13, h13, hm⟩ := bnd hm
    refine sx_par2 (i := 6) (j := 7) _ hsc B rfl rfl (by decide) (by decide +kernel) (by decide +kernel) (by intro env he; cases env; cases he; first | rfl | kernel_rfl) (aq_x (φ := (dat (PyData.tuple (List.map PyData.int t13)))) (ex_idxL (enc := (eT PyData.int)) h13 (rdl_own 0 rfl) (ex_v (i := 4) (j := 4) B rfl rfl rfl) (ex_v (i := 5) (j := 5) B rfl rfl rfl)) (aq_n (n := ol (List.map (eP PyData.int (eT PyData.int)) ([] : (List (Int × (List Int)))))) (en_lst (ds := []) ax_nil) (fun q_found14 => aq_nil))) (fun v0 v1 os_ hr_ => ?_) (by rintro φs os_ ⟨_, rfl, q_found14, _, rfl, rfl, rfl⟩; exact ⟨_, _, rfl⟩)
    obtain ⟨_, e0, q_found14, _, e1, e8, e9⟩ := hr_
    cases e0; cases e1; cases e8; cases e9
    obtain ⟨t15, h15, hm⟩ := bnd hm
    obtain ⟨f18, h28, hm⟩ := bnd hm
    refine sx_for (c := anyOs) _ (fun (s16 : (List (Int × (List Int)))) (_ : Unit) => [sl (dat (PyData.int letters)), sl (dat (PyData.list (List.map (eT PyData.int) told))), sl (dat (Kd.pd kTI (eM PyData.bool t4))), sl (own q_table7), sl (own q_order8), sl (dat (PyData.int s9.1)), sl (dat (PyData.tuple (List.map PyData.int t13))), sl (own q_found14), un, un, un, un, un]) (fun (s16 : (List (Int × (List Int)))) (_ : Unit) => (q_found14, ol (List.map (eP PyData.int (eT PyData.int)) s16)) :: (q_order8, ol (List.map (eT PyData.int) s9.2.1)) :: (q_table7, od kTI (eM (eL (eP PyData.int (eT PyData.int))) s9.2.2)) :: os) B T (fun step17 => gx_name (i := 8) (vi := 8) (φ := (dat (PyData.int step17))) B T rfl rfl) ([] : (List (Int × (List Int)))) () f18 h28 (ix_list (enc := PyData.int) (c := anyOs) (ex_call (a := (letters, t13)) (b := t15) (gi := 1) (rest := (q_found14, ol (List.map (eP PyData.int (eT PyData.int)) ([] : (List (Int × (List Int)))))) :: (q_order8, ol (List.map (eT PyData.int) s9.2.1)) :: (q_table7, od kTI (eM (eL (eP PyData.int (eT PyData.int))) s9.2.2)) :: os) B rfl c_p_steps_behind (by decide) h15 (ax_cons (ex_v (i := 0) (j := 0) B rfl rfl rfl) (ax_cons (ex_v (i := 6) (j := 6) B rfl rfl rfl) ax_nil))) (fun _ _ => rdl_dat) trivial) ⟨.inl rfl, .inl rfl, .inl rfl, .inl rfl, .inl rfl, .inl rfl, .inl rfl, .inl rfl, .inl rfl, .inl rfl, .inl rfl, .inl rfl, .inl rfl, trivial⟩ (fun _ _ => trivial) (fun F20 e19 s16 _ step17 z39 hx hm => ?_) (fun _ => ?_)
    · clear h28
      obtain ⟨t21, h21, hm⟩ := bnd hm
      refine sx_asg (i := 9) (vi := 9) (φ := (dat (PyData.tuple (List.map PyData.int t21)))) B T rfl rfl (ex_catT (enc := PyData.int) h21 (ex_v (i := 6) (j := 6) B rfl rfl rfl) (ex_tup (ds := [(PyData.int step17)]) (hl := len_ok (n := 1) rfl) (ax_cons (ex_v (i := 8) (j := 8) B rfl rfl rfl) ax_nil))) ?_
      obtain ⟨t24, h24, hm⟩ := bnd hm
      obtain ⟨s27, h_s27, hm⟩ := bnd hm
      refine sx_join [sl (dat (PyData.int letters)), sl (dat (PyData.list (List.map (eT PyData.int) told))), sl (dat (Kd.pd kTI (eM PyData.bool t4))), sl (own q_table7), sl (own q_order8), sl (dat (PyData.int s9.1)), sl (dat (PyData.tuple (List.map PyData.int t13))), sl (own q_found14), sl (dat (PyData.int step17)), sl (dat (PyData.tuple (List.map PyData.int t21))), un, un, un] ((q_found14, ol (List.map (eP PyData.int (eT PyData.int)) s27)) :: (q_order8, ol (List.map (eT PyData.int) s9.2.1)) :: (q_table7, od kTI (eM (eL (eP PyData.int (eT PyData.int))) s9.2.2)) :: os) (?_) (fun Q => ?_)
      · clear h_s27
        obtain rfl := som hm
        exact sx_nil fun σ H a => ⟨(), (a.weak ⟨.inl rfl, .inl rfl, .inl rfl, .inl rfl, .inl rfl, .inl rfl, .inl rfl, .inl rfl, .inr rfl, .inr rfl, .inl rfl, .inl rfl, .inl rfl, trivial⟩)⟩
      · have hm := h_s27
        refine sx_if (tx_not (tx_val (ex_fn (j := 2) B rfl g_any (by decide +kernel) (cr_any B.calm) (rc_any rdl_dat) (ax_cons (EN.ex (en_lc (lc_mk1 (j := 11) (vp := fun walk22 => (dat (PyData.tuple (List.map PyData.int walk22)))) (c := anyOs) (enc := PyData.bool) (fun (_ : Unit) (walk22 : (List Int)) => some (some (decide ((cut t21 (some (-(walk22.length : Int))) none) = walk22)), ())) (fun (_ : Unit) (tl1 : Os) => (q_found14, ol (List.map (eP PyData.int (eT PyData.int)) s16)) :: (q_order8, ol (List.map (eT PyData.int) s9.2.1)) :: (q_table7, od kTI (eM (eL (eP PyData.int (eT PyData.int))) s9.2.2)) :: tl1) () (t24) () B rfl rfl (by rw [B.hN, hsc]; decide +kernel) (by rw [hsc]; decide +kernel) (by decide) (lcT_ok h24) (ix_list (enc := (eT PyData.int)) (c := anyOs) (ex_v (i := 1) (j := 1) B rfl rfl rfl) (fun _ _ => rdl_dat) trivial) (fun _ _ => trivial) (fun _ _ _ => ((List.Perm.cons _ ((List.Perm.cons _ (List.Perm.swap _ _ _)).trans (List.Perm.swap _ _ _))).trans (List.Perm.swap _ _ _))) (fun _ walk22 t tl1 hx hf => by (obtain rfl := som hf; exact ⟨true, _, fun X1 hX => by (have B1 := Bd.fam (W' := ["longer", "walk"]) (G' := ["len"]) B hX (by (try rw [hsc]); decide +kernel); have g_len' := fam_mg hX g_len; exact ⟨.nil, fun _ => ⟨_, rfl, (ex_eqR (e := (eT PyData.int)) (x := (cut t21 (some (-(walk22.length : Int))) none)) (y := walk22) B1 (eqv_tup eqv_int) (sh_tup sh_int) (by decide) rdx_dat rdx_dat (ex_cutT (enc := PyData.int) rdt_dat (ex_v (i := 9) (j := 0) B1 rfl rfl rfl) (px_some (ex_neg (EX.to (ex_fn (j := 0) B1 rfl g_len' (by decide +kernel) call_len_seq (rc_lenT (ds := List.map PyData.int walk22) rdt_dat) (ax_cons (ex_v (i := 11) (j := 1) B1 rfl rfl rfl) ax_nil)) (by rw [List.length_map])))) px_none) (ex_v (i := 11) (j := 1) B1 rfl rfl rfl))⟩, fun h => Bool.noConfusion h⟩)⟩))))) ax_nil)) (by intro _; rfl))) (fun hk => ?_) (fun hk => ?_)
        · have hm := ifT hm hk
          obtain ⟨t25, h25, hm⟩ := bnd hm
          obtain ⟨t26, h26, hm⟩ := bnd hm
          refine sx_expr (ex_app (enc := (eP PyData.int (eT PyData.int))) (j := 0) (xs0 := s16) (xs := s16) (y := (step17, t25)) h26 (ex_v (i := 7) (j := 7) B rfl rfl rfl) rfl (ex_tup (ds := [(PyData.int step17), (PyData.tuple (List.map PyData.int t25))]) (hl := len_ok (n := 2) rfl) (ax_cons (ex_v (i := 8) (j := 8) B rfl rfl rfl) (ax_cons (ex_call (a := (t21, t4)) (b := t25) (gi := 3) (rest := (q_found14, ol (List.map (eP PyData.int (eT PyData.int)) s16)) :: (q_order8, ol (List.map (eT PyData.int) s9.2.1)) :: (q_table7, od kTI (eM (eL (eP PyData.int (eT PyData.int))) s9.2.2)) :: os) B rfl c_p_end_kept (by decide) h25 (ax_cons (ex_v (i := 9) (j := 9) B rfl rfl rfl) (ax_cons (ex_v (i := 2) (j := 2) B rfl rfl rfl) ax_nil))) ax_nil))) rfl) ?_
          obtain rfl := som hm
          exact sx_fall Q rfl
        · have hm := ifF hm hk
          obtain rfl := som hm
          exact sx_fall Q rfl
    · skip
      refine sx_frz (j := 0) (i := 7) rfl rfl ?_
      obtain ⟨t29, h29, hm⟩ := bnd hm
      refine sx_dput (kd := kTI) (enc := (eL (eP PyData.int (eT PyData.int)))) (w := s9.2.2) (x := f18) inj_kTI h29 B (ex_v (i := 7) (j := 7) B rfl rfl rfl) (ex_v (i := 3) (j := 3) B rfl rfl rfl) (EX.to (ex_v (i := 6) (j := 6) B rfl rfl rfl) (by first | exact ek_tI _ | rfl)) (wr_flat (f := (odT kTI (eL (eP PyData.int (eT PyData.int))))) (d := s9.2.2) 1 rfl) ?_
      obtain ⟨f32, h37, hm⟩ := bnd hm
      refine sx_for (c := anyOs) _ (fun (s30 : (List (List Int))) (_ : Unit) => [sl (dat (PyData.int letters)), sl (dat (PyData.list (List.map (eT PyData.int) told))), sl (dat (Kd.pd kTI (eM PyData.bool t4))), sl (own q_table7), sl (own q_order8), sl (dat (PyData.int s9.1)), sl (dat (PyData.tuple (List.map PyData.int t13))), sl (dat (PyData.list (List.map (eP PyData.int (eT PyData.int)) f18))), un, un, un, un, un]) (fun (s30 : (List (List Int))) (_ : Unit) => (q_order8, ol (List.map (eT PyData.int) s30)) :: (q_table7, od kTI (eM (eL (eP PyData.int (eT PyData.int))) t29)) :: os) B T (fun x31 => gx_pair B (gx_name (i := 8) (vi := 8) (φ := (dat (PyData.int x31.1))) B T rfl rfl) (gx_name (i := 10) (vi := 10) (φ := (dat (PyData.tuple (List.map PyData.int x31.2)))) B T rfl rfl)) s9.2.1 () f32 h37 (ix_list (enc := (eP PyData.int (eT PyData.int))) (c := anyOs) (ex_v (i := 7) (j := 7) B rfl rfl rfl) (fun _ _ => rdl_dat) trivial) ⟨.inl rfl, .inl rfl, .inl rfl, .inl rfl, .inl rfl, .inl rfl, .inl rfl, .inl rfl, .inl rfl, .inl rfl, .inl rfl, .inl rfl, .inl rfl, trivial⟩ (fun _ _ => trivial) (fun F34 e33 s30 _ x31 z38 hx hm => ?_) (fun _ => ?_)
      · clear h37
        obtain ⟨s36, h_s36, hm⟩ := bnd hm
        refine sx_join [sl (dat (PyData.int letters)), sl (dat (PyData.list (List.map (eT PyData.int) told))), sl (dat (Kd.pd kTI (eM PyData.bool t4))), sl (own q_table7), sl (own q_order8), sl (dat (PyData.int s9.1)), sl (dat (PyData.tuple (List.map PyData.int t13))), sl (dat (PyData.list (List.map (eP PyData.int (eT PyData.int)) f18))), sl (dat (PyData.int x31.1)), un, sl (dat (PyData.tuple (List.map PyData.int x31.2))), un, un] ((q_order8, ol (List.map (eT PyData.int) s36)) :: (q_table7, od kTI (eM (eL (eP PyData.int (eT PyData.int))) t29)) :: os) (?_) (fun Q => ?_)
        · clear h_s36
          obtain rfl := som hm
          exact sx_nil fun σ H a => ⟨(), (a.weak ⟨.inl rfl, .inl rfl, .inl rfl, .inl rfl, .inl rfl, .inl rfl, .inl rfl, .inl rfl, .inr rfl, .inl rfl, .inr rfl, .inl rfl, .inl rfl, trivial⟩)⟩
        · have hm := h_s36
          refine sx_if (WX.tx (wx_and (tx_dnotin (kd := kTI) (enc := (eL (eP PyData.int (eT PyData.int)))) (w := t29) (k := x31.2) inj_kTI B (rdd_own 1 rfl) (EX.to (ex_v (i := 10) (j := 10) B rfl rfl rfl) (by first | exact ek_tI _ | rfl)) (ex_v (i := 3) (j := 3) B rfl rfl rfl)) (fun _ => (wx_and1 (tx_ninD (e := (eT PyData.int)) (x := x31.2) (xs := s30) B (eqv_tup eqv_int) (sh_tup sh_int) (by decide) rdx_dat (rdx_own (ds := List.map (eT PyData.int) s30) 0 rfl) (by rfl) (ex_v (i := 10) (j := 10) B rfl rfl rfl) (ex_v (i := 4) (j := 4) B rfl rfl rfl)))) (fun _ => rfl) rfl)) (fun hk => ?_) (fun hk => ?_)
          · have hm := ifT hm hk
            obtain ⟨t35, h35, hm⟩ := bnd hm
            refine sx_expr (ex_app (enc := (eT PyData.int)) (j := 0) (xs0 := s30) (xs := s30) (y := x31.2) h35 (ex_v (i := 4) (j := 4) B rfl rfl rfl) rfl (ex_v (i := 10) (j := 10) B rfl rfl rfl) rfl) ?_
            obtain rfl := som hm
            exact sx_fall Q rfl
          · have hm := ifF hm hk
            obtain rfl := som hm
            exact sx_fall Q rfl
      · skip
        refine sx_addI (i := 5) (vi := 5) B T rfl rfl rfl ex_int ?_
        exact sx_nil fun σ H a => ⟨_, (), (som hm).symm, (a.weak ⟨.inl rfl, .inl rfl, .inl rfl, .inl rfl, .inl rfl, .inl rfl, .inr rfl, .inr rfl, .inl rfl, .inl rfl, .inl rfl, .inl rfl, .inl rfl, trivial⟩)⟩
  · cases ho
    have hm := elimR hm
    refine sx_frzF (j := 1) (i := 3) frb_od rfl rfl ?_
    obtain rfl := som hm
    exact sx_ret (ex_v (i := 3) (j := 3) B rfl rfl rfl) (fun F H v e o c => R.rt F H v e (o.drop) c)
  · cases ho
    have hm := elimL hm
    cases hm
theorem cal_p_machine {P : Program} {w : World} {K : PySem.W.Frag} {mg : Str → Option Value} {base : Heap} {f : Addr} {fd : FuncData} (Fn : Fun K "machine" "machine" s_p_machine f fd) (hmg : mg "machine" = some (.ref f)) (hb : Binds K fd ["letters", "told"] []) (g_range : mg "range" = none) (g_len : mg "len" = none) (c_p_steps_behind : Cal P w K mg base 2 "steps_behind" s_p_steps_behind ["letters", "walk"] (sp_p_steps_behind K)) (g_any : mg "any" = none) (c_p_end_kept : Cal P w K mg base 1 "end_kept" s_p_end_kept ["walk", "begins"] (sp_p_end_kept K)) : Cal P w K mg base 3 "machine" s_p_machine ["letters", "told"] (sp_p_machine K) := by
  obtain ⟨sts_, hst_⟩ : ∃ z_, defBody s_p_machine = z_ := ⟨_, rfl⟩
  exact cal_ZQ (V := V_p_machine) (Gs := G_p_machine) (nl := 11) hst_ Fn sc_p_machine (by decide +kernel) (by decide +kernel) hmg hb (fun _ => rfl) rfl fun _ _ _ _ _ _ _ a b F0 os D B T hm R => body_p_machine rfl hst_ B T g_range g_len c_p_steps_behind g_any c_p_end_kept a.1 a.2 b F0 os D hm R
abbrev s_p_machineO : Stmt := top 23
def N_p_machineO : List Str := ["letters", "told", "begins", "table", "order", "at", "here", "found", "step", "longer", "goal", "walk", "size"]
def V_p_machineO : List Str := ["letters", "told", "begins", "table", "order", "at", "here", "found", "step", "longer", "goal"]
def G_p_machineO : List Str := ["len", "steps_behind", "any", "end_kept"]
theorem sc_p_machineO : FnScope N_p_machineO ["letters", "told"] (defScope s_p_machineO) := ⟨rfl, rfl, rfl, by decide +kernel, rfl, by decide +kernel, by decide +kernel⟩
abbrev sp_p_machineO (K : PySem.W.Frag) : Sp := spZ (α := (Int × Addr × (List (List Int)))) (β := ((List ((List Int) × (List (Int × (List Int))))) × (List (List Int)))) (fun a => [(dat (PyData.int a.1)), own a.2.1]) (fun a => (a.2.1, ol (List.map (eT PyData.int) a.2.2)) :: []) (fun a => m_p_machineO a.1 a.2.2) (fun a b => (dat (Kd.pd kTI (eM (eL (eP PyData.int (eT PyData.int))) b.1)))) (fun a b => (a.2.1, ol (List.map (eT PyData.int) b.2)) :: [])
set_option maxHeartbeats 4000000 in
theorem body_p_machineO {X : Cx} (hsc : X.env.scope = defScope s_p_machineO) {sts_ : List Stmt} (hst_ : defBody s_p_machineO = sts_) (B : Bd X N_p_machineO V_p_machineO G_p_machineO 2) (T : Bt X V_p_machineO) (g_range : X.mg "range" = none) (g_len : X.mg "len" = none) (c_p_steps_behind : Cal X.prog X.w X.K X.mg X.base 2 "steps_behind" s_p_steps_behind ["letters", "walk"] (sp_p_steps_behind X.K)) (g_any : X.mg "any" = none) (c_p_end_kept : Cal X.prog X.w X.K X.mg X.base 1 "end_kept" s_p_end_kept ["walk", "begins"] (sp_p_end_kept X.K)) (letters : Int) (q_told : Addr) (w_told : (List (List Int))) (b : ((List ((List Int) × (List (Int × (List Int))))) × (List (List Int)))) (F0 : Hp) (os : Os) (D : Ends) (hm : m_p_machineO letters w_told = some b) (R : RetZ F0 ((q_told, ol (List.map (eT PyData.int) b.2)) :: os) (dat (Kd.pd kTI (eM (eL (eP PyData.int (eT PyData.int))) b.1))) D) :
    SX X [sl (dat (PyData.int letters)), sl (own q_told), un, un, un, un, un, un, un, un, un, un, un] ((q_told, ol (List.map (eT PyData.int) w_told)) :: os) F0 sts_ D := by
  subst hst_
  unfold m_p_machineO at hm
  obtain ⟨t4, h4, hm⟩ := bnd hm
  obtain ⟨t5, h5, hm⟩ := bnd hm
  refine sx_asgDc2c (c := (fun o => (q_told, ol (List.map (eT PyData.int) w_told)) ∈ o)) (q0 := 2) (i := 11) (j := 12) (vp := fun walk1 => (dat (PyData.tuple (List.map PyData.int walk1)))) (vp1 := fun walk1 size2 => (dat (PyData.int size2))) (enc := PyData.bool) (ys := (fun (walk1 : (List Int)) => (((rngO 1 (walk1.length : Int)).bind fun t3 => some t3) : Option (List Int)))) (m := (fun (walk1 : (List Int)) (size2 : Int) => (some (some ((cut walk1 none (some size2)), true)) : Option (Option ((List Int) × Bool))))) B rfl (by rw [hsc]; exact lcl_of (by decide +kernel)) rfl rfl inj_kTI (by decide) rfl rfl (by rw [B.hN, hsc]; decide +kernel) (by rw [hsc]; decide +kernel) (by rw [hsc]; decide +kernel) (ix_list (enc := (eT PyData.int)) (c := (fun o => (q_told, ol (List.map (eT PyData.int) w_told)) ∈ o)) (ex_v (i := 1) (j := 1) B rfl rfl rfl) (fun _ h => rdl_mem h) (List.mem_of_getElem? (i := 0) rfl)) (fun _ _ => List.mem_cons_of_mem _ (List.mem_of_getElem? (i := 0) rfl)) h4 (lenO_ok h5) (fun walk1 l_ q1 hx hf X1 hX => by (obtain ⟨t3, h3, hf⟩ := bnd hf; obtain rfl := som hf; have B1 := Bd.fam (W' := ["walk"]) (G' := ["range", "len"]) B hX (by (try rw [hsc]); decide +kernel); have g_range' := fam_mg hX g_range; have g_len' := fam_mg hX g_len; exact (ix_rng2 (gi := 0) B1 rfl g_range' h3 ex_int (EX.to (ex_fn (j := 1) B1 rfl g_len' (by decide +kernel) call_len_seq (rc_lenT (ds := List.map PyData.int walk1) rdt_dat) (ax_cons (ex_v (i := 11) (j := 0) B1 rfl rfl rfl) ax_nil)) (by rw [List.length_map]))))) (fun walk1 l_ size2 t_ q1 hx hf0 hy hf X1 hX => by (obtain rfl := som hf; have B1 := Bd.fam (W' := ["walk", "size"]) (G' := []) B hX (by (try rw [hsc]); decide +kernel); exact ⟨_, rfl, (EX.to (ex_cutT (enc := PyData.int) rdt_dat (ex_v (i := 11) (j := 0) B1 rfl rfl rfl) px_none (px_some (ex_v (i := 12) (j := 1) B1 rfl rfl rfl))) (by first | exact ek_tI _ | rfl)), ex_bool⟩)) (sw_okD (by rw [hsc]; decide +kernel) (by rw [hsc]; exact lcl_of (by decide +kernel)) (by decide) (by decide +kernel)) (fun q_begins6 => ?_)
  refine sx_frzF (j := 0) (i := 2) frb_od rfl rfl ?_
  refine sx_par3 (i := 3) (j := 4) (l := 5) _ hsc B rfl rfl rfl (by decide) (by decide) (by decide) (by decide +kernel) (by decide +kernel) (by decide +kernel) (by intro env he; cases env; cases he; first | rfl | kernel_rfl) (aq_n (n := od kTI (eM (eL (eP PyData.int (eT PyData.int))) ([] : (List ((List Int) × (List (Int × (List Int)))))))) (en_dnew (kd := kTI)) (fun q_table7 => (aq_n (n := ol (List.map (eT PyData.int) ([([] : (List Int))]))) (en_lst (ds := [(PyData.tuple (List.map PyData.int ([] : (List Int))))]) (hl := len_ok (n := 1) rfl) (ax_cons (ex_tup (ds := []) ax_nil) ax_nil)) (fun q_order8 => (aq_x (φ := (dat (PyData.int 0))) ex_int aq_nil))))) (fun v0 v1 v2 os_ hr_ => ?_) (by rintro φs os_ ⟨q_table7, _, rfl, q_order8, _, rfl, _, rfl, rfl, rfl⟩; exact ⟨_, _, _, rfl⟩)
  obtain ⟨q_table7, _, e0, q_order8, _, e1, _, e2, e8, e9⟩ := hr_
  cases e0; cases e1; cases e2; cases e8; cases e9
  obtain ⟨f10o, h41, hm⟩ := bnd hm
  refine sx_while _ _ (fun (s9 : (Int × (List (List Int)) × (List ((List Int) × (List (Int × (List Int))))))) (_ : Unit) => [sl (dat (PyData.int letters)), sl (own q_told), sl (dat (Kd.pd kTI (eM PyData.bool t4))), sl (own q_table7), sl (own q_order8), sl (dat (PyData.int s9.1)), un, un, un, un, un, un, un]) (fun (s9 : (Int × (List (List Int)) × (List ((List Int) × (List (Int × (List Int))))))) (_ : Unit) => (q_order8, ol (List.map (eT PyData.int) s9.2.1)) :: (q_table7, od kTI (eM (eL (eP PyData.int (eT PyData.int))) s9.2.2)) :: (q_told, ol (List.map (eT PyData.int) w_told)) :: os) (fun (r : ((List ((List Int) × (List (Int × (List Int))))) × (List (List Int)))) v H => ∃ F, Same F0 F ∧ Ow F ((q_told, ol (List.map (eT PyData.int) r.2)) :: os) H ∧ Cl (dat (Kd.pd kTI (eM (eL (eP PyData.int (eT PyData.int))) r.1))) F v) T 1000 (0, [([] : (List Int))], ([] : (List ((List Int) × (List (Int × (List Int))))))) () f10o h41 ⟨.inl rfl, .inl rfl, .inl rfl, .inl rfl, .inl rfl, .inl rfl, .inl rfl, .inl rfl, .inl rfl, .inl rfl, .inl rfl, .inl rfl, .inl rfl, trivial⟩ rfl (fun s9 _ b hm => by (obtain rfl := som hm; exact (tx_cmp op_lt r2_lt (nomark _) (ex_v (i := 5) (j := 5) B rfl rfl rfl) (EX.to (ex_fn (j := 0) B rfl g_len (by decide +kernel) call_len_seq (rc_lenL (ds := List.map (eT PyData.int) s9.2.1) (rdl_own 0 rfl)) (ax_cons (ex_v (i := 4) (j := 4) B rfl rfl rfl) ax_nil)) (by rw [List.length_map]))))) (fun F12 e11 s9 _ z42 _ hm => ?_) (fun f10 _ ho => ?_) (fun r40 v H ho hr => ?_)
  · clear h41
    obtain ⟨t13, h13, hm⟩ := bnd hm
    refine sx_par2 (i := 6) (j := 7) _ hsc B rfl rfl (by decide) (by decide +kernel) (by decide +kernel) (by intro env he; cases env; cases he; first | rfl | kernel_rfl) (aq_x (φ := (dat (PyData.tuple (List.map PyData.int t13)))) (ex_idxL (enc := (eT PyData.int)) h13 (rdl_own 0 rfl) (ex_v (i := 4) (j := 4) B rfl rfl rfl) (ex_v (i := 5) (j := 5) B rfl rfl rfl)) (aq_n (n := ol (List.map (eP PyData.int (eT PyData.int)) ([] : (List (Int × (List Int)))))) (en_lst (ds := []) ax_nil) (fun q_found14 => aq_nil))) (fun v0 v1 os_ hr_ => ?_) (by rintro φs os_ ⟨_, rfl, q_found14, _, rfl, rfl, rfl⟩; exact ⟨_, _, rfl⟩)
    obtain ⟨_, e0, q_found14, _, e1, e8, e9⟩ := hr_
    cases e0; cases e1; cases e8; cases e9
    obtain ⟨t15, h15, hm⟩ := bnd hm
    obtain ⟨f18, h28, hm⟩ := bnd hm
    refine sx_for (c := anyOs) _ (fun (s16 : (List (Int × (List Int)))) (_ : Unit) => [sl (dat (PyData.int letters)), sl (own q_told), sl (dat (Kd.pd kTI (eM PyData.bool t4))), sl (own q_table7), sl (own q_order8), sl (dat (PyData.int s9.1)), sl (dat (PyData.tuple (List.map PyData.int t13))), sl (own q_found14), un, un, un, un, un]) (fun (s16 : (List (Int × (List Int)))) (_ : Unit) => (q_found14, ol (List.map (eP PyData.int (eT PyData.int)) s16)) :: (q_order8, ol (List.map (eT PyData.int) s9.2.1)) :: (q_table7, od kTI (eM (eL (eP PyData.int (eT PyData.int))) s9.2.2)) :: (q_told, ol (List.map (eT PyData.int) w_told)) :: os) B T (fun step17 => gx_name (i := 8) (vi := 8) (φ := (dat (PyData.int step17))) B T rfl rfl) ([] : (List (Int × (List Int)))) () f18 h28 (ix_list (enc := PyData.int) (c := anyOs) (ex_call (a := (letters, t13)) (b := t15) (gi := 1) (rest := (q_found14, ol (List.map (eP PyData.int (eT PyData.int)) ([] : (List (Int × (List Int)))))) :: (q_order8, ol (List.map (eT PyData.int) s9.2.1)) :: (q_table7, od kTI (eM (eL (eP PyData.int (eT PyData.int))) s9.2.2)) :: (q_told, ol (List.map (eT PyData.int) w_told)) :: os) B rfl c_p_steps_behind (by decide) h15 (ax_cons (ex_v (i := 0) (j := 0) B rfl rfl rfl) (ax_cons (ex_v (i := 6) (j := 6) B rfl rfl rfl) ax_nil))) (fun _ _ => rdl_dat) trivial) ⟨.inl rfl, .inl rfl, .inl rfl, .inl rfl, .inl rfl, .inl rfl, .inl rfl, .inl rfl, .inl rfl, .inl rfl, .inl rfl, .inl rfl, .inl rfl, trivial⟩ (fun _ _ => trivial) (fun F20 e19 s16 _ step17 z39 hx hm => ?_) (fun _ => ?_)
    · clear h28
      obtain ⟨t21, h21, hm⟩ := bnd hm
      refine sx_asg (i := 9) (vi := 9) (φ := (dat (PyData.tuple (List.map PyData.int t21)))) B T rfl rfl (ex_catT (enc := PyData.int) h21 (ex_v (i := 6) (j := 6) B rfl rfl rfl) (ex_tup (ds := [(PyData.int step17)]) (hl := len_ok (n := 1) rfl) (ax_cons (ex_v (i := 8) (j := 8) B rfl rfl rfl) ax_nil))) ?_
      obtain ⟨t24, h24, hm⟩ := bnd hm
      obtain ⟨s27, h_s27, hm⟩ := bnd hm
      refine sx_join [sl (dat (PyData.int letters)), sl (own q_told), sl (dat (Kd.pd kTI (eM PyData.bool t4))), sl (own q_table7), sl (own q_order8), sl (dat (PyData.int s9.1)), sl (dat (PyData.tuple (List.map PyData.int t13))), sl (own q_found14), sl (dat (PyData.int step17)), sl (dat (PyData.tuple (List.map PyData.int t21))), un, un, un] ((q_found14, ol (List.map (eP PyData.int (eT PyData.int)) s27)) :: (q_order8, ol (List.map (eT PyData.int) s9.2.1)) :: (q_table7, od kTI (eM (eL (eP PyData.int (eT PyData.int))) s9.2.2)) :: (q_told, ol (List.map (eT PyData.int) w_told)) :: os) (?_) (fun Q => ?_)
      · clear h_s27
        obtain rfl := som hm
        exact sx_nil fun σ H a => ⟨(), (a.weak ⟨.inl rfl, .inl rfl, .inl rfl, .inl rfl, .inl rfl, .inl rfl, .inl rfl, .inl rfl, .inr rfl, .inr rfl, .inl rfl, .inl rfl, .inl rfl, trivial⟩)⟩
      · have hm := h_s27
        refine sx_if (tx_not (tx_val (ex_fn (j := 2) B rfl g_any (by decide +kernel) (cr_any B.calm) (rc_any rdl_dat) (ax_cons (EN.ex (en_lc (lc_mk1 (j := 11) (vp := fun walk22 => (dat (PyData.tuple (List.map PyData.int walk22)))) (c := (fun o => o[3]? = some (q_told, ol (List.map (eT PyData.int) w_told)))) (enc := PyData.bool) (fun (_ : Unit) (walk22 : (List Int)) => some (some (decide ((cut t21 (some (-(walk22.length : Int))) none) = walk22)), ())) (fun (_ : Unit) (tl1 : Os) => (q_found14, ol (List.map (eP PyData.int (eT PyData.int)) s16)) :: (q_order8, ol (List.map (eT PyData.int) s9.2.1)) :: (q_table7, od kTI (eM (eL (eP PyData.int (eT PyData.int))) s9.2.2)) :: (q_told, ol (List.map (eT PyData.int) w_told)) :: tl1) () (t24) () B rfl rfl (by rw [B.hN, hsc]; decide +kernel) (by rw [hsc]; decide +kernel) (by decide) (lcT_ok h24) (ix_list (enc := (eT PyData.int)) (c := (fun o => o[3]? = some (q_told, ol (List.map (eT PyData.int) w_told)))) (ex_v (i := 1) (j := 1) B rfl rfl rfl) (fun _ h => rdl_own 3 h) rfl) (fun _ _ => rfl) (fun _ _ _ => ((List.Perm.cons _ ((List.Perm.cons _ ((List.Perm.cons _ (List.Perm.swap _ _ _)).trans (List.Perm.swap _ _ _))).trans (List.Perm.swap _ _ _))).trans (List.Perm.swap _ _ _))) (fun _ walk22 t tl1 hx hf => by (obtain rfl := som hf; exact ⟨true, _, fun X1 hX => by (have B1 := Bd.fam (W' := ["longer", "walk"]) (G' := ["len"]) B hX (by (try rw [hsc]); decide +kernel); have g_len' := fam_mg hX g_len; exact ⟨.nil, fun _ => ⟨_, rfl, (ex_eqR (e := (eT PyData.int)) (x := (cut t21 (some (-(walk22.length : Int))) none)) (y := walk22) B1 (eqv_tup eqv_int) (sh_tup sh_int) (by decide) rdx_dat rdx_dat (ex_cutT (enc := PyData.int) rdt_dat (ex_v (i := 9) (j := 0) B1 rfl rfl rfl) (px_some (ex_neg (EX.to (ex_fn (j := 0) B1 rfl g_len' (by decide +kernel) call_len_seq (rc_lenT (ds := List.map PyData.int walk22) rdt_dat) (ax_cons (ex_v (i := 11) (j := 1) B1 rfl rfl rfl) ax_nil)) (by rw [List.length_map])))) px_none) (ex_v (i := 11) (j := 1) B1 rfl rfl rfl))⟩, fun h => Bool.noConfusion h⟩)⟩))))) ax_nil)) (by intro _; rfl))) (fun hk => ?_) (fun hk => ?_)
        · have hm := ifT hm hk
          obtain ⟨t25, h25, hm⟩ := bnd hm
          obtain ⟨t26, h26, hm⟩ := bnd hm
          refine sx_expr (ex_app (enc := (eP PyData.int (eT PyData.int))) (j := 0) (xs0 := s16) (xs := s16) (y := (step17, t25)) h26 (ex_v (i := 7) (j := 7) B rfl rfl rfl) rfl (ex_tup (ds := [(PyData.int step17), (PyData.tuple (List.map PyData.int t25))]) (hl := len_ok (n := 2) rfl) (ax_cons (ex_v (i := 8) (j := 8) B rfl rfl rfl) (ax_cons (ex_call (a := (t21, t4)) (b := t25) (gi := 3) (rest := (q_found14, ol (List.map (eP PyData.int (eT PyData.int)) s16)) :: (q_order8, ol (List.map (eT PyData.int) s9.2.1)) :: (q_table7, od kTI (eM (eL (eP PyData.int (eT PyData.int))) s9.2.2)) :: (q_told, ol (List.map (eT PyData.int) w_told)) :: os) B rfl c_p_end_kept (by decide) h25 (ax_cons (ex_v (i := 9) (j := 9) B rfl rfl rfl) (ax_cons (ex_v (i := 2) (j := 2) B rfl rfl rfl) ax_nil))) ax_nil))) rfl) ?_
          obtain rfl := som hm
          exact sx_fall Q rfl
        · have hm := ifF hm hk
          obtain rfl := som hm
          exact sx_fall Q rfl
    · skip
      refine sx_frz (j := 0) (i := 7) rfl rfl ?_
      obtain ⟨t29, h29, hm⟩ := bnd hm
      refine sx_dput (kd := kTI) (enc := (eL (eP PyData.int (eT PyData.int)))) (w := s9.2.2) (x := f18) inj_kTI h29 B (ex_v (i := 7) (j := 7) B rfl rfl rfl) (ex_v (i := 3) (j := 3) B rfl rfl rfl) (EX.to (ex_v (i := 6) (j := 6) B rfl rfl rfl) (by first | exact ek_tI _ | rfl)) (wr_flat (f := (odT kTI (eL (eP PyData.int (eT PyData.int))))) (d := s9.2.2) 1 rfl) ?_
      obtain ⟨f32, h37, hm⟩ := bnd hm
      refine sx_for (c := anyOs) _ (fun (s30 : (List (List Int))) (_ : Unit) => [sl (dat (PyData.int letters)), sl (own q_told), sl (dat (Kd.pd kTI (eM PyData.bool t4))), sl (own q_table7), sl (own q_order8), sl (dat (PyData.int s9.1)), sl (dat (PyData.tuple (List.map PyData.int t13))), sl (dat (PyData.list (List.map (eP PyData.int (eT PyData.int)) f18))), un, un, un, un, un]) (fun (s30 : (List (List Int))) (_ : Unit) => (q_order8, ol (List.map (eT PyData.int) s30)) :: (q_table7, od kTI (eM (eL (eP PyData.int (eT PyData.int))) t29)) :: (q_told, ol (List.map (eT PyData.int) w_told)) :: os) B T (fun x31 => gx_pair B (gx_name (i := 8) (vi := 8) (φ := (dat (PyData.int x31.1))) B T rfl rfl) (gx_name (i := 10) (vi := 10) (φ := (dat (PyData.tuple (List.map PyData.int x31.2)))) B T rfl rfl)) s9.2.1 () f32 h37 (ix_list (enc := (eP PyData.int (eT PyData.int))) (c := anyOs) (ex_v (i := 7) (j := 7) B rfl rfl rfl) (fun _ _ => rdl_dat) trivial) ⟨.inl rfl, .inl rfl, .inl rfl, .inl rfl, .inl rfl, .inl rfl, .inl rfl, .inl rfl, .inl rfl, .inl rfl, .inl rfl, .inl rfl, .inl rfl, trivial⟩ (fun _ _ => trivial) (fun F34 e33 s30 _ x31 z38 hx hm => ?_) (fun _ => ?_)
      · clear h37
        obtain ⟨s36, h_s36, hm⟩ := bnd hm
        refine sx_join [sl (dat (PyData.int letters)), sl (own q_told), sl (dat (Kd.pd kTI (eM PyData.bool t4))), sl (own q_table7), sl (own q_order8), sl (dat (PyData.int s9.1)), sl (dat (PyData.tuple (List.map PyData.int t13))), sl (dat (PyData.list (List.map (eP PyData.int (eT PyData.int)) f18))), sl (dat (PyData.int x31.1)), un, sl (dat (PyData.tuple (List.map PyData.int x31.2))), un, un] ((q_order8, ol (List.map (eT PyData.int) s36)) :: (q_table7, od kTI (eM (eL (eP PyData.int (eT PyData.int))) t29)) :: (q_told, ol (List.map (eT PyData.int) w_told)) :: os) (?_) (fun Q => ?_)
        · clear h_s36
          obtain rfl := som hm
          exact sx_nil fun σ H a => ⟨(), (a.weak ⟨.inl rfl, .inl rfl, .inl rfl, .inl rfl, .inl rfl, .inl rfl, .inl rfl, .inl rfl, .inr rfl, .inl rfl, .inr rfl, .inl rfl, .inl rfl, trivial⟩)⟩
        · have hm := h_s36
          refine sx_if (WX.tx (wx_and (tx_dnotin (kd := kTI) (enc := (eL (eP PyData.int (eT PyData.int)))) (w := t29) (k := x31.2) inj_kTI B (rdd_own 1 rfl) (EX.to (ex_v (i := 10) (j := 10) B rfl rfl rfl) (by first | exact ek_tI _ | rfl)) (ex_v (i := 3) (j := 3) B rfl rfl rfl)) (fun _ => (wx_and1 (tx_ninD (e := (eT PyData.int)) (x := x31.2) (xs := s30) B (eqv_tup eqv_int) (sh_tup sh_int) (by decide) rdx_dat (rdx_own (ds := List.map (eT PyData.int) s30) 0 rfl) (by rfl) (ex_v (i := 10) (j := 10) B rfl rfl rfl) (ex_v (i := 4) (j := 4) B rfl rfl rfl)))) (fun _ => rfl) rfl)) (fun hk => ?_) (fun hk => ?_)
          · have hm := ifT hm hk
            obtain ⟨t35, h35, hm⟩ := bnd hm
            refine sx_expr (ex_app (enc := (eT PyData.int)) (j := 0) (xs0 := s30) (xs := s30) (y := x31.2) h35 (ex_v (i := 4) (j := 4) B rfl rfl rfl) rfl (ex_v (i := 10) (j := 10) B rfl rfl rfl) rfl) ?_
            obtain rfl := som hm
            exact sx_fall Q rfl
          · have hm := ifF hm hk
            obtain rfl := som hm
            exact sx_fall Q rfl
      · skip
        refine sx_addI (i := 5) (vi := 5) B T rfl rfl rfl ex_int ?_
        exact sx_nil fun σ H a => ⟨_, (), (som hm).symm, (a.weak ⟨.inl rfl, .inl rfl, .inl rfl, .inl rfl, .inl rfl, .inl rfl, .inr rfl, .inr rfl, .inl rfl, .inl rfl, .inl rfl, .inl rfl, .inl rfl, trivial⟩)⟩
  · cases ho
    have hm := elimR hm
    refine sx_frzF (j := 1) (i := 3) frb_od rfl rfl ?_
    obtain rfl := som hm
    exact sx_ret (ex_v (i := 3) (j := 3) B rfl rfl rfl) (fun F H v e o c => R.rt F H v e (o.drop) c)
  · cases ho
    have hm := elimL hm
    cases hm
theorem cal_p_machineO {P : Program} {w : World} {K : PySem.W.Frag} {mg : Str → Option Value} {base : Heap} {f : Addr} {fd : FuncData} (Fn : Fun K "machine" "machine" s_p_machineO f fd) (hmg : mg "machine" = some (.ref f)) (hb : Binds K fd ["letters", "told"] []) (g_range : mg "range" = none) (g_len : mg "len" = none) (c_p_steps_behind : Cal P w K mg base 2 "steps_behind" s_p_steps_behind ["letters", "walk"] (sp_p_steps_behind K)) (g_any : mg "any" = none) (c_p_end_kept : Cal P w K mg base 1 "end_kept" s_p_end_kept ["walk", "begins"] (sp_p_end_kept K)) : Cal P w K mg base 3 "machine" s_p_machineO ["letters", "told"] (sp_p_machineO K) := by
  obtain ⟨sts_, hst_⟩ : ∃ z_, defBody s_p_machineO = z_ := ⟨_, rfl⟩
  exact cal_ZQ (V := V_p_machineO) (Gs := G_p_machineO) (nl := 11) hst_ Fn sc_p_machineO (by decide +kernel) (by decide +kernel) hmg hb (fun _ => rfl) rfl fun _ _ _ _ _ _ _ a b F0 os D B T hm R => body_p_machineO rfl hst_ B T g_range g_len c_p_steps_behind g_any c_p_end_kept a.1 a.2.1 a.2.2 b F0 os D hm R
abbrev s_p_counts_by_length : Stmt := top 24
def N_p_counts_by_length : List Str := ["table", "length", "found", "turn", "here", "step", "goal"]
def V_p_counts_by_length : List Str := ["table", "length", "found", "turn"]
def G_p_counts_by_length : List Str := ["range"]
theorem sc_p_counts_by_length : FnScope N_p_counts_by_length ["table", "length"] (defScope s_p_counts_by_length) := ⟨rfl, rfl, rfl, by decide +kernel, rfl, by decide +kernel, by decide +kernel⟩
abbrev sp_p_counts_by_length (K : PySem.W.Frag) : Sp := spZ (α := ((List ((List Int) × (List (Int × (List Int))))) × Int)) (β := (List (List ((List Int) × Int)))) (fun a => [(dat (Kd.pd kTI (eM (eL (eP PyData.int (eT PyData.int))) a.1))), (dat (PyData.int a.2))]) (fun a => []) (fun a => m_p_counts_by_length a.1 a.2) (fun a b => (dat (PyData.list (List.map (eD kTI PyData.int) b)))) (fun a b => [])
set_option maxHeartbeats 4000000 in
theorem body_p_counts_by_length {X : Cx} (hsc : X.env.scope = defScope s_p_counts_by_length) {sts_ : List Stmt} (hst_ : defBody s_p_counts_by_length = sts_) (B : Bd X N_p_counts_by_length V_p_counts_by_length G_p_counts_by_length 0) (T : Bt X V_p_counts_by_length) (g_range : X.mg "range" = none) (g_sum : X.mg "sum" = none) (table : (List ((List Int) × (List (Int × (List Int)))))) (length : Int) (b : (List (List ((List Int) × Int)))) (F0 : Hp) (os : Os) (D : Ends) (hm : m_p_counts_by_length table length = some b) (R : RetZ F0 (os) (dat (PyData.list (List.map (eD kTI PyData.int) b))) D) :
    SX X [sl (dat (Kd.pd kTI (eM (eL (eP PyData.int (eT PyData.int))) table))), sl (dat (PyData.int length)), un, un, un, un, un] (os) F0 sts_ D := by
  subst hst_
  unfold m_p_counts_by_length at hm
  obtain ⟨z2, h3, hm⟩ := bnd hm
  obtain ⟨t4, h4, hm⟩ := bnd hm
  refine sx_asgN (i := 2) (vi := 2) (n := ol (List.map (eD kTI PyData.int) ([t4]))) B T rfl rfl (en_lst (ds := [(Kd.pd kTI (eM PyData.int t4))]) (hl := len_ok (n := 1) rfl) (ax_cons (EN.exF (en_dcT (enc := PyData.int) (m := (fun (here1 : (List Int)) => (some (some (here1, 1)) : Option (Option ((List Int) × Int))))) B inj_kTI (cp_mk1 (j := 4) (vp := fun here1 => (dat (PyData.tuple (List.map PyData.int here1)))) (c := anyOs) B rfl rfl (by rw [B.hN, hsc]; decide +kernel) (by rw [hsc]; decide +kernel) (lenO_ok h3) (ix_keysTI (enc := (eL (eP PyData.int (eT PyData.int)))) (w := table) (ex_v (i := 0) (j := 0) B rfl rfl rfl)) (fun _ => trivial)) (by decide) h4 (fun here1 t q1 hx hf => by (obtain rfl := som hf; exact ⟨true, fun X1 hX => by (have B1 := Bd.fam (W' := ["here"]) (G' := []) B hX (by (try rw [hsc]); decide +kernel); exact ⟨.nil, fun _ => ⟨_, rfl, (EX.to (ex_v (i := 4) (j := 0) B1 rfl rfl rfl) (by first | exact ek_tI _ | rfl)), ex_int⟩, fun h => Bool.noConfusion h⟩)⟩))) frb_od) ax_nil)) (fun q_found4 => ?_)
  obtain ⟨t5, h5, hm⟩ := bnd hm
  obtain ⟨f8, h22, hm⟩ := bnd hm
  refine sx_for (c := anyOs) _ (fun (s6 : (List (List ((List Int) × Int)))) (_ : Unit) => [sl (dat (Kd.pd kTI (eM (eL (eP PyData.int (eT PyData.int))) table))), sl (dat (PyData.int length)), sl (own q_found4), un, un, un, un]) (fun (s6 : (List (List ((List Int) × Int)))) (_ : Unit) => (q_found4, ol (List.map (eD kTI PyData.int) s6)) :: os) B T (fun turn7 => gx_name (i := 3) (vi := 3) (φ := (dat (PyData.int turn7))) B T rfl rfl) ([t4]) () f8 h22 (ix_rng1 (gi := 0) B rfl g_range h5 (ex_v (i := 1) (j := 1) B rfl rfl rfl)) ⟨.inl rfl, .inl rfl, .inl rfl, .inl rfl, .inl rfl, .inl rfl, .inl rfl, trivial⟩ (fun _ _ => trivial) (fun F10 e9 s6 _ turn7 z23 hx hm => ?_) (fun _ => ?_)
  · clear h22
    obtain ⟨z18, h19, hm⟩ := bnd hm
    obtain ⟨t20, h20, hm⟩ := bnd hm
    obtain ⟨t21, h21, hm⟩ := bnd hm
    refine sx_expr (ex_app (enc := (eD kTI PyData.int)) (j := 0) (xs0 := s6) (xs := s6) (y := t20) h21 (ex_v (i := 2) (j := 2) B rfl rfl rfl) rfl (EN.exF (en_dcT (enc := PyData.int) (m := (fun (here11 : (List Int)) => (((dGet table here11).bind fun t12 => (lcO (β := Int) (fun (x13 : (Int × (List Int))) => ((idx s6 (-1)).bind fun t15 => (dGet t15 x13.2).bind fun t16 => some t16)) t12).bind fun t17 => some (some (here11, t17.sum))) : Option (Option ((List Int) × Int))))) B inj_kTI (cp_mk1 (j := 4) (vp := fun here11 => (dat (PyData.tuple (List.map PyData.int here11)))) (c := anyOs) B rfl rfl (by rw [B.hN, hsc]; decide +kernel) (by rw [hsc]; decide +kernel) (lenO_ok h19) (ix_keysTI (enc := (eL (eP PyData.int (eT PyData.int)))) (w := table) (ex_v (i := 0) (j := 0) B rfl rfl rfl)) (fun _ => trivial)) (by decide) h20 (fun here11 t q1 hx hf => by (obtain ⟨t12, h12, hf⟩ := bnd hf; obtain ⟨t17, h17, hf⟩ := bnd hf; obtain rfl := som hf; exact ⟨true, fun X1 hX => by (have B1 := Bd.fam (W' := ["table", "found", "here"]) (G' := ["sum"]) B hX (by (try rw [hsc]); decide +kernel); have hsc' : X1.env.scope = _ := (fam_scope hX).trans (by rw [hsc]); have g_sum' := fam_mg hX g_sum; exact ⟨.nil, fun _ => ⟨_, rfl, (EX.to (ex_v (i := 4) (j := 2) B1 rfl rfl rfl) (by first | exact ek_tI _ | rfl)), (ex_fn (j := 0) B1 rfl g_sum' (by decide +kernel) (cr_sum B1.calm) (rc_sum rdl_dat) (ax_cons (EN.ex (en_lc (lc_mk2 (i := 5) (j := 6) (d1 := fun x13 => (PyData.int x13.1)) (d2 := fun x13 => (PyData.tuple (List.map PyData.int x13.2))) (c := anyOs) (enc := PyData.int) (fun (_ : Unit) (x13 : (Int × (List Int))) => ((fun (x13 : (Int × (List Int))) => ((idx s6 (-1)).bind fun t15 => (dGet t15 x13.2).bind fun t16 => some t16)) x13).map fun y => (some y, ())) (fun (_ : Unit) (tl2 : Os) => q1 :: (q_found4, ol (List.map (eD kTI PyData.int) s6)) :: tl2) () (t17) () B1 rfl rfl (by decide) rfl rfl (by rw [B1.hN, hsc']; decide +kernel) (by rw [hsc']; decide +kernel) (by rw [hsc']; decide +kernel) (by decide) (lcO_ok h17) (ix_list (enc := (eP PyData.int (eT PyData.int))) (c := anyOs) (ex_dget (kd := kTI) (enc := (eL (eP PyData.int (eT PyData.int)))) (w := table) inj_kTI h12 B1 rdd_dat (ex_v (i := 0) (j := 0) B1 rfl rfl rfl) (EX.to (ex_v (i := 4) (j := 2) B1 rfl rfl rfl) (by first | exact ek_tI _ | rfl))) (fun _ _ => rdl_dat) trivial) (fun _ _ => trivial) (fun _ _ _ => ((List.Perm.cons _ (List.Perm.swap _ _ _)).trans (List.Perm.swap _ _ _))) (fun _ x13 t tl2 hx hf => by (obtain ⟨y, hy, rfl⟩ := Option.map_eq_some_iff.mp hf; obtain ⟨t15, h15, hy⟩ := bnd hy; obtain ⟨t16, h16, hy⟩ := bnd hy; obtain rfl := som hy; exact ⟨true, _, fun X2 hX => by (have B2 := Bd.fam (W' := ["found", "goal"]) (G' := []) B1 hX (by (try rw [hsc']); decide +kernel); exact ⟨.nil, fun _ => ⟨_, rfl, (ex_dget (kd := kTI) (enc := PyData.int) (w := t15) inj_kTI h16 B2 rdd_dat (ex_idxL (enc := (eD kTI PyData.int)) h15 (rdl_own 1 rfl) (ex_v (i := 2) (j := 0) B2 rfl rfl rfl) (ex_neg ex_int)) (EX.to (ex_v (i := 6) (j := 1) B2 rfl rfl rfl) (by first | exact ek_tI _ | rfl)))⟩, fun h => Bool.noConfusion h⟩)⟩))))) ax_nil))⟩, fun h => Bool.noConfusion h⟩)⟩))) frb_od) rfl) ?_
    obtain rfl := som hm
    exact sx_nil fun σ H a => ⟨(), (a.weak ⟨.inl rfl, .inl rfl, .inl rfl, .inr rfl, .inl rfl, .inl rfl, .inl rfl, trivial⟩)⟩
  · skip
    refine sx_frz (j := 0) (i := 2) rfl rfl ?_
    obtain rfl := som hm
    exact sx_ret (ex_v (i := 2) (j := 2) B rfl rfl rfl) (fun F H v e o c => R.rt F H v e o c)
theorem cal_p_counts_by_length {P : Program} {w : World} {K : PySem.W.Frag} {mg : Str → Option Value} {base : Heap} {f : Addr} {fd : FuncData} (Fn : Fun K "counts_by_length" "counts_by_length" s_p_counts_by_length f fd) (hmg : mg "counts_by_length" = some (.ref f)) (hb : Binds K fd ["table", "length"] []) (g_range : mg "range" = none) (g_sum : mg "sum" = none) : Cal P w K mg base 1 "counts_by_length" s_p_counts_by_length ["table", "length"] (sp_p_counts_by_length K) := by
  obtain ⟨sts_, hst_⟩ : ∃ z_, defBody s_p_counts_by_length = z_ := ⟨_, rfl⟩
  exact cal_ZQ (V := V_p_counts_by_length) (Gs := G_p_counts_by_length) (nl := 5) hst_ Fn sc_p_counts_by_length (by decide +kernel) (by decide +kernel) hmg hb (fun _ => rfl) rfl fun _ _ _ _ _ _ _ a b F0 os D B T hm R => body_p_counts_by_length rfl hst_ B T g_range g_sum a.1 a.2 b F0 os D hm R
abbrev s_p_how_many_without : Stmt := top 25
def N_p_how_many_without : List Str := ["letters", "told", "length"]
def V_p_how_many_without : List Str := ["letters", "told", "length"]
def G_p_how_many_without : List Str := ["need_letters", "need_told", "need_number", "counts_by_length", "machine"]
theorem sc_p_how_many_without : FnScope N_p_how_many_without ["letters", "told", "length"] (defScope s_p_how_many_without) := ⟨rfl, rfl, rfl, by decide +kernel, rfl, by decide +kernel, by decide +kernel⟩
abbrev sp_p_how_many_without (K : PySem.W.Frag) : Sp := spZ (α := (Int × (List (List Int)) × Int)) (β := Int) (fun a => [(dat (PyData.int a.1)), (dat (PyData.list (List.map (eT PyData.int) a.2.1))), (dat (PyData.int a.2.2))]) (fun a => []) (fun a => m_p_how_many_without a.1 a.2.1 a.2.2) (fun a b => (dat (PyData.int b))) (fun a b => [])
set_option maxHeartbeats 4000000 in
theorem body_p_how_many_without {X : Cx} (hsc : X.env.scope = defScope s_p_how_many_without) {sts_ : List Stmt} (hst_ : defBody s_p_how_many_without = sts_) (B : Bd X N_p_how_many_without V_p_how_many_without G_p_how_many_without 4) (T : Bt X V_p_how_many_without) (c_p_need_letters : Cal X.prog X.w X.K X.mg X.base 3 "need_letters" s_p_need_letters ["letters"] (sp_p_need_letters X.K)) (c_p_need_told : Cal X.prog X.w X.K X.mg X.base 4 "need_told" s_p_need_told ["letters", "told"] (sp_p_need_told X.K)) (c_p_need_number : Cal X.prog X.w X.K X.mg X.base 1 "need_number" s_p_need_number ["number", "low", "high"] (sp_p_need_number X.K)) (c_p_counts_by_length : Cal X.prog X.w X.K X.mg X.base 1 "counts_by_length" s_p_counts_by_length ["table", "length"] (sp_p_counts_by_length X.K)) (c_p_machine : Cal X.prog X.w X.K X.mg X.base 3 "machine" s_p_machine ["letters", "told"] (sp_p_machine X.K)) (letters : Int) (told : (List (List Int))) (length : Int) (b : Int) (F0 : Hp) (os : Os) (D : Ends) (hm : m_p_how_many_without letters told length = some b) (R : RetZ F0 (os) (dat (PyData.int b)) D) :
    SX X [sl (dat (PyData.int letters)), sl (dat (PyData.list (List.map (eT PyData.int) told))), sl (dat (PyData.int length))] (os) F0 sts_ D := by
  subst hst_
  unfold m_p_how_many_without at hm
  obtain ⟨t1, h1, hm⟩ := bnd hm
  refine sx_expr (ex_call (a := letters) (b := t1) (gi := 0) (rest := os) B rfl c_p_need_letters (by decide) h1 (ax_cons (ex_v (i := 0) (j := 0) B rfl rfl rfl) ax_nil)) ?_
  obtain ⟨t2, h2, hm⟩ := bnd hm
  refine sx_expr (ex_call (a := (letters, told)) (b := t2) (gi := 1) (rest := os) B rfl c_p_need_told (by decide) h2 (ax_cons (ex_v (i := 0) (j := 0) B rfl rfl rfl) (ax_cons (ex_v (i := 1) (j := 1) B rfl rfl rfl) ax_nil))) ?_
  obtain ⟨t3, h3, hm⟩ := bnd hm
  refine sx_expr (ex_call (a := (length, 0, ())) (b := t3) (gi := 2) (rest := os) B rfl c_p_need_number (by decide) h3 (ax_cons (ex_v (i := 2) (j := 2) B rfl rfl rfl) (ax_cons ex_int (ax_cons ex_none ax_nil)))) ?_
  obtain ⟨t4, h4, hm⟩ := bnd hm
  obtain ⟨t5, h5, hm⟩ := bnd hm
  obtain ⟨t6, h6, hm⟩ := bnd hm
  obtain ⟨t7, h7, hm⟩ := bnd hm
  obtain rfl := som hm
  exact sx_ret (ex_dget (kd := kTI) (enc := PyData.int) (w := t6) inj_kTI h7 B rdd_dat (ex_idxL (enc := (eD kTI PyData.int)) h6 rdl_dat (ex_call (a := (t4, length)) (b := t5) (gi := 3) (rest := os) B rfl c_p_counts_by_length (by decide) h5 (ax_cons (ex_call (a := (letters, told)) (b := t4) (gi := 4) (rest := os) B rfl c_p_machine (by decide) h4 (ax_cons (ex_v (i := 0) (j := 0) B rfl rfl rfl) (ax_cons (ex_v (i := 1) (j := 1) B rfl rfl rfl) ax_nil))) (ax_cons (ex_v (i := 2) (j := 2) B rfl rfl rfl) ax_nil))) (ex_v (i := 2) (j := 2) B rfl rfl rfl)) (EX.to (ex_tup (ds := []) ax_nil) (by first | exact ek_tI _ | rfl))) (fun F H v e o c => R.rt F H v e o c)
theorem cal_p_how_many_without {P : Program} {w : World} {K : PySem.W.Frag} {mg : Str → Option Value} {base : Heap} {f : Addr} {fd : FuncData} (Fn : Fun K "how_many_without" "how_many_without" s_p_how_many_without f fd) (hmg : mg "how_many_without" = some (.ref f)) (hb : Binds K fd ["letters", "told", "length"] []) (c_p_need_letters : Cal P w K mg base 3 "need_letters" s_p_need_letters ["letters"] (sp_p_need_letters K)) (c_p_need_told : Cal P w K mg base 4 "need_told" s_p_need_told ["letters", "told"] (sp_p_need_told K)) (c_p_need_number : Cal P w K mg base 1 "need_number" s_p_need_number ["number", "low", "high"] (sp_p_need_number K)) (c_p_counts_by_length : Cal P w K mg base 1 "counts_by_length" s_p_counts_by_length ["table", "length"] (sp_p_counts_by_length K)) (c_p_machine : Cal P w K mg base 3 "machine" s_p_machine ["letters", "told"] (sp_p_machine K)) : Cal P w K mg base 5 "how_many_without" s_p_how_many_without ["letters", "told", "length"] (sp_p_how_many_without K) := by
  obtain ⟨sts_, hst_⟩ : ∃ z_, defBody s_p_how_many_without = z_ := ⟨_, rfl⟩
  exact cal_ZQ (V := V_p_how_many_without) (Gs := G_p_how_many_without) (nl := 0) hst_ Fn sc_p_how_many_without (by decide +kernel) (by decide +kernel) hmg hb (fun _ => rfl) rfl fun _ _ _ _ _ _ _ a b F0 os D B T hm R => body_p_how_many_without rfl hst_ B T c_p_need_letters c_p_need_told c_p_need_number c_p_counts_by_length c_p_machine a.1 a.2.1 a.2.2 b F0 os D hm R
abbrev s_p_how_many_withoutO : Stmt := top 25
def N_p_how_many_withoutO : List Str := ["letters", "told", "length"]
def V_p_how_many_withoutO : List Str := ["letters", "told", "length"]
def G_p_how_many_withoutO : List Str := ["need_letters", "need_told", "need_number", "counts_by_length", "machine"]
theorem sc_p_how_many_withoutO : FnScope N_p_how_many_withoutO ["letters", "told", "length"] (defScope s_p_how_many_withoutO) := ⟨rfl, rfl, rfl, by decide +kernel, rfl, by decide +kernel, by decide +kernel⟩
abbrev sp_p_how_many_withoutO (K : PySem.W.Frag) : Sp := spZ (α := (Int × Addr × (List (List Int)) × Int)) (β := (Int × (List (List Int)))) (fun a => [(dat (PyData.int a.1)), own a.2.1, (dat (PyData.int a.2.2.2))]) (fun a => (a.2.1, ol (List.map (eT PyData.int) a.2.2.1)) :: []) (fun a => m_p_how_many_withoutO a.1 a.2.2.1 a.2.2.2) (fun a b => (dat (PyData.int b.1))) (fun a b => (a.2.1, ol (List.map (eT PyData.int) b.2)) :: [])
set_option maxHeartbeats 4000000 in
theorem body_p_how_many_withoutO {X : Cx} (hsc : X.env.scope = defScope s_p_how_many_withoutO) {sts_ : List Stmt} (hst_ : defBody s_p_how_many_withoutO = sts_) (B : Bd X N_p_how_many_withoutO V_p_how_many_withoutO G_p_how_many_withoutO 4) (T : Bt X V_p_how_many_withoutO) (c_p_need_letters : Cal X.prog X.w X.K X.mg X.base 3 "need_letters" s_p_need_letters ["letters"] (sp_p_need_letters X.K)) (c_p_need_toldO : Cal X.prog X.w X.K X.mg X.base 4 "need_told" s_p_need_toldO ["letters", "told"] (sp_p_need_toldO X.K)) (c_p_need_number : Cal X.prog X.w X.K X.mg X.base 1 "need_number" s_p_need_number ["number", "low", "high"] (sp_p_need_number X.K)) (c_p_counts_by_length : Cal X.prog X.w X.K X.mg X.base 1 "counts_by_length" s_p_counts_by_length ["table", "length"] (sp_p_counts_by_length X.K)) (c_p_machineO : Cal X.prog X.w X.K X.mg X.base 3 "machine" s_p_machineO ["letters", "told"] (sp_p_machineO X.K)) (letters : Int) (q_told : Addr) (w_told : (List (List Int))) (length : Int) (b : (Int × (List (List Int)))) (F0 : Hp) (os : Os) (D : Ends) (hm : m_p_how_many_withoutO letters w_told length = some b) (R : RetZ F0 ((q_told, ol (List.map (eT PyData.int) b.2)) :: os) (dat (PyData.int b.1)) D) :
    SX X [sl (dat (PyData.int letters)), sl (own q_told), sl (dat (PyData.int length))] ((q_told, ol (List.map (eT PyData.int) w_told)) :: os) F0 sts_ D := by
  subst hst_
  unfold m_p_how_many_withoutO at hm
  obtain ⟨t1, h1, hm⟩ := bnd hm
  refine sx_expr (ex_call (a := letters) (b := t1) (gi := 0) (rest := (q_told, ol (List.map (eT PyData.int) w_told)) :: os) B rfl c_p_need_letters (by decide) h1 (ax_cons (ex_v (i := 0) (j := 0) B rfl rfl rfl) ax_nil)) ?_
  obtain ⟨t2, h2, hm⟩ := bnd hm
  refine sx_expr (ex_call (a := (letters, q_told, w_told)) (b := t2) (gi := 1) (rest := os) B rfl c_p_need_toldO (by decide) h2 (ax_cons (ex_v (i := 0) (j := 0) B rfl rfl rfl) (ax_cons (ex_v (i := 1) (j := 1) B rfl rfl rfl) ax_nil))) ?_
  obtain ⟨t3, h3, hm⟩ := bnd hm
  refine sx_expr (ex_call (a := (length, 0, ())) (b := t3) (gi := 2) (rest := (q_told, ol (List.map (eT PyData.int) t2.2)) :: os) B rfl c_p_need_number (by decide) h3 (ax_cons (ex_v (i := 2) (j := 2) B rfl rfl rfl) (ax_cons ex_int (ax_cons ex_none ax_nil)))) ?_
  obtain ⟨t4, h4, hm⟩ := bnd hm
  obtain ⟨t5, h5, hm⟩ := bnd hm
  obtain ⟨t6, h6, hm⟩ := bnd hm
  obtain ⟨t7, h7, hm⟩ := bnd hm
  obtain rfl := som hm
  exact sx_ret (ex_dget (kd := kTI) (enc := PyData.int) (w := t6) inj_kTI h7 B rdd_dat (ex_idxL (enc := (eD kTI PyData.int)) h6 rdl_dat (ex_call (a := (t4.1, length)) (b := t5) (gi := 3) (rest := (q_told, ol (List.map (eT PyData.int) t4.2)) :: os) B rfl c_p_counts_by_length (by decide) h5 (ax_cons (ex_call (a := (letters, q_told, t2.2)) (b := t4) (gi := 4) (rest := os) B rfl c_p_machineO (by decide) h4 (ax_cons (ex_v (i := 0) (j := 0) B rfl rfl rfl) (ax_cons (ex_v (i := 1) (j := 1) B rfl rfl rfl) ax_nil))) (ax_cons (ex_v (i := 2) (j := 2) B rfl rfl rfl) ax_nil))) (ex_v (i := 2) (j := 2) B rfl rfl rfl)) (EX.to (ex_tup (ds := []) ax_nil) (by first | exact ek_tI _ | rfl))) (fun F H v e o c => R.rt F H v e o c)
theorem cal_p_how_many_withoutO {P : Program} {w : World} {K : PySem.W.Frag} {mg : Str → Option Value} {base : Heap} {f : Addr} {fd : FuncData} (Fn : Fun K "how_many_without" "how_many_without" s_p_how_many_withoutO f fd) (hmg : mg "how_many_without" = some (.ref f)) (hb : Binds K fd ["letters", "told", "length"] []) (c_p_need_letters : Cal P w K mg base 3 "need_letters" s_p_need_letters ["letters"] (sp_p_need_letters K)) (c_p_need_toldO : Cal P w K mg base 4 "need_told" s_p_need_toldO ["letters", "told"] (sp_p_need_toldO K)) (c_p_need_number : Cal P w K mg base 1 "need_number" s_p_need_number ["number", "low", "high"] (sp_p_need_number K)) (c_p_counts_by_length : Cal P w K mg base 1 "counts_by_length" s_p_counts_by_length ["table", "length"] (sp_p_counts_by_length K)) (c_p_machineO : Cal P w K mg base 3 "machine" s_p_machineO ["letters", "told"] (sp_p_machineO K)) : Cal P w K mg base 5 "how_many_without" s_p_how_many_withoutO ["letters", "told", "length"] (sp_p_how_many_withoutO K) := by
  obtain ⟨sts_, hst_⟩ : ∃ z_, defBody s_p_how_many_withoutO = z_ := ⟨_, rfl⟩
  exact cal_ZQ (V := V_p_how_many_withoutO) (Gs := G_p_how_many_withoutO) (nl := 0) hst_ Fn sc_p_how_many_withoutO (by decide +kernel) (by decide +kernel) hmg hb (fun _ => rfl) rfl fun _ _ _ _ _ _ _ a b F0 os D B T hm R => body_p_how_many_withoutO rfl hst_ B T c_p_need_letters c_p_need_toldO c_p_need_number c_p_counts_by_length c_p_machineO a.1 a.2.1 a.2.2.1 a.2.2.2 b F0 os D hm R
abbrev s_p_first_without : Stmt := top 26
def N_p_first_without : List Str := ["letters", "told", "length", "table", "counts", "here", "found", "left", "step", "goal"]
def V_p_first_without : List Str := ["letters", "told", "length", "table", "counts", "here", "found", "left", "step"]
def G_p_first_without : List Str := ["need_letters", "need_told", "need_number", "machine", "counts_by_length", "range"]
theorem sc_p_first_without : FnScope N_p_first_without ["letters", "told", "length"] (defScope s_p_first_without) := ⟨rfl, rfl, rfl, by decide +kernel, rfl, by decide +kernel, by decide +kernel⟩
abbrev sp_p_first_without (K : PySem.W.Frag) : Sp := spZ (α := (Int × (List (List Int)) × Int)) (β := (Option (List Int))) (fun a => [(dat (PyData.int a.1)), (dat (PyData.list (List.map (eT PyData.int) a.2.1))), (dat (PyData.int a.2.2))]) (fun a => []) (fun a => m_p_first_without a.1 a.2.1 a.2.2) (fun a b => (dat ((eO (eT PyData.int)) b))) (fun a b => [])
set_option maxHeartbeats 4000000 in
theorem body_p_first_without {X : Cx} (hsc : X.env.scope = defScope s_p_first_without) {sts_ : List Stmt} (hst_ : defBody s_p_first_without = sts_) (B : Bd X N_p_first_without V_p_first_without G_p_first_without 4) (T : Bt X V_p_first_without) (c_p_need_letters : Cal X.prog X.w X.K X.mg X.base 3 "need_letters" s_p_need_letters ["letters"] (sp_p_need_letters X.K)) (c_p_need_told : Cal X.prog X.w X.K X.mg X.base 4 "need_told" s_p_need_told ["letters", "told"] (sp_p_need_told X.K)) (c_p_need_number : Cal X.prog X.w X.K X.mg X.base 1 "need_number" s_p_need_number ["number", "low", "high"] (sp_p_need_number X.K)) (c_p_machine : Cal X.prog X.w X.K X.mg X.base 3 "machine" s_p_machine ["letters", "told"] (sp_p_machine X.K)) (c_p_counts_by_length : Cal X.prog X.w X.K X.mg X.base 1 "counts_by_length" s_p_counts_by_length ["table", "length"] (sp_p_counts_by_length X.K)) (g_range : X.mg "range" = none) (letters : Int) (told : (List (List Int))) (length : Int) (b : (Option (List Int))) (F0 : Hp) (os : Os) (D : Ends) (hm : m_p_first_without letters told length = some b) (R : RetZ F0 (os) (dat ((eO (eT PyData.int)) b)) D) :
    SX X [sl (dat (PyData.int letters)), sl (dat (PyData.list (List.map (eT PyData.int) told))), sl (dat (PyData.int length)), un, un, un, un, un, un, un] (os) F0 sts_ D := by
  subst hst_
  unfold m_p_first_without at hm
  obtain ⟨t1, h1, hm⟩ := bnd hm
  refine sx_expr (ex_call (a := letters) (b := t1) (gi := 0) (rest := os) B rfl c_p_need_letters (by decide) h1 (ax_cons (ex_v (i := 0) (j := 0) B rfl rfl rfl) ax_nil)) ?_
  obtain ⟨t2, h2, hm⟩ := bnd hm
  refine sx_expr (ex_call (a := (letters, told)) (b := t2) (gi := 1) (rest := os) B rfl c_p_need_told (by decide) h2 (ax_cons (ex_v (i := 0) (j := 0) B rfl rfl rfl) (ax_cons (ex_v (i := 1) (j := 1) B rfl rfl rfl) ax_nil))) ?_
  obtain ⟨t3, h3, hm⟩ := bnd hm
  refine sx_expr (ex_call (a := (length, 0, ())) (b := t3) (gi := 2) (rest := os) B rfl c_p_need_number (by decide) h3 (ax_cons (ex_v (i := 2) (j := 2) B rfl rfl rfl) (ax_cons ex_int (ax_cons ex_none ax_nil)))) ?_
  obtain ⟨t4, h4, hm⟩ := bnd hm
  refine sx_asg (i := 3) (vi := 3) (φ := (dat (Kd.pd kTI (eM (eL (eP PyData.int (eT PyData.int))) t4)))) B T rfl rfl (ex_call (a := (letters, told)) (b := t4) (gi := 3) (rest := os) B rfl c_p_machine (by decide) h4 (ax_cons (ex_v (i := 0) (j := 0) B rfl rfl rfl) (ax_cons (ex_v (i := 1) (j := 1) B rfl rfl rfl) ax_nil))) ?_
  obtain ⟨t5, h5, hm⟩ := bnd hm
  refine sx_mk3 (i := 4) (j := 5) (l := 6) (vi := 4) (gi := 5) (m := 6) _ hsc B T rfl rfl rfl rfl rfl rfl (by intro env he; cases env; cases he; first | rfl | kernel_rfl) (aq_x (φ := (dat (PyData.list (List.map (eD kTI PyData.int) t5)))) (ex_call (a := (t4, length)) (b := t5) (gi := 4) (rest := os) B rfl c_p_counts_by_length (by decide) h5 (ax_cons (ex_v (i := 3) (j := 3) B rfl rfl rfl) (ax_cons (ex_v (i := 2) (j := 2) B rfl rfl rfl) ax_nil))) (aq_x (φ := (dat (PyData.tuple (List.map PyData.int ([] : (List Int)))))) (ex_tup (ds := []) ax_nil) (aq_x (φ := (dat (PyData.tuple (List.map PyData.int ([] : (List Int)))))) (ex_tup (ds := []) ax_nil) aq_nil))) (fun v0 v1 v2 os_ hr_ => ?_) (by rintro φs os_ ⟨_, rfl, _, rfl, _, rfl, rfl, rfl⟩; exact ⟨_, _, _, rfl⟩)
  obtain ⟨_, e0, _, e1, _, e2, e8, e9⟩ := hr_
  cases e0; cases e1; cases e2; cases e8; cases e9
  obtain ⟨t6, h6, hm⟩ := bnd hm
  obtain ⟨t7, h7, hm⟩ := bnd hm
  refine sx_if (tx_cmp op_eq r2_eqI (nomark _) (ex_dget (kd := kTI) (enc := PyData.int) (w := t6) inj_kTI h7 B rdd_dat (ex_idxL (enc := (eD kTI PyData.int)) h6 rdl_dat (ex_v (i := 4) (j := 4) B rfl rfl rfl) (ex_v (i := 2) (j := 2) B rfl rfl rfl)) (EX.to (ex_v (i := 5) (j := 5) B rfl rfl rfl) (by first | exact ek_tI _ | rfl))) ex_int) (fun hk => ?_) (fun hk => ?_)
  · have hm := ifT hm hk
    obtain rfl := som hm
    exact sx_ret ex_none (fun F H v e o c => R.rt F H v e o c)
  · have hm := ifF hm hk
    refine sx_fall ?_ rfl
    obtain ⟨t8, h8, hm⟩ := bnd hm
    obtain ⟨f11, h22, hm⟩ := bnd hm
    refine sx_for (c := anyOs) _ (fun (s9 : ((List Int) × (List Int))) (_ : Unit) => [sl (dat (PyData.int letters)), sl (dat (PyData.list (List.map (eT PyData.int) told))), sl (dat (PyData.int length)), sl (dat (Kd.pd kTI (eM (eL (eP PyData.int (eT PyData.int))) t4))), sl (dat (PyData.list (List.map (eD kTI PyData.int) t5))), sl (dat (PyData.tuple (List.map PyData.int s9.1))), sl (dat (PyData.tuple (List.map PyData.int s9.2))), un, un, un]) (fun (s9 : ((List Int) × (List Int))) (_ : Unit) => os) B T (fun left10 => gx_name (i := 7) (vi := 7) (φ := (dat (PyData.int left10))) B T rfl rfl) (([] : (List Int)), ([] : (List Int))) () f11 h22 (ix_rngD (gi := 5) B rfl g_range h8 (ex_sub (ex_v (i := 2) (j := 2) B rfl rfl rfl) ex_int) (ex_neg ex_int) (ex_neg ex_int)) ⟨.inl rfl, .inl rfl, .inl rfl, .inl rfl, .inl rfl, .inl rfl, .inl rfl, .inl rfl, .inl rfl, .inl rfl, trivial⟩ (fun _ _ => trivial) (fun F13 e12 s9 _ left10 z23 hx hm => ?_) (fun _ => ?_)
    · clear h22
      obtain ⟨t14, h14, hm⟩ := bnd hm
      obtain ⟨t19, h19, hm⟩ := bnd hm
      obtain ⟨t20, h20, hm⟩ := bnd hm
      refine sx_unp (gx_pair B (gx_name (i := 8) (vi := 8) B T rfl rfl) (gx_name (i := 5) (vi := 5) B T rfl rfl)) (ex_idxL (enc := (eP PyData.int (eT PyData.int))) h20 rdl_dat (EN.ex (en_lc (lc_mk2 (i := 8) (j := 9) (d1 := fun x15 => (PyData.int x15.1)) (d2 := fun x15 => (PyData.tuple (List.map PyData.int x15.2))) (c := anyOs) (enc := (eP PyData.int (eT PyData.int))) (fun (_ : Unit) (x15 : (Int × (List Int))) => ((fun (x15 : (Int × (List Int))) => ((idx t5 left10).bind fun t17 => (dGet t17 x15.2).bind fun t18 => if (decide (0 < t18)) = true then some (some (x15.1, x15.2)) else some none)) x15).map fun y => (y, ())) (fun (_ : Unit) (tl1 : Os) => tl1) () (t19) () B rfl rfl (by decide) rfl rfl (by rw [B.hN, hsc]; decide +kernel) (by rw [hsc]; decide +kernel) (by rw [hsc]; decide +kernel) (by decide) (lcG_ok h19) (ix_list (enc := (eP PyData.int (eT PyData.int))) (c := anyOs) (ex_dget (kd := kTI) (enc := (eL (eP PyData.int (eT PyData.int)))) (w := t4) inj_kTI h14 B rdd_dat (ex_v (i := 3) (j := 3) B rfl rfl rfl) (EX.to (ex_v (i := 5) (j := 5) B rfl rfl rfl) (by first | exact ek_tI _ | rfl))) (fun _ _ => rdl_dat) trivial) (fun _ _ => trivial) (fun _ _ _ => List.Perm.refl _) (fun _ x15 t tl1 hx hf => by (obtain ⟨y, hy, rfl⟩ := Option.map_eq_some_iff.mp hf; obtain ⟨t17, h17, hy⟩ := bnd hy; obtain ⟨t18, h18, hy⟩ := bnd hy; cases hc : (decide (0 < t18)) with | true => (have hy := ifT hy hc; obtain rfl := som hy; exact ⟨true, _, fun X1 hX => by (have B1 := Bd.fam (W' := ["counts", "left", "step", "goal"]) (G' := []) B hX (by (try rw [hsc]); decide +kernel); exact ⟨.one (TX.to (tx_cmp op_gt r2_gt (nomark _) (ex_dget (kd := kTI) (enc := PyData.int) (w := t17) inj_kTI h18 B1 rdd_dat (ex_idxL (enc := (eD kTI PyData.int)) h17 rdl_dat (ex_v (i := 4) (j := 0) B1 rfl rfl rfl) (ex_v (i := 7) (j := 1) B1 rfl rfl rfl)) (EX.to (ex_v (i := 9) (j := 3) B1 rfl rfl rfl) (by first | exact ek_tI _ | rfl))) ex_int) hc), fun _ => ⟨_, rfl, (ex_tup (ds := [(PyData.int x15.1), (PyData.tuple (List.map PyData.int x15.2))]) (hl := len_ok (n := 2) rfl) (ax_cons (ex_v (i := 8) (j := 2) B1 rfl rfl rfl) (ax_cons (ex_v (i := 9) (j := 3) B1 rfl rfl rfl) ax_nil)))⟩, fun h => Bool.noConfusion h⟩)⟩) | false => (have hy := ifF hy hc; obtain rfl := som hy; exact ⟨false, _, fun X1 hX => by (have B1 := Bd.fam (W' := ["counts", "left", "step", "goal"]) (G' := []) B hX (by (try rw [hsc]); decide +kernel); exact ⟨.one (TX.to (tx_cmp op_gt r2_gt (nomark _) (ex_dget (kd := kTI) (enc := PyData.int) (w := t17) inj_kTI h18 B1 rdd_dat (ex_idxL (enc := (eD kTI PyData.int)) h17 rdl_dat (ex_v (i := 4) (j := 0) B1 rfl rfl rfl) (ex_v (i := 7) (j := 1) B1 rfl rfl rfl)) (EX.to (ex_v (i := 9) (j := 3) B1 rfl rfl rfl) (by first | exact ek_tI _ | rfl))) ex_int) hc), fun h => Bool.noConfusion h, fun _ => ⟨rfl, rfl⟩⟩)⟩)))))) ex_int) ?_
      obtain ⟨t21, h21, hm⟩ := bnd hm
      refine sx_asg (i := 6) (vi := 6) (φ := (dat (PyData.tuple (List.map PyData.int t21)))) B T rfl rfl (ex_catT (enc := PyData.int) h21 (ex_v (i := 6) (j := 6) B rfl rfl rfl) (ex_tup (ds := [(PyData.int t20.1)]) (hl := len_ok (n := 1) rfl) (ax_cons (ex_v (i := 8) (j := 8) B rfl rfl rfl) ax_nil))) ?_
      obtain rfl := som hm
      exact sx_nil fun σ H a => ⟨(), (a.weak ⟨.inl rfl, .inl rfl, .inl rfl, .inl rfl, .inl rfl, .inl rfl, .inl rfl, .inr rfl, .inr rfl, .inl rfl, trivial⟩)⟩
    · skip
      obtain rfl := som hm
      exact sx_ret (ex_v (i := 6) (j := 6) B rfl rfl rfl) (fun F H v e o c => R.rt F H v e o c)
theorem cal_p_first_without {P : Program} {w : World} {K : PySem.W.Frag} {mg : Str → Option Value} {base : Heap} {f : Addr} {fd : FuncData} (Fn : Fun K "first_without" "first_without" s_p_first_without f fd) (hmg : mg "first_without" = some (.ref f)) (hb : Binds K fd ["letters", "told", "length"] []) (c_p_need_letters : Cal P w K mg base 3 "need_letters" s_p_need_letters ["letters"] (sp_p_need_letters K)) (c_p_need_told : Cal P w K mg base 4 "need_told" s_p_need_told ["letters", "told"] (sp_p_need_told K)) (c_p_need_number : Cal P w K mg base 1 "need_number" s_p_need_number ["number", "low", "high"] (sp_p_need_number K)) (c_p_machine : Cal P w K mg base 3 "machine" s_p_machine ["letters", "told"] (sp_p_machine K)) (c_p_counts_by_length : Cal P w K mg base 1 "counts_by_length" s_p_counts_by_length ["table", "length"] (sp_p_counts_by_length K)) (g_range : mg "range" = none) : Cal P w K mg base 5 "first_without" s_p_first_without ["letters", "told", "length"] (sp_p_first_without K) := by
  obtain ⟨sts_, hst_⟩ : ∃ z_, defBody s_p_first_without = z_ := ⟨_, rfl⟩
  exact cal_ZQ (V := V_p_first_without) (Gs := G_p_first_without) (nl := 7) hst_ Fn sc_p_first_without (by decide +kernel) (by decide +kernel) hmg hb (fun _ => rfl) rfl fun _ _ _ _ _ _ _ a b F0 os D B T hm R => body_p_first_without rfl hst_ B T c_p_need_letters c_p_need_told c_p_need_number c_p_machine c_p_counts_by_length g_range a.1 a.2.1 a.2.2 b F0 os D hm R
abbrev s_p_first_withoutO : Stmt := top 26
def N_p_first_withoutO : List Str := ["letters", "told", "length", "table", "counts", "here", "found", "left", "step", "goal"]
def V_p_first_withoutO : List Str := ["letters", "told", "length", "table", "counts", "here", "found", "left", "step"]
def G_p_first_withoutO : List Str := ["need_letters", "need_told", "need_number", "machine", "counts_by_length", "range"]
theorem sc_p_first_withoutO : FnScope N_p_first_withoutO ["letters", "told", "length"] (defScope s_p_first_withoutO) := ⟨rfl, rfl, rfl, by decide +kernel, rfl, by decide +kernel, by decide +kernel⟩
abbrev sp_p_first_withoutO (K : PySem.W.Frag) : Sp := spZ (α := (Int × Addr × (List (List Int)) × Int)) (β := ((Option (List Int)) × (List (List Int)))) (fun a => [(dat (PyData.int a.1)), own a.2.1, (dat (PyData.int a.2.2.2))]) (fun a => (a.2.1, ol (List.map (eT PyData.int) a.2.2.1)) :: []) (fun a => m_p_first_withoutO a.1 a.2.2.1 a.2.2.2) (fun a b => (dat ((eO (eT PyData.int)) b.1))) (fun a b => (a.2.1, ol (List.map (eT PyData.int) b.2)) :: [])
set_option maxHeartbeats 4000000 in
theorem body_p_first_withoutO {X : Cx} (hsc : X.env.scope = defScope s_p_first_withoutO) {sts_ : List Stmt} (hst_ : defBody s_p_first_withoutO = sts_) (B : Bd X N_p_first_withoutO V_p_first_withoutO G_p_first_withoutO 4) (T : Bt X V_p_first_withoutO) (c_p_need_letters : Cal X.prog X.w X.K X.mg X.base 3 "need_letters" s_p_need_letters ["letters"] (sp_p_need_letters X.K)) (c_p_need_toldO : Cal X.prog X.w X.K X.mg X.base 4 "need_told" s_p_need_toldO ["letters", "told"] (sp_p_need_toldO X.K)) (c_p_need_number : Cal X.prog X.w X.K X.mg X.base 1 "need_number" s_p_need_number ["number", "low", "high"] (sp_p_need_number X.K)) (c_p_machineO : Cal X.prog X.w X.K X.mg X.base 3 "machine" s_p_machineO ["letters", "told"] (sp_p_machineO X.K)) (c_p_counts_by_length : Cal X.prog X.w X.K X.mg X.base 1 "counts_by_length" s_p_counts_by_length ["table", "length"] (sp_p_counts_by_length X.K)) (g_range : X.mg "range" = none) (letters : Int) (q_told : Addr) (w_told : (List (List Int))) (length : Int) (b : ((Option (List Int)) × (List (List Int)))) (F0 : Hp) (os : Os) (D : Ends) (hm : m_p_first_withoutO letters w_told length = some b) (R : RetZ F0 ((q_told, ol (List.map (eT PyData.int) b.2)) :: os) (dat ((eO (eT PyData.int)) b.1)) D) :
    SX X [sl (dat (PyData.int letters)), sl (own q_told), sl (dat (PyData.int length)), un, un, un, un, un, un, un] ((q_told, ol (List.map (eT PyData.int) w_told)) :: os) F0 sts_ D := by
  subst hst_
  unfold m_p_first_withoutO at hm
  obtain ⟨t1, h1, hm⟩ := bnd hm
  refine sx_expr (ex_call (a := letters) (b := t1) (gi := 0) (rest := (q_told, ol (List.map (eT PyData.int) w_told)) :: os) B rfl c_p_need_letters (by decide) h1 (ax_cons (ex_v (i := 0) (j := 0) B rfl rfl rfl) ax_nil)) ?_
  obtain ⟨t2, h2, hm⟩ := bnd hm
  refine sx_expr (ex_call (a := (letters, q_told, w_told)) (b := t2) (gi := 1) (rest := os) B rfl c_p_need_toldO (by decide) h2 (ax_cons (ex_v (i := 0) (j := 0) B rfl rfl rfl) (ax_cons (ex_v (i := 1) (j := 1) B rfl rfl rfl) ax_nil))) ?_
  obtain ⟨t3, h3, hm⟩ := bnd hm
  refine sx_expr (ex_call (a := (length, 0, ())) (b := t3) (gi := 2) (rest := (q_told, ol (List.map (eT PyData.int) t2.2)) :: os) B rfl c_p_need_number (by decide) h3 (ax_cons (ex_v (i := 2) (j := 2) B rfl rfl rfl) (ax_cons ex_int (ax_cons ex_none ax_nil)))) ?_
  obtain ⟨t4, h4, hm⟩ := bnd hm
  refine sx_asg (i := 3) (vi := 3) (φ := (dat (Kd.pd kTI (eM (eL (eP PyData.int (eT PyData.int))) t4.1)))) B T rfl rfl (ex_call (a := (letters, q_told, t2.2)) (b := t4) (gi := 3) (rest := os) B rfl c_p_machineO (by decide) h4 (ax_cons (ex_v (i := 0) (j := 0) B rfl rfl rfl) (ax_cons (ex_v (i := 1) (j := 1) B rfl rfl rfl) ax_nil))) ?_
  obtain ⟨t5, h5, hm⟩ := bnd hm
  refine sx_mk3 (i := 4) (j := 5) (l := 6) (vi := 4) (gi := 5) (m := 6) _ hsc B T rfl rfl rfl rfl rfl rfl (by intro env he; cases env; cases he; first | rfl | kernel_rfl) (aq_x (φ := (dat (PyData.list (List.map (eD kTI PyData.int) t5)))) (ex_call (a := (t4.1, length)) (b := t5) (gi := 4) (rest := (q_told, ol (List.map (eT PyData.int) t4.2)) :: os) B rfl c_p_counts_by_length (by decide) h5 (ax_cons (ex_v (i := 3) (j := 3) B rfl rfl rfl) (ax_cons (ex_v (i := 2) (j := 2) B rfl rfl rfl) ax_nil))) (aq_x (φ := (dat (PyData.tuple (List.map PyData.int ([] : (List Int)))))) (ex_tup (ds := []) ax_nil) (aq_x (φ := (dat (PyData.tuple (List.map PyData.int ([] : (List Int)))))) (ex_tup (ds := []) ax_nil) aq_nil))) (fun v0 v1 v2 os_ hr_ => ?_) (by rintro φs os_ ⟨_, rfl, _, rfl, _, rfl, rfl, rfl⟩; exact ⟨_, _, _, rfl⟩)
  obtain ⟨_, e0, _, e1, _, e2, e8, e9⟩ := hr_
  cases e0; cases e1; cases e2; cases e8; cases e9
  obtain ⟨t6, h6, hm⟩ := bnd hm
  obtain ⟨t7, h7, hm⟩ := bnd hm
  refine sx_if (tx_cmp op_eq r2_eqI (nomark _) (ex_dget (kd := kTI) (enc := PyData.int) (w := t6) inj_kTI h7 B rdd_dat (ex_idxL (enc := (eD kTI PyData.int)) h6 rdl_dat (ex_v (i := 4) (j := 4) B rfl rfl rfl) (ex_v (i := 2) (j := 2) B rfl rfl rfl)) (EX.to (ex_v (i := 5) (j := 5) B rfl rfl rfl) (by first | exact ek_tI _ | rfl))) ex_int) (fun hk => ?_) (fun hk => ?_)
  · have hm := ifT hm hk
    obtain rfl := som hm
    exact sx_ret ex_none (fun F H v e o c => R.rt F H v e o c)
  · have hm := ifF hm hk
    refine sx_fall ?_ rfl
    obtain ⟨t8, h8, hm⟩ := bnd hm
    obtain ⟨f11, h22, hm⟩ := bnd hm
    refine sx_for (c := anyOs) _ (fun (s9 : ((List Int) × (List Int))) (_ : Unit) => [sl (dat (PyData.int letters)), sl (own q_told), sl (dat (PyData.int length)), sl (dat (Kd.pd kTI (eM (eL (eP PyData.int (eT PyData.int))) t4.1))), sl (dat (PyData.list (List.map (eD kTI PyData.int) t5))), sl (dat (PyData.tuple (List.map PyData.int s9.1))), sl (dat (PyData.tuple (List.map PyData.int s9.2))), un, un, un]) (fun (s9 : ((List Int) × (List Int))) (_ : Unit) => (q_told, ol (List.map (eT PyData.int) t4.2)) :: os) B T (fun left10 => gx_name (i := 7) (vi := 7) (φ := (dat (PyData.int left10))) B T rfl rfl) (([] : (List Int)), ([] : (List Int))) () f11 h22 (ix_rngD (gi := 5) B rfl g_range h8 (ex_sub (ex_v (i := 2) (j := 2) B rfl rfl rfl) ex_int) (ex_neg ex_int) (ex_neg ex_int)) ⟨.inl rfl, .inl rfl, .inl rfl, .inl rfl, .inl rfl, .inl rfl, .inl rfl, .inl rfl, .inl rfl, .inl rfl, trivial⟩ (fun _ _ => trivial) (fun F13 e12 s9 _ left10 z23 hx hm => ?_) (fun _ => ?_)
    · clear h22
      obtain ⟨t14, h14, hm⟩ := bnd hm
      obtain ⟨t19, h19, hm⟩ := bnd hm
      obtain ⟨t20, h20, hm⟩ := bnd hm
      refine sx_unp (gx_pair B (gx_name (i := 8) (vi := 8) B T rfl rfl) (gx_name (i := 5) (vi := 5) B T rfl rfl)) (ex_idxL (enc := (eP PyData.int (eT PyData.int))) h20 rdl_dat (EN.ex (en_lc (lc_mk2 (i := 8) (j := 9) (d1 := fun x15 => (PyData.int x15.1)) (d2 := fun x15 => (PyData.tuple (List.map PyData.int x15.2))) (c := anyOs) (enc := (eP PyData.int (eT PyData.int))) (fun (_ : Unit) (x15 : (Int × (List Int))) => ((fun (x15 : (Int × (List Int))) => ((idx t5 left10).bind fun t17 => (dGet t17 x15.2).bind fun t18 => if (decide (0 < t18)) = true then some (some (x15.1, x15.2)) else some none)) x15).map fun y => (y, ())) (fun (_ : Unit) (tl1 : Os) => (q_told, ol (List.map (eT PyData.int) t4.2)) :: tl1) () (t19) () B rfl rfl (by decide) rfl rfl (by rw [B.hN, hsc]; decide +kernel) (by rw [hsc]; decide +kernel) (by rw [hsc]; decide +kernel) (by decide) (lcG_ok h19) (ix_list (enc := (eP PyData.int (eT PyData.int))) (c := anyOs) (ex_dget (kd := kTI) (enc := (eL (eP PyData.int (eT PyData.int)))) (w := t4.1) inj_kTI h14 B rdd_dat (ex_v (i := 3) (j := 3) B rfl rfl rfl) (EX.to (ex_v (i := 5) (j := 5) B rfl rfl rfl) (by first | exact ek_tI _ | rfl))) (fun _ _ => rdl_dat) trivial) (fun _ _ => trivial) (fun _ _ _ => (List.Perm.swap _ _ _)) (fun _ x15 t tl1 hx hf => by (obtain ⟨y, hy, rfl⟩ := Option.map_eq_some_iff.mp hf; obtain ⟨t17, h17, hy⟩ := bnd hy; obtain ⟨t18, h18, hy⟩ := bnd hy; cases hc : (decide (0 < t18)) with | true => (have hy := ifT hy hc; obtain rfl := som hy; exact ⟨true, _, fun X1 hX => by (have B1 := Bd.fam (W' := ["counts", "left", "step", "goal"]) (G' := []) B hX (by (try rw [hsc]); decide +kernel); exact ⟨.one (TX.to (tx_cmp op_gt r2_gt (nomark _) (ex_dget (kd := kTI) (enc := PyData.int) (w := t17) inj_kTI h18 B1 rdd_dat (ex_idxL (enc := (eD kTI PyData.int)) h17 rdl_dat (ex_v (i := 4) (j := 0) B1 rfl rfl rfl) (ex_v (i := 7) (j := 1) B1 rfl rfl rfl)) (EX.to (ex_v (i := 9) (j := 3) B1 rfl rfl rfl) (by first | exact ek_tI _ | rfl))) ex_int) hc), fun _ => ⟨_, rfl, (ex_tup (ds := [(PyData.int x15.1), (PyData.tuple (List.map PyData.int x15.2))]) (hl := len_ok (n := 2) rfl) (ax_cons (ex_v (i := 8) (j := 2) B1 rfl rfl rfl) (ax_cons (ex_v (i := 9) (j := 3) B1 rfl rfl rfl) ax_nil)))⟩, fun h => Bool.noConfusion h⟩)⟩) | false => (have hy := ifF hy hc; obtain rfl := som hy; exact ⟨false, _, fun X1 hX => by (have B1 := Bd.fam (W' := ["counts", "left", "step", "goal"]) (G' := []) B hX (by (try rw [hsc]); decide +kernel); exact ⟨.one (TX.to (tx_cmp op_gt r2_gt (nomark _) (ex_dget (kd := kTI) (enc := PyData.int) (w := t17) inj_kTI h18 B1 rdd_dat (ex_idxL (enc := (eD kTI PyData.int)) h17 rdl_dat (ex_v (i := 4) (j := 0) B1 rfl rfl rfl) (ex_v (i := 7) (j := 1) B1 rfl rfl rfl)) (EX.to (ex_v (i := 9) (j := 3) B1 rfl rfl rfl) (by first | exact ek_tI _ | rfl))) ex_int) hc), fun h => Bool.noConfusion h, fun _ => ⟨rfl, rfl⟩⟩)⟩)))))) ex_int) ?_
      obtain ⟨t21, h21, hm⟩ := bnd hm
      refine sx_asg (i := 6) (vi := 6) (φ := (dat (PyData.tuple (List.map PyData.int t21)))) B T rfl rfl (ex_catT (enc := PyData.int) h21 (ex_v (i := 6) (j := 6) B rfl rfl rfl) (ex_tup (ds := [(PyData.int t20.1)]) (hl := len_ok (n := 1) rfl) (ax_cons (ex_v (i := 8) (j := 8) B rfl rfl rfl) ax_nil))) ?_
      obtain rfl := som hm
      exact sx_nil fun σ H a => ⟨(), (a.weak ⟨.inl rfl, .inl rfl, .inl rfl, .inl rfl, .inl rfl, .inl rfl, .inl rfl, .inr rfl, .inr rfl, .inl rfl, trivial⟩)⟩
    · skip
      obtain rfl := som hm
      exact sx_ret (ex_v (i := 6) (j := 6) B rfl rfl rfl) (fun F H v e o c => R.rt F H v e o c)
theorem cal_p_first_withoutO {P : Program} {w : World} {K : PySem.W.Frag} {mg : Str → Option Value} {base : Heap} {f : Addr} {fd : FuncData} (Fn : Fun K "first_without" "first_without" s_p_first_withoutO f fd) (hmg : mg "first_without" = some (.ref f)) (hb : Binds K fd ["letters", "told", "length"] []) (c_p_need_letters : Cal P w K mg base 3 "need_letters" s_p_need_letters ["letters"] (sp_p_need_letters K)) (c_p_need_toldO : Cal P w K mg base 4 "need_told" s_p_need_toldO ["letters", "told"] (sp_p_need_toldO K)) (c_p_need_number : Cal P w K mg base 1 "need_number" s_p_need_number ["number", "low", "high"] (sp_p_need_number K)) (c_p_machineO : Cal P w K mg base 3 "machine" s_p_machineO ["letters", "told"] (sp_p_machineO K)) (c_p_counts_by_length : Cal P w K mg base 1 "counts_by_length" s_p_counts_by_length ["table", "length"] (sp_p_counts_by_length K)) (g_range : mg "range" = none) : Cal P w K mg base 5 "first_without" s_p_first_withoutO ["letters", "told", "length"] (sp_p_first_withoutO K) := by
  obtain ⟨sts_, hst_⟩ : ∃ z_, defBody s_p_first_withoutO = z_ := ⟨_, rfl⟩
  exact cal_ZQ (V := V_p_first_withoutO) (Gs := G_p_first_withoutO) (nl := 7) hst_ Fn sc_p_first_withoutO (by decide +kernel) (by decide +kernel) hmg hb (fun _ => rfl) rfl fun _ _ _ _ _ _ _ a b F0 os D B T hm R => body_p_first_withoutO rfl hst_ B T c_p_need_letters c_p_need_toldO c_p_need_number c_p_machineO c_p_counts_by_length g_range a.1 a.2.1 a.2.2.1 a.2.2.2 b F0 os D hm R
abbrev s_l_well : Stmt := top 28
def N_l_well : List Str := ["_law_script", "_law_k", "_law_cell", "_law_total", "_law_seed", "_law_one"]
def V_l_well : List Str := ["_law_script", "_law_k", "_law_cell", "_law_total", "_law_seed"]
def G_l_well : List Str := ["len", "sum", "int", "abs", "max"]
theorem sc_l_well : FnScope N_l_well ["_law_script", "_law_k"] (defScope s_l_well) := ⟨rfl, rfl, rfl, by decide +kernel, rfl, by decide +kernel, by decide +kernel⟩
abbrev sp_l_well (K : PySem.W.Frag) : Sp := spN (α := ((List Int) × Int)) (β := (List Int)) (fun a => [(scr K a.1), (dat (PyData.int a.2))]) (fun a => []) (fun a => m_l_well a.1 a.2) (fun a b => ol (List.map PyData.int b)) (fun a b => [])
set_option maxHeartbeats 4000000 in
theorem body_l_well {X : Cx} (hsc : X.env.scope = defScope s_l_well) {sts_ : List Stmt} (hst_ : defBody s_l_well = sts_) (B : Bd X N_l_well V_l_well G_l_well 0) (T : Bt X V_l_well) (g_len : X.mg "len" = none) (g_sum : X.mg "sum" = none) (g_int : X.mg "int" = none) (g_abs : X.mg "abs" = none) (g_max : X.mg "max" = none) (script : (List Int)) (k_ : Int) (b : (List Int)) (F0 : Hp) (os : Os) (D : Ends) (hm : m_l_well script k_ = some b) (R : RetN F0 (os) (ol (List.map PyData.int b)) D) :
    SX X [sl (scr X.K script), sl (dat (PyData.int k_)), un, un, un, un] (os) F0 sts_ D := by
  subst hst_
  unfold m_l_well at hm
  refine sx_asg (i := 2) (vi := 2) (φ := (dat (PyData.int ((11 * k_) + 6)))) B T rfl rfl (ex_add (ex_mulL (by decide) ex_int (ex_v (i := 1) (j := 1) B rfl rfl rfl)) ex_int) ?_
  obtain ⟨s2, h_s2, hm⟩ := bnd hm
  refine sx_join [sl (scr X.K script), sl (dat (PyData.int k_)), sl (dat (PyData.int s2)), un, un, un] (os) (?_) (fun Q => ?_)
  · clear h_s2
    obtain ⟨t5, h5, hm⟩ := bnd hm
    refine sx_asg (i := 3) (vi := 3) (φ := (dat (PyData.int t5.sum))) B T rfl rfl (ex_fn (j := 1) B rfl g_sum (by decide +kernel) (cr_sum B.calm) (rc_sum rdl_dat) (ax_cons (EN.ex (en_lc (lc_mk1 (j := 5) (vp := fun one3 => (dat (PyData.int one3))) (c := anyOs) (enc := PyData.int) (fun (_ : Unit) (one3 : Int) => some (some (one3 % 1000000000000000000000000103), ())) (fun (_ : Unit) (tl1 : Os) => tl1) () (t5) () B rfl rfl (by rw [B.hN, hsc]; decide +kernel) (by rw [hsc]; decide +kernel) (by decide) (lcT_ok h5) (ix_list (enc := PyData.int) (c := anyOs) (ex_v (i := 0) (j := 0) B rfl rfl rfl) (fun _ _ => rdl_scr) trivial) (fun _ _ => trivial) (fun _ _ _ => List.Perm.refl _) (fun _ one3 t tl1 hx hf => by (obtain rfl := som hf; exact ⟨true, _, fun X1 hX => by (have B1 := Bd.fam (W' := ["_law_one"]) (G' := ["int"]) B hX (by (try rw [hsc]); decide +kernel); have g_int' := fam_mg hX g_int; exact ⟨.nil, fun _ => ⟨_, rfl, (ex_mod (modO_lit (j := 1000000000000000000000000103) (by decide)) (ex_ty (j := 0) B1 rfl g_int' (by decide +kernel) call_int1 rc_intI (ax_cons (ex_v (i := 5) (j := 0) B1 rfl rfl rfl) ax_nil)) (EX.to (d' := PyData.int 1000000000000000000000000103) (ex_add (ex_pow (m := 1000000000000000000000000000) (by decide +kernel) ex_int ex_int) ex_int) (by rfl)))⟩, fun h => Bool.noConfusion h⟩)⟩))))) ax_nil)) ?_
    obtain ⟨seed6, h7, hm⟩ := bnd hm
    have h7 := som h7
    refine sx_asg (i := 4) (vi := 4) (φ := (dat (PyData.int seed6))) B T rfl rfl (EX.to (ex_mod (modO_lit (j := 10000000000000000000000000000033) (by decide)) (ex_ty (j := 2) B rfl g_int (by decide +kernel) call_int1 rc_intI (ax_cons (ex_add (ex_add (ex_add (ex_mulR (by decide) (ex_fn (j := 3) B rfl g_abs (by decide +kernel) call_abs rc_abs (ax_cons (ex_v (i := 2) (j := 2) B rfl rfl rfl) ax_nil)) ex_int) (ex_mulL (by decide) ex_int (ex_v (i := 3) (j := 3) B rfl rfl rfl))) (ex_mulL (by decide) ex_int (ex_v (i := 1) (j := 1) B rfl rfl rfl))) (ex_ty (j := 2) B rfl g_int (by decide +kernel) call_int1 rc_intB (ax_cons (ex_cmp op_lt r2_lt (nomark _) (ex_v (i := 2) (j := 2) B rfl rfl rfl) ex_int) ax_nil))) ax_nil)) (EX.to (d' := PyData.int 10000000000000000000000000000033) (ex_add (ex_pow (m := 10000000000000000000000000000000) (by decide +kernel) ex_int ex_int) ex_int) (by rfl))) (congrArg (fun z_ => (PyData.int z_)) h7)) ?_
    obtain rfl := som hm
    exact sx_retN (en_lst (ds := [(PyData.int (maxI 0 (s2 - 1000000000000000000))), (PyData.int seed6), (PyData.int 0)]) (hl := len_ok (n := 3) rfl) (ax_cons (ex_fn (j := 4) B rfl g_max (by decide +kernel) (call_max2 B.calm) rc_max (ax_cons ex_int (ax_cons (ex_sub (ex_v (i := 2) (j := 2) B rfl rfl rfl) (ex_pow (m := 1000000000000000000) (by decide +kernel) ex_int ex_int)) ax_nil))) (ax_cons (ex_v (i := 4) (j := 4) B rfl rfl rfl) (ax_cons ex_int ax_nil)))) (fun F H p e o => R.rt F H p e o)
  · have hm := h_s2
    refine sx_if (tx_cmp op_lt r2_lt (nomark _) (ex_v (i := 1) (j := 1) B rfl rfl rfl) (EX.to (ex_fn (j := 0) B rfl g_len (by decide +kernel) call_len_seq (rc_lenL (ds := List.map PyData.int script) rdl_scr) (ax_cons (ex_v (i := 0) (j := 0) B rfl rfl rfl) ax_nil)) (by rw [List.length_map]))) (fun hk => ?_) (fun hk => ?_)
    · have hm := ifT hm hk
      obtain ⟨t1, h1, hm⟩ := bnd hm
      refine sx_asg (i := 2) (vi := 2) (φ := (dat (PyData.int t1))) B T rfl rfl (ex_idxL (enc := PyData.int) h1 rdl_scr (ex_v (i := 0) (j := 0) B rfl rfl rfl) (ex_v (i := 1) (j := 1) B rfl rfl rfl)) ?_
      obtain rfl := som hm
      exact sx_fall Q rfl
    · have hm := ifF hm hk
      obtain rfl := som hm
      exact sx_fall Q rfl
theorem cal_l_well {P : Program} {w : World} {K : PySem.W.Frag} {mg : Str → Option Value} {base : Heap} {f : Addr} {fd : FuncData} (Fn : Fun K "_law_well" "_law_well" s_l_well f fd) (hmg : mg "_law_well" = some (.ref f)) (hb : Binds K fd ["_law_script", "_law_k"] []) (g_len : mg "len" = none) (g_sum : mg "sum" = none) (g_int : mg "int" = none) (g_abs : mg "abs" = none) (g_max : mg "max" = none) : Cal P w K mg base 1 "_law_well" s_l_well ["_law_script", "_law_k"] (sp_l_well K) := by
  obtain ⟨sts_, hst_⟩ : ∃ z_, defBody s_l_well = z_ := ⟨_, rfl⟩
  exact cal_NQ (V := V_l_well) (Gs := G_l_well) (nl := 4) hst_ Fn sc_l_well (by decide +kernel) (by decide +kernel) hmg hb (fun _ => rfl) rfl fun _ _ _ _ _ _ _ a b F0 os D B T hm R => body_l_well rfl hst_ B T g_len g_sum g_int g_abs g_max a.1 a.2 b F0 os D hm R
abbrev s_l_take : Stmt := top 29
def N_l_take : List Str := ["_law_well_here", "_law_many", "_law_found", "_law_mixed"]
def V_l_take : List Str := ["_law_well_here", "_law_many", "_law_found", "_law_mixed"]
def G_l_take : List Str := ["int"]
theorem sc_l_take : FnScope N_l_take ["_law_well_here", "_law_many"] (defScope s_l_take) := ⟨rfl, rfl, rfl, by decide +kernel, rfl, by decide +kernel, by decide +kernel⟩
abbrev sp_l_take (K : PySem.W.Frag) : Sp := spZ (α := (Addr × (List Int) × Int)) (β := (Int × (List Int))) (fun a => [own a.1, (dat (PyData.int a.2.2))]) (fun a => (a.1, ol (List.map PyData.int a.2.1)) :: []) (fun a => m_l_take a.2.1 a.2.2) (fun a b => (dat (PyData.int b.1))) (fun a b => (a.1, ol (List.map PyData.int b.2)) :: [])
set_option maxHeartbeats 4000000 in
theorem body_l_take {X : Cx} (hsc : X.env.scope = defScope s_l_take) {sts_ : List Stmt} (hst_ : defBody s_l_take = sts_) (B : Bd X N_l_take V_l_take G_l_take 0) (T : Bt X V_l_take) (g_int : X.mg "int" = none) (q_well_here : Addr) (w_well_here : (List Int)) (many : Int) (b : (Int × (List Int))) (F0 : Hp) (os : Os) (D : Ends) (hm : m_l_take w_well_here many = some b) (R : RetZ F0 ((q_well_here, ol (List.map PyData.int b.2)) :: os) (dat (PyData.int b.1)) D) :
    SX X [sl (own q_well_here), sl (dat (PyData.int many)), un, un] ((q_well_here, ol (List.map PyData.int w_well_here)) :: os) F0 sts_ D := by
  subst hst_
  unfold m_l_take at hm
  obtain ⟨t1, h1, hm⟩ := bnd hm
  refine sx_if (tx_cmp op_gt r2_gt (nomark _) (ex_idxL (enc := PyData.int) h1 (rdl_own 0 rfl) (ex_v (i := 0) (j := 0) B rfl rfl rfl) ex_int) ex_int) (fun hk => ?_) (fun hk => ?_)
  · have hm := ifT hm hk
    obtain ⟨t2, h2, hm⟩ := bnd hm
    obtain ⟨t3, h3, hm⟩ := bnd hm
    refine sx_asg (i := 2) (vi := 2) (φ := (dat (PyData.int t3))) B T rfl rfl (ex_mod h3 (ex_ty (j := 0) B rfl g_int (by decide +kernel) call_int1 rc_intI (ax_cons (ex_idxL (enc := PyData.int) h2 (rdl_own 0 rfl) (ex_v (i := 0) (j := 0) B rfl rfl rfl) ex_int) ax_nil)) (ex_v (i := 1) (j := 1) B rfl rfl rfl)) ?_
    obtain ⟨t4, h4, hm⟩ := bnd hm
    obtain ⟨t5, h5, hm⟩ := bnd hm
    obtain ⟨t6, h6, hm⟩ := bnd hm
    refine sx_setO (enc := PyData.int) (j := 0) h6 (ex_fdiv h5 (ex_idxL (enc := PyData.int) h4 (rdl_own 0 rfl) (ex_v (i := 0) (j := 0) B rfl rfl rfl) ex_int) (ex_v (i := 1) (j := 1) B rfl rfl rfl)) (ex_v (i := 0) (j := 0) B rfl rfl rfl) ex_int rfl ?_
    obtain rfl := som hm
    exact sx_ret (ex_v (i := 2) (j := 2) B rfl rfl rfl) (fun F H v e o c => R.rt F H v e o c)
  · have hm := ifF hm hk
    refine sx_fall ?_ rfl
    obtain ⟨t7, h7, hm⟩ := bnd hm
    obtain ⟨t8, h8, hm⟩ := bnd hm
    refine sx_setO (enc := PyData.int) (j := 0) h8 (ex_add (ex_idxL (enc := PyData.int) h7 (rdl_own 0 rfl) (ex_v (i := 0) (j := 0) B rfl rfl rfl) ex_int) ex_int) (ex_v (i := 0) (j := 0) B rfl rfl rfl) ex_int rfl ?_
    obtain ⟨t9, h9, hm⟩ := bnd hm
    obtain ⟨t10, h10, hm⟩ := bnd hm
    obtain ⟨t11, h11, hm⟩ := bnd hm
    obtain ⟨t12, h12, hm⟩ := bnd hm
    obtain ⟨mixed13, h14, hm⟩ := bnd hm
    have h14 := som h14
    refine sx_asg (i := 3) (vi := 3) (φ := (dat (PyData.int mixed13))) B T rfl rfl (EX.to (ex_mod (modO_lit (j := 1000000000000000000000000000000073) (by decide)) (ex_ty (j := 0) B rfl g_int (by decide +kernel) call_int1 rc_intI (ax_cons (ex_add (ex_pow h11 (ex_add (ex_idxL (enc := PyData.int) h9 (rdl_own 0 rfl) (ex_v (i := 0) (j := 0) B rfl rfl rfl) ex_int) (ex_mulL (by decide) ex_int (ex_idxL (enc := PyData.int) h10 (rdl_own 0 rfl) (ex_v (i := 0) (j := 0) B rfl rfl rfl) ex_int))) ex_int) (ex_mulL (by decide) ex_int (ex_idxL (enc := PyData.int) h12 (rdl_own 0 rfl) (ex_v (i := 0) (j := 0) B rfl rfl rfl) ex_int))) ax_nil)) (EX.to (d' := PyData.int 1000000000000000000000000000000073) (ex_add (ex_pow (m := 1000000000000000000000000000000000) (by decide +kernel) ex_int ex_int) ex_int) (by rfl))) (congrArg (fun z_ => (PyData.int z_)) h14)) ?_
    obtain ⟨t15, h15, hm⟩ := bnd hm
    obtain ⟨t16, h16, hm⟩ := bnd hm
    obtain rfl := som hm
    exact sx_ret (ex_mod h16 (ex_fdiv (fdivO_lit (j := 10007) (by decide) (by decide +kernel)) (ex_mod (modO_lit (j := 10000000000000000000000000000000193) (by decide)) (ex_ty (j := 0) B rfl g_int (by decide +kernel) call_int1 rc_intI (ax_cons (ex_mul h15 (ex_v (i := 3) (j := 3) B rfl rfl rfl) (ex_add (ex_v (i := 3) (j := 3) B rfl rfl rfl) ex_int)) ax_nil)) (EX.to (d' := PyData.int 10000000000000000000000000000000193) (ex_add (ex_pow (m := 10000000000000000000000000000000000) (by decide +kernel) ex_int ex_int) ex_int) (by rfl))) ex_int) (ex_v (i := 1) (j := 1) B rfl rfl rfl)) (fun F H v e o c => R.rt F H v e o c)
theorem cal_l_take {P : Program} {w : World} {K : PySem.W.Frag} {mg : Str → Option Value} {base : Heap} {f : Addr} {fd : FuncData} (Fn : Fun K "_law_take" "_law_take" s_l_take f fd) (hmg : mg "_law_take" = some (.ref f)) (hb : Binds K fd ["_law_well_here", "_law_many"] []) (g_int : mg "int" = none) : Cal P w K mg base 1 "_law_take" s_l_take ["_law_well_here", "_law_many"] (sp_l_take K) := by
  obtain ⟨sts_, hst_⟩ : ∃ z_, defBody s_l_take = z_ := ⟨_, rfl⟩
  exact cal_ZQ (V := V_l_take) (Gs := G_l_take) (nl := 2) hst_ Fn sc_l_take (by decide +kernel) (by decide +kernel) hmg hb (fun _ => rfl) rfl fun _ _ _ _ _ _ _ a b F0 os D B T hm R => body_l_take rfl hst_ B T g_int a.1 a.2.1 a.2.2 b F0 os D hm R
abbrev s_l_steps : Stmt := top 30
def N_l_steps : List Str := ["_law_letters", "_law_found", "_law_letter"]
def V_l_steps : List Str := ["_law_letters", "_law_found", "_law_letter"]
def G_l_steps : List Str := ["range"]
theorem sc_l_steps : FnScope N_l_steps ["_law_letters"] (defScope s_l_steps) := ⟨rfl, rfl, rfl, by decide +kernel, rfl, by decide +kernel, by decide +kernel⟩
abbrev sp_l_steps (K : PySem.W.Frag) : Sp := spZ (α := Int) (β := (List Int)) (fun a => [(dat (PyData.int a))]) (fun a => []) (fun a => m_l_steps a) (fun a b => (dat (PyData.list (List.map PyData.int b)))) (fun a b => [])
set_option maxHeartbeats 4000000 in
theorem body_l_steps {X : Cx} (hsc : X.env.scope = defScope s_l_steps) {sts_ : List Stmt} (hst_ : defBody s_l_steps = sts_) (B : Bd X N_l_steps V_l_steps G_l_steps 0) (T : Bt X V_l_steps) (g_range : X.mg "range" = none) (letters : Int) (b : (List Int)) (F0 : Hp) (os : Os) (D : Ends) (hm : m_l_steps letters = some b) (R : RetZ F0 (os) (dat (PyData.list (List.map PyData.int b))) D) :
    SX X [sl (dat (PyData.int letters)), un, un] (os) F0 sts_ D := by
  subst hst_
  unfold m_l_steps at hm
  refine sx_asg (i := 1) (vi := 1) (φ := (dat (PyData.list (List.map PyData.int ([] : (List Int)))))) B T rfl rfl (EN.ex (en_lst (ds := []) ax_nil)) ?_
  obtain ⟨t1, h1, hm⟩ := bnd hm
  obtain ⟨f4, h8, hm⟩ := bnd hm
  refine sx_for (c := anyOs) _ (fun (s2 : (List Int)) (_ : Unit) => [sl (dat (PyData.int letters)), sl (dat (PyData.list (List.map PyData.int s2))), un]) (fun (s2 : (List Int)) (_ : Unit) => os) B T (fun letter3 => gx_name (i := 2) (vi := 2) (φ := (dat (PyData.int letter3))) B T rfl rfl) ([] : (List Int)) () f4 h8 (ix_rng2 (gi := 0) B rfl g_range h1 ex_int (ex_add (ex_v (i := 0) (j := 0) B rfl rfl rfl) ex_int)) ⟨.inl rfl, .inl rfl, .inl rfl, trivial⟩ (fun _ _ => trivial) (fun F6 e5 s2 _ letter3 z9 hx hm => ?_) (fun _ => ?_)
  · clear h8
    obtain ⟨t7, h7, hm⟩ := bnd hm
    refine sx_asg (i := 1) (vi := 1) (φ := (dat (PyData.list (List.map PyData.int t7)))) B T rfl rfl (EN.ex (en_cat (enc := PyData.int) h7 (ex_v (i := 1) (j := 1) B rfl rfl rfl) (EN.ex (en_lst (ds := [(PyData.int letter3), (PyData.int (-letter3))]) (hl := len_ok (n := 2) rfl) (ax_cons (ex_v (i := 2) (j := 2) B rfl rfl rfl) (ax_cons (ex_neg (ex_v (i := 2) (j := 2) B rfl rfl rfl)) ax_nil)))))) ?_
    obtain rfl := som hm
    exact sx_nil fun σ H a => ⟨(), (a.weak ⟨.inl rfl, .inl rfl, .inr rfl, trivial⟩)⟩
  · skip
    obtain rfl := som hm
    exact sx_ret (ex_v (i := 1) (j := 1) B rfl rfl rfl) (fun F H v e o c => R.rt F H v e o c)
theorem cal_l_steps {P : Program} {w : World} {K : PySem.W.Frag} {mg : Str → Option Value} {base : Heap} {f : Addr} {fd : FuncData} (Fn : Fun K "_law_steps" "_law_steps" s_l_steps f fd) (hmg : mg "_law_steps" = some (.ref f)) (hb : Binds K fd ["_law_letters"] []) (g_range : mg "range" = none) : Cal P w K mg base 1 "_law_steps" s_l_steps ["_law_letters"] (sp_l_steps K) := by
  obtain ⟨sts_, hst_⟩ : ∃ z_, defBody s_l_steps = z_ := ⟨_, rfl⟩
  exact cal_ZQ (V := V_l_steps) (Gs := G_l_steps) (nl := 2) hst_ Fn sc_l_steps (by decide +kernel) (by decide +kernel) hmg hb (fun _ => rfl) rfl fun _ _ _ _ _ _ _ a b F0 os D B T hm R => body_l_steps rfl hst_ B T g_range a b F0 os D hm R
abbrev s_l_is : Stmt := top 31
def N_l_is : List Str := ["_law_found", "_law_due", "_law_step"]
def V_l_is : List Str := ["_law_found", "_law_due"]
def G_l_is : List Str := ["isinstance", "tuple", "all"]
theorem sc_l_is : FnScope N_l_is ["_law_found", "_law_due"] (defScope s_l_is) := ⟨rfl, rfl, rfl, by decide +kernel, rfl, by decide +kernel, by decide +kernel⟩
abbrev sp_l_is (K : PySem.W.Frag) : Sp := spZ (α := ((List Int) × (List Int))) (β := Bool) (fun a => [(dat (PyData.tuple (List.map PyData.int a.1))), (dat (PyData.tuple (List.map PyData.int a.2)))]) (fun a => []) (fun a => m_l_is a.1 a.2) (fun a b => (dat (PyData.bool b))) (fun a b => [])
set_option maxHeartbeats 4000000 in
theorem body_l_is {X : Cx} (hsc : X.env.scope = defScope s_l_is) {sts_ : List Stmt} (hst_ : defBody s_l_is = sts_) (B : Bd X N_l_is V_l_is G_l_is 0) (T : Bt X V_l_is) (g_isinstance : X.mg "isinstance" = none) (g_tuple : X.mg "tuple" = none) (g_all : X.mg "all" = none) (g_int : X.mg "int" = none) (g_bool : X.mg "bool" = none) (found : (List Int)) (due : (List Int)) (b : Bool) (F0 : Hp) (os : Os) (D : Ends) (hm : m_l_is found due = some b) (R : RetZ F0 (os) (dat (PyData.bool b)) D) :
    SX X [sl (dat (PyData.tuple (List.map PyData.int found))), sl (dat (PyData.tuple (List.map PyData.int due))), un] (os) F0 sts_ D := by
  subst hst_
  unfold m_l_is at hm
  refine sx_if (WX.tx (wx_or (tx_not (tx_val (ex_fn (j := 0) B rfl g_isinstance (by decide +kernel) call_isi (rc_isi (d := (PyData.tuple (List.map PyData.int found))) (T := "tuple") (show kitB "tuple" "tuple" = some true by decide +kernel)) (ax_cons (ex_v (i := 0) (j := 0) B rfl rfl rfl) (ax_cons (ex_tyname (T := "tuple") (gi := 1) B rfl g_tuple (by decide +kernel)) ax_nil))) (by intro _; rfl))) (fun _ => (wx_or1 (tx_neR (e := (eT PyData.int)) (x := found) (y := due) B (eqv_tup eqv_int) (sh_tup sh_int) (by decide) rdx_dat rdx_dat (ex_v (i := 0) (j := 0) B rfl rfl rfl) (ex_v (i := 1) (j := 1) B rfl rfl rfl)))) (fun _ => rfl) rfl)) (fun hk => ?_) (fun hk => ?_)
  · have hm := ifT hm hk
    obtain rfl := som hm
    exact sx_ret ex_bool (fun F H v e o c => R.rt F H v e o c)
  · have hm := ifF hm hk
    refine sx_fall ?_ rfl
    obtain ⟨t3, h3, hm⟩ := bnd hm
    obtain rfl := som hm
    exact sx_ret (ex_fn (j := 2) B rfl g_all (by decide +kernel) (cr_all B.calm) (rc_all rdl_dat) (ax_cons (EN.ex (en_lc (lc_mk1 (j := 2) (vp := fun step1 => (dat (PyData.int step1))) (c := anyOs) (enc := PyData.bool) (fun (_ : Unit) (step1 : Int) => some (some (true && true), ())) (fun (_ : Unit) (tl1 : Os) => tl1) () (t3) () B rfl rfl (by rw [B.hN, hsc]; decide +kernel) (by rw [hsc]; decide +kernel) (by decide) (lcT_ok h3) (ix_tup (enc := PyData.int) (ex_v (i := 0) (j := 0) B rfl rfl rfl) rdt_dat) (fun _ _ => trivial) (fun _ _ _ => List.Perm.refl _) (fun _ step1 t tl1 hx hf => by (obtain rfl := som hf; exact ⟨true, _, fun X1 hX => by (have B1 := Bd.fam (W' := ["_law_step"]) (G' := ["isinstance", "int", "bool"]) B hX (by (try rw [hsc]); decide +kernel); have g_isinstance' := fam_mg hX g_isinstance; have g_int' := fam_mg hX g_int; have g_bool' := fam_mg hX g_bool; exact ⟨.nil, fun _ => ⟨_, rfl, (ex_and (ex_fn (j := 0) B1 rfl g_isinstance' (by decide +kernel) call_isi (rc_isi (d := (PyData.int step1)) (T := "int") (show kitB "int" "int" = some true by decide +kernel)) (ax_cons (ex_v (i := 2) (j := 0) B1 rfl rfl rfl) (ax_cons (ex_tyname (T := "int") (gi := 1) B1 rfl g_int' (by decide +kernel)) ax_nil))) (fun _ => (ex_one (ex_not (ex_fn (j := 0) B1 rfl g_isinstance' (by decide +kernel) call_isi (rc_isi (d := (PyData.int step1)) (T := "bool") (show kitB "int" "bool" = some false by decide +kernel)) (ax_cons (ex_v (i := 2) (j := 0) B1 rfl rfl rfl) (ax_cons (ex_tyname (T := "bool") (gi := 2) B1 rfl g_bool' (by decide +kernel)) ax_nil)))))) (fun _ => rfl) rfl)⟩, fun h => Bool.noConfusion h⟩)⟩))))) ax_nil)) (fun F H v e o c => R.rt F H v e o c)
theorem cal_l_is {P : Program} {w : World} {K : PySem.W.Frag} {mg : Str → Option Value} {base : Heap} {f : Addr} {fd : FuncData} (Fn : Fun K "_law_is" "_law_is" s_l_is f fd) (hmg : mg "_law_is" = some (.ref f)) (hb : Binds K fd ["_law_found", "_law_due"] []) (g_isinstance : mg "isinstance" = none) (g_tuple : mg "tuple" = none) (g_all : mg "all" = none) (g_int : mg "int" = none) (g_bool : mg "bool" = none) : Cal P w K mg base 1 "_law_is" s_l_is ["_law_found", "_law_due"] (sp_l_is K) := by
  obtain ⟨sts_, hst_⟩ : ∃ z_, defBody s_l_is = z_ := ⟨_, rfl⟩
  exact cal_ZQ (V := V_l_is) (Gs := G_l_is) (nl := 1) hst_ Fn sc_l_is (by decide +kernel) (by decide +kernel) hmg hb (fun _ => rfl) rfl fun _ _ _ _ _ _ _ a b F0 os D B T hm R => body_l_is rfl hst_ B T g_isinstance g_tuple g_all g_int g_bool a.1 a.2 b F0 os D hm R
abbrev s_l_isN : Stmt := top 31
def N_l_isN : List Str := ["_law_found", "_law_due", "_law_step"]
def V_l_isN : List Str := ["_law_found", "_law_due"]
def G_l_isN : List Str := ["isinstance", "tuple", "all"]
theorem sc_l_isN : FnScope N_l_isN ["_law_found", "_law_due"] (defScope s_l_isN) := ⟨rfl, rfl, rfl, by decide +kernel, rfl, by decide +kernel, by decide +kernel⟩
abbrev sp_l_isN (K : PySem.W.Frag) : Sp := spZ (α := (Unit × (List Int))) (β := Bool) (fun a => [(dat PyData.none), (dat (PyData.tuple (List.map PyData.int a.2)))]) (fun a => []) (fun a => m_l_isN a.1 a.2) (fun a b => (dat (PyData.bool b))) (fun a b => [])
set_option maxHeartbeats 4000000 in
theorem body_l_isN {X : Cx} (hsc : X.env.scope = defScope s_l_isN) {sts_ : List Stmt} (hst_ : defBody s_l_isN = sts_) (B : Bd X N_l_isN V_l_isN G_l_isN 0) (T : Bt X V_l_isN) (g_isinstance : X.mg "isinstance" = none) (g_tuple : X.mg "tuple" = none) (found : Unit) (due : (List Int)) (b : Bool) (F0 : Hp) (os : Os) (D : Ends) (hm : m_l_isN found due = some b) (R : RetZ F0 (os) (dat (PyData.bool b)) D) :
    SX X [sl (dat PyData.none), sl (dat (PyData.tuple (List.map PyData.int due))), un] (os) F0 sts_ D := by
  subst hst_
  unfold m_l_isN at hm
  refine sx_if (WX.tx (wx_or (l := true) (tx_not (tx_val (ex_fn (j := 0) B rfl g_isinstance (by decide +kernel) call_isi (rc_isi (d := PyData.none) (T := "tuple") (show kitB "NoneType" "tuple" = some false by decide +kernel)) (ax_cons (ex_v (i := 0) (j := 0) B rfl rfl rfl) (ax_cons (ex_tyname (T := "tuple") (gi := 1) B rfl g_tuple (by decide +kernel)) ax_nil))) (by intro _; rfl))) (fun hk => Bool.noConfusion hk) (fun _ => rfl) rfl)) (fun _ => ?_) (fun hk => Bool.noConfusion hk)
  obtain rfl := som hm
  exact sx_ret ex_bool (fun F H v e o c => R.rt F H v e o c)
theorem cal_l_isN {P : Program} {w : World} {K : PySem.W.Frag} {mg : Str → Option Value} {base : Heap} {f : Addr} {fd : FuncData} (Fn : Fun K "_law_is" "_law_is" s_l_isN f fd) (hmg : mg "_law_is" = some (.ref f)) (hb : Binds K fd ["_law_found", "_law_due"] []) (g_isinstance : mg "isinstance" = none) (g_tuple : mg "tuple" = none) : Cal P w K mg base 1 "_law_is" s_l_isN ["_law_found", "_law_due"] (sp_l_isN K) := by
  obtain ⟨sts_, hst_⟩ : ∃ z_, defBody s_l_isN = z_ := ⟨_, rfl⟩
  exact cal_ZQ (V := V_l_isN) (Gs := G_l_isN) (nl := 1) hst_ Fn sc_l_isN (by decide +kernel) (by decide +kernel) hmg hb (fun _ => rfl) rfl fun _ _ _ _ _ _ _ a b F0 os D B T hm R => body_l_isN rfl hst_ B T g_isinstance g_tuple a.1 a.2 b F0 os D hm R
abbrev s_l_line : Stmt := top 32
def N_l_line : List Str := ["_law_well_here", "_law_letters", "_law_size", "_law_found", "_law_turn", "_law_order", "_law_step"]
def V_l_line : List Str := ["_law_well_here", "_law_letters", "_law_size", "_law_found", "_law_turn", "_law_order"]
def G_l_line : List Str := ["range", "_law_steps", "_law_take", "len"]
theorem sc_l_line : FnScope N_l_line ["_law_well_here", "_law_letters", "_law_size"] (defScope s_l_line) := ⟨rfl, rfl, rfl, by decide +kernel, rfl, by decide +kernel, by decide +kernel⟩
abbrev sp_l_line (K : PySem.W.Frag) : Sp := spZ (α := (Addr × (List Int) × Int × Int)) (β := ((List Int) × (List Int))) (fun a => [own a.1, (dat (PyData.int a.2.2.1)), (dat (PyData.int a.2.2.2))]) (fun a => (a.1, ol (List.map PyData.int a.2.1)) :: []) (fun a => m_l_line a.2.1 a.2.2.1 a.2.2.2) (fun a b => (dat (PyData.tuple (List.map PyData.int b.1)))) (fun a b => (a.1, ol (List.map PyData.int b.2)) :: [])
set_option maxHeartbeats 4000000 in
theorem body_l_line {X : Cx} (hsc : X.env.scope = defScope s_l_line) {sts_ : List Stmt} (hst_ : defBody s_l_line = sts_) (B : Bd X N_l_line V_l_line G_l_line 1) (T : Bt X V_l_line) (g_range : X.mg "range" = none) (c_l_steps : Cal X.prog X.w X.K X.mg X.base 1 "_law_steps" s_l_steps ["_law_letters"] (sp_l_steps X.K)) (c_l_take : Cal X.prog X.w X.K X.mg X.base 1 "_law_take" s_l_take ["_law_well_here", "_law_many"] (sp_l_take X.K)) (g_len : X.mg "len" = none) (q_well_here : Addr) (w_well_here : (List Int)) (letters : Int) (size : Int) (b : ((List Int) × (List Int))) (F0 : Hp) (os : Os) (D : Ends) (hm : m_l_line w_well_here letters size = some b) (R : RetZ F0 ((q_well_here, ol (List.map PyData.int b.2)) :: os) (dat (PyData.tuple (List.map PyData.int b.1))) D) :
    SX X [sl (own q_well_here), sl (dat (PyData.int letters)), sl (dat (PyData.int size)), un, un, un, un] ((q_well_here, ol (List.map PyData.int w_well_here)) :: os) F0 sts_ D := by
  subst hst_
  unfold m_l_line at hm
  refine sx_asg (i := 3) (vi := 3) (φ := (dat (PyData.tuple (List.map PyData.int ([] : (List Int)))))) B T rfl rfl (ex_tup (ds := []) ax_nil) ?_
  obtain ⟨t1, h1, hm⟩ := bnd hm
  obtain ⟨f4, h14, hm⟩ := bnd hm
  refine sx_for (c := anyOs) _ (fun (s2 : ((List Int) × (List Int))) (_ : Unit) => [sl (own q_well_here), sl (dat (PyData.int letters)), sl (dat (PyData.int size)), sl (dat (PyData.tuple (List.map PyData.int s2.1))), un, un, un]) (fun (s2 : ((List Int) × (List Int))) (_ : Unit) => (q_well_here, ol (List.map PyData.int s2.2)) :: os) B T (fun turn3 => gx_name (i := 4) (vi := 4) (φ := (dat (PyData.int turn3))) B T rfl rfl) (([] : (List Int)), w_well_here) () f4 h14 (ix_rng1 (gi := 0) B rfl g_range h1 (ex_v (i := 2) (j := 2) B rfl rfl rfl)) ⟨.inl rfl, .inl rfl, .inl rfl, .inl rfl, .inl rfl, .inl rfl, .inl rfl, trivial⟩ (fun _ _ => trivial) (fun F6 e5 s2 _ turn3 z15 hx hm => ?_) (fun _ => ?_)
  · clear h14
    obtain ⟨t7, h7, hm⟩ := bnd hm
    obtain ⟨t10, h10, hm⟩ := bnd hm
    refine sx_asgLc (i := 5) B T rfl (by rw [hsc]; exact lcl_of (by decide +kernel)) (lc_mk1 (j := 6) (vp := fun step8 => (dat (PyData.int step8))) (c := anyOs) (enc := PyData.int) (fun (_ : Unit) (step8 : Int) => some (if (!decide ((cut s2.1 (some (-1)) none) = [(-step8)])) = true then some step8 else none, ())) (fun (_ : Unit) (tl1 : Os) => (q_well_here, ol (List.map PyData.int s2.2)) :: tl1) () (t10) () B rfl rfl (by rw [B.hN, hsc]; decide +kernel) (by rw [hsc]; decide +kernel) (by decide) (lcF_ok h10) (ix_list (enc := PyData.int) (c := anyOs) (ex_call (a := letters) (b := t7) (gi := 1) (rest := (q_well_here, ol (List.map PyData.int s2.2)) :: os) B rfl c_l_steps (by decide) h7 (ax_cons (ex_v (i := 1) (j := 1) B rfl rfl rfl) ax_nil)) (fun _ _ => rdl_dat) trivial) (fun _ _ => trivial) (fun _ _ _ => (List.Perm.swap _ _ _)) (fun _ step8 t tl1 hx hf => by (obtain rfl := som hf; exact ⟨(!decide ((cut s2.1 (some (-1)) none) = [(-step8)])), _, fun X1 hX => by (have B1 := Bd.fam (W' := ["_law_found", "_law_step"]) (G' := []) B hX (by (try rw [hsc]); decide +kernel); exact ⟨.one (tx_neR (e := (eT PyData.int)) (x := (cut s2.1 (some (-1)) none)) (y := ([(-step8)])) B1 (eqv_tup eqv_int) (sh_tup sh_int) (by decide) rdx_dat rdx_dat (ex_cutT (enc := PyData.int) rdt_dat (ex_v (i := 3) (j := 0) B1 rfl rfl rfl) (px_some (ex_neg ex_int)) px_none) (ex_tup (ds := [(PyData.int (-step8))]) (hl := len_ok (n := 1) rfl) (ax_cons (ex_neg (ex_v (i := 6) (j := 1) B1 rfl rfl rfl)) ax_nil))), fun h => ⟨_, if_pos h, (ex_v (i := 6) (j := 1) B1 rfl rfl rfl)⟩, fun h => ⟨(by first | exact if_neg (by rw [h]; exact Bool.false_ne_true) | rfl), rfl⟩⟩)⟩))) (sw_ok (by rw [hsc]; decide +kernel) (by rw [hsc]; exact lcl_of (by decide +kernel)) (by decide) (by decide +kernel)) (fun q_order10 => ?_)
    refine sx_frz (j := 0) (i := 5) rfl rfl ?_
    obtain ⟨t11, h11, hm⟩ := bnd hm
    obtain ⟨t12, h12, hm⟩ := bnd hm
    obtain ⟨t13, h13, hm⟩ := bnd hm
    refine sx_asg (i := 3) (vi := 3) (φ := (dat (PyData.tuple (List.map PyData.int t13)))) B T rfl rfl (ex_catT (enc := PyData.int) h13 (ex_v (i := 3) (j := 3) B rfl rfl rfl) (ex_tup (ds := [(PyData.int t12)]) (hl := len_ok (n := 1) rfl) (ax_cons (ex_idxL (enc := PyData.int) h12 rdl_dat (ex_v (i := 5) (j := 5) B rfl rfl rfl) (ex_call (a := (q_well_here, s2.2, (t10.length : Int))) (b := t11) (gi := 2) (rest := os) B rfl c_l_take (by decide) h11 (ax_cons (ex_v (i := 0) (j := 0) B rfl rfl rfl) (ax_cons (EX.to (ex_fn (j := 3) B rfl g_len (by decide +kernel) call_len_seq (rc_lenL (ds := List.map PyData.int t10) rdl_dat) (ax_cons (ex_v (i := 5) (j := 5) B rfl rfl rfl) ax_nil)) (by rw [List.length_map])) ax_nil)))) ax_nil))) ?_
    obtain rfl := som hm
    exact sx_nil fun σ H a => ⟨(), (a.weak ⟨.inl rfl, .inl rfl, .inl rfl, .inl rfl, .inr rfl, .inr rfl, .inl rfl, trivial⟩)⟩
  · skip
    obtain rfl := som hm
    exact sx_ret (ex_v (i := 3) (j := 3) B rfl rfl rfl) (fun F H v e o c => R.rt F H v e o c)
theorem cal_l_line {P : Program} {w : World} {K : PySem.W.Frag} {mg : Str → Option Value} {base : Heap} {f : Addr} {fd : FuncData} (Fn : Fun K "_law_line" "_law_line" s_l_line f fd) (hmg : mg "_law_line" = some (.ref f)) (hb : Binds K fd ["_law_well_here", "_law_letters", "_law_size"] []) (g_range : mg "range" = none) (c_l_steps : Cal P w K mg base 1 "_law_steps" s_l_steps ["_law_letters"] (sp_l_steps K)) (c_l_take : Cal P w K mg base 1 "_law_take" s_l_take ["_law_well_here", "_law_many"] (sp_l_take K)) (g_len : mg "len" = none) : Cal P w K mg base 2 "_law_line" s_l_line ["_law_well_here", "_law_letters", "_law_size"] (sp_l_line K) := by
  obtain ⟨sts_, hst_⟩ : ∃ z_, defBody s_l_line = z_ := ⟨_, rfl⟩
  exact cal_ZQ (V := V_l_line) (Gs := G_l_line) (nl := 4) hst_ Fn sc_l_line (by decide +kernel) (by decide +kernel) hmg hb (fun _ => rfl) rfl fun _ _ _ _ _ _ _ a b F0 os D B T hm R => body_l_line rfl hst_ B T g_range c_l_steps c_l_take g_len a.1 a.2.1 a.2.2.1 a.2.2.2 b F0 os D hm R
abbrev s_l_told : Stmt := top 33
def N_l_told : List Str := ["_law_well_here", "_law_letters", "_law_steps_here", "_law_way", "_law_found", "_law_gone", "_law_one", "_law_turn", "_law_old", "_law_step"]
def V_l_told : List Str := ["_law_well_here", "_law_letters", "_law_steps_here", "_law_way", "_law_found", "_law_gone", "_law_one", "_law_turn", "_law_old"]
def G_l_told : List Str := ["_law_steps", "_law_take", "len", "range", "_law_line"]
theorem sc_l_told : FnScope N_l_told ["_law_well_here", "_law_letters"] (defScope s_l_told) := ⟨rfl, rfl, rfl, by decide +kernel, rfl, by decide +kernel, by decide +kernel⟩
abbrev sp_l_told (K : PySem.W.Frag) : Sp := spZ (α := (Addr × (List Int) × Int)) (β := ((List (List Int)) × (List Int))) (fun a => [own a.1, (dat (PyData.int a.2.2))]) (fun a => (a.1, ol (List.map PyData.int a.2.1)) :: []) (fun a => m_l_told a.2.1 a.2.2) (fun a b => (dat (PyData.list (List.map (eT PyData.int) b.1)))) (fun a b => (a.1, ol (List.map PyData.int b.2)) :: [])
set_option maxHeartbeats 4000000 in
theorem body_l_told {X : Cx} (hsc : X.env.scope = defScope s_l_told) {sts_ : List Stmt} (hst_ : defBody s_l_told = sts_) (B : Bd X N_l_told V_l_told G_l_told 2) (T : Bt X V_l_told) (c_l_steps : Cal X.prog X.w X.K X.mg X.base 1 "_law_steps" s_l_steps ["_law_letters"] (sp_l_steps X.K)) (c_l_take : Cal X.prog X.w X.K X.mg X.base 1 "_law_take" s_l_take ["_law_well_here", "_law_many"] (sp_l_take X.K)) (g_len : X.mg "len" = none) (g_range : X.mg "range" = none) (c_l_line : Cal X.prog X.w X.K X.mg X.base 2 "_law_line" s_l_line ["_law_well_here", "_law_letters", "_law_size"] (sp_l_line X.K)) (q_well_here : Addr) (w_well_here : (List Int)) (letters : Int) (b : ((List (List Int)) × (List Int))) (F0 : Hp) (os : Os) (D : Ends) (hm : m_l_told w_well_here letters = some b) (R : RetZ F0 ((q_well_here, ol (List.map PyData.int b.2)) :: os) (dat (PyData.list (List.map (eT PyData.int) b.1))) D) :
    SX X [sl (own q_well_here), sl (dat (PyData.int letters)), un, un, un, un, un, un, un, un] ((q_well_here, ol (List.map PyData.int w_well_here)) :: os) F0 sts_ D := by
  subst hst_
  unfold m_l_told at hm
  obtain ⟨t1, h1, hm⟩ := bnd hm
  obtain ⟨t2, h2, hm⟩ := bnd hm
  refine sx_par3 (i := 2) (j := 3) (l := 4) _ hsc B rfl rfl rfl (by decide) (by decide) (by decide) (by decide +kernel) (by decide +kernel) (by decide +kernel) (by intro env he; cases env; cases he; first | rfl | kernel_rfl) (aq_x (φ := (dat (PyData.list (List.map PyData.int t1)))) (ex_call (a := letters) (b := t1) (gi := 0) (rest := (q_well_here, ol (List.map PyData.int w_well_here)) :: os) B rfl c_l_steps (by decide) h1 (ax_cons (ex_v (i := 1) (j := 1) B rfl rfl rfl) ax_nil)) (aq_x (φ := (dat (PyData.int t2.1))) (ex_call (a := (q_well_here, w_well_here, 4)) (b := t2) (gi := 1) (rest := os) B rfl c_l_take (by decide) h2 (ax_cons (ex_v (i := 0) (j := 0) B rfl rfl rfl) (ax_cons ex_int ax_nil))) (aq_n (n := ol (List.map (eT PyData.int) ([] : (List (List Int))))) (en_lst (ds := []) ax_nil) (fun q_found3 => aq_nil)))) (fun v0 v1 v2 os_ hr_ => ?_) (by rintro φs os_ ⟨_, rfl, _, rfl, q_found3, _, rfl, rfl, rfl⟩; exact ⟨_, _, _, rfl⟩)
  obtain ⟨_, e0, _, e1, q_found3, _, e2, e8, e9⟩ := hr_
  cases e0; cases e1; cases e2; cases e8; cases e9
  refine sx_if (tx_cmp op_eq r2_eqI (nomark _) (ex_v (i := 3) (j := 3) B rfl rfl rfl) ex_int) (fun hk => ?_) (fun hk => ?_)
  · have hm := ifT hm hk
    obtain ⟨t4, h4, hm⟩ := bnd hm
    refine sx_asg (i := 5) (vi := 5) (φ := (dat (PyData.int t4.1))) B T rfl rfl (EX.pre (ex_call (a := (q_well_here, t2.2, (t1.length : Int))) (b := t4) (gi := 1) (rest := (q_found3, ol (List.map (eT PyData.int) ([] : (List (List Int))))) :: os) B rfl c_l_take (by decide) h4 (ax_cons (ex_v (i := 0) (j := 0) B rfl rfl rfl) (ax_cons (EX.to (ex_fn (j := 2) B rfl g_len (by decide +kernel) call_len_seq (rc_lenL (ds := List.map PyData.int t1) rdl_dat) (ax_cons (ex_v (i := 2) (j := 2) B rfl rfl rfl) ax_nil)) (by rw [List.length_map])) ax_nil))) (perm_at (k := 1) rfl)) ?_
    obtain ⟨t5, h5, hm⟩ := bnd hm
    obtain ⟨t8, h8, hm⟩ := bnd hm
    refine sx_asgLc (i := 4) B T rfl (by rw [hsc]; exact lcl_of (by decide +kernel)) (lc_mk1 (j := 9) (vp := fun step6 => (dat (PyData.int step6))) (c := anyOs) (enc := (eT PyData.int)) (fun (_ : Unit) (step6 : Int) => some (some ([step6]), ())) (fun (_ : Unit) (tl1 : Os) => (q_well_here, ol (List.map PyData.int t4.2)) :: (q_found3, ol (List.map (eT PyData.int) ([] : (List (List Int))))) :: tl1) () (t8) () B rfl rfl (by rw [B.hN, hsc]; decide +kernel) (by rw [hsc]; decide +kernel) (by decide) (lcT_ok h8) (ix_list (enc := PyData.int) (c := anyOs) (EN.ex (en_cat (enc := PyData.int) h5 (EN.ex (en_cut (enc := PyData.int) rdl_dat (ex_v (i := 2) (j := 2) B rfl rfl rfl) px_none (px_some (ex_v (i := 5) (j := 5) B rfl rfl rfl)))) (EN.ex (en_cut (enc := PyData.int) rdl_dat (ex_v (i := 2) (j := 2) B rfl rfl rfl) (px_some (ex_add (ex_v (i := 5) (j := 5) B rfl rfl rfl) ex_int)) px_none)))) (fun _ _ => rdl_dat) trivial) (fun _ _ => trivial) (fun _ _ _ => ((List.Perm.cons _ (List.Perm.swap _ _ _)).trans (List.Perm.swap _ _ _))) (fun _ step6 t tl1 hx hf => by (obtain rfl := som hf; exact ⟨true, _, fun X1 hX => by (have B1 := Bd.fam (W' := ["_law_step"]) (G' := []) B hX (by (try rw [hsc]); decide +kernel); exact ⟨.nil, fun _ => ⟨_, rfl, (ex_tup (ds := [(PyData.int step6)]) (hl := len_ok (n := 1) rfl) (ax_cons (ex_v (i := 9) (j := 0) B1 rfl rfl rfl) ax_nil))⟩, fun h => Bool.noConfusion h⟩)⟩))) (sw_ok (by rw [hsc]; decide +kernel) (by rw [hsc]; exact lcl_of (by decide +kernel)) (by decide) (by decide +kernel)) (fun q_found8 => ?_)
    refine sx_fall ?_ rfl
    refine sx_if (tx_cmp op_eq r2_eqI (nomark _) (ex_v (i := 3) (j := 3) B rfl rfl rfl) ex_int) (fun hk => ?_) (fun hk => ?_)
    · have hm := ifT hm hk
      obtain ⟨t9, h9, hm⟩ := bnd hm
      obtain ⟨t10, h10, hm⟩ := bnd hm
      refine sx_asg (i := 6) (vi := 6) (φ := (dat (PyData.int t10))) B T rfl rfl (ex_idxL (enc := PyData.int) h10 rdl_dat (ex_v (i := 2) (j := 2) B rfl rfl rfl) (EX.pre (ex_call (a := (q_well_here, t4.2, (t1.length : Int))) (b := t9) (gi := 1) (rest := (q_found8, ol (List.map (eT PyData.int) t8)) :: (q_found3, ol (List.map (eT PyData.int) ([] : (List (List Int))))) :: os) B rfl c_l_take (by decide) h9 (ax_cons (ex_v (i := 0) (j := 0) B rfl rfl rfl) (ax_cons (EX.to (ex_fn (j := 2) B rfl g_len (by decide +kernel) call_len_seq (rc_lenL (ds := List.map PyData.int t1) rdl_dat) (ax_cons (ex_v (i := 2) (j := 2) B rfl rfl rfl) ax_nil)) (by rw [List.length_map])) ax_nil))) (perm_at (k := 1) rfl))) ?_
      obtain ⟨t13, h13, hm⟩ := bnd hm
      refine sx_asgN (i := 4) (vi := 4) (n := ol (List.map (eT PyData.int) (cut t13 none (some 8)))) B T rfl rfl (en_cut (enc := (eT PyData.int)) rdl_dat (EN.ex (en_lc (lc_mk1 (j := 9) (vp := fun step11 => (dat (PyData.int step11))) (c := anyOs) (enc := (eT PyData.int)) (fun (_ : Unit) (step11 : Int) => some (if (!decide (step11 = (-t10))) = true then some ([t10, step11]) else none, ())) (fun (_ : Unit) (tl1 : Os) => (q_well_here, ol (List.map PyData.int t9.2)) :: (q_found8, ol (List.map (eT PyData.int) t8)) :: (q_found3, ol (List.map (eT PyData.int) ([] : (List (List Int))))) :: tl1) () (t13) () B rfl rfl (by rw [B.hN, hsc]; decide +kernel) (by rw [hsc]; decide +kernel) (by decide) (lcF_ok h13) (ix_list (enc := PyData.int) (c := anyOs) (ex_v (i := 2) (j := 2) B rfl rfl rfl) (fun _ _ => rdl_dat) trivial) (fun _ _ => trivial) (fun _ _ _ => ((List.Perm.cons _ ((List.Perm.cons _ (List.Perm.swap _ _ _)).trans (List.Perm.swap _ _ _))).trans (List.Perm.swap _ _ _))) (fun _ step11 t tl1 hx hf => by (obtain rfl := som hf; exact ⟨(!decide (step11 = (-t10))), _, fun X1 hX => by (have B1 := Bd.fam (W' := ["_law_one", "_law_step"]) (G' := []) B hX (by (try rw [hsc]); decide +kernel); exact ⟨.one (tx_cmp op_ne r2_neI (nomark _) (ex_v (i := 9) (j := 1) B1 rfl rfl rfl) (ex_neg (ex_v (i := 6) (j := 0) B1 rfl rfl rfl))), fun h => ⟨_, if_pos h, (ex_tup (ds := [(PyData.int t10), (PyData.int step11)]) (hl := len_ok (n := 2) rfl) (ax_cons (ex_v (i := 6) (j := 0) B1 rfl rfl rfl) (ax_cons (ex_v (i := 9) (j := 1) B1 rfl rfl rfl) ax_nil)))⟩, fun h => ⟨(by first | exact if_neg (by rw [h]; exact Bool.false_ne_true) | rfl), rfl⟩⟩)⟩))))) px_none (px_some ex_int)) (fun q_found13 => ?_)
      refine sx_fall ?_ rfl
      obtain ⟨t14, h14, hm⟩ := bnd hm
      obtain ⟨t15, h15, hm⟩ := bnd hm
      obtain ⟨f18, h30, hm⟩ := bnd hm
      refine sx_for (c := anyOs) _ (fun (s16 : ((List Int) × (List (List Int)))) (_ : Unit) => [sl (own q_well_here), sl (dat (PyData.int letters)), sl (dat (PyData.list (List.map PyData.int t1))), sl (dat (PyData.int t2.1)), sl (own q_found13), sl (dat (PyData.int t4.1)), sl (dat (PyData.int t10)), un, un, un]) (fun (s16 : ((List Int) × (List (List Int)))) (_ : Unit) => (q_well_here, ol (List.map PyData.int s16.1)) :: (q_found13, ol (List.map (eT PyData.int) s16.2)) :: (q_found8, ol (List.map (eT PyData.int) t8)) :: (q_found3, ol (List.map (eT PyData.int) ([] : (List (List Int))))) :: os) B T (fun turn17 => gx_name (i := 7) (vi := 7) (φ := (dat (PyData.int turn17))) B T rfl rfl) (t14.2, (cut t13 none (some 8))) () f18 h30 (ix_rng1 (gi := 3) B rfl g_range h15 (EX.pre (ex_call (a := (q_well_here, t9.2, (9 - ((cut t13 none (some 8)).length : Int)))) (b := t14) (gi := 1) (rest := (q_found13, ol (List.map (eT PyData.int) (cut t13 none (some 8)))) :: (q_found8, ol (List.map (eT PyData.int) t8)) :: (q_found3, ol (List.map (eT PyData.int) ([] : (List (List Int))))) :: os) B rfl c_l_take (by decide) h14 (ax_cons (ex_v (i := 0) (j := 0) B rfl rfl rfl) (ax_cons (ex_sub ex_int (EX.to (ex_fn (j := 2) B rfl g_len (by decide +kernel) call_len_seq (rc_lenL (ds := List.map (eT PyData.int) (cut t13 none (some 8))) (rdl_own 1 rfl)) (ax_cons (ex_v (i := 4) (j := 4) B rfl rfl rfl) ax_nil)) (by rw [List.length_map]))) ax_nil))) (perm_at (k := 1) rfl))) ⟨.inl rfl, .inl rfl, .inl rfl, .inl rfl, .inl rfl, .inl rfl, .inl rfl, .inl rfl, .inl rfl, .inl rfl, trivial⟩ (fun _ _ => trivial) (fun F20 e19 s16 _ turn17 z33 hx hm => ?_) (fun _ => ?_)
      · clear h30
        obtain ⟨t22, h22, hm⟩ := bnd hm
        refine sx_if (WX.tx (wx_and (l := t22.1) (os2 := (q_well_here, ol (List.map PyData.int t22.2)) :: (q_found13, ol (List.map (eT PyData.int) s16.2)) :: (q_found8, ol (List.map (eT PyData.int) t8)) :: (q_found3, ol (List.map (eT PyData.int) ([] : (List (List Int))))) :: os) (tx_neR (e := (eL (eT PyData.int))) (x := s16.2) (y := ([] : (List (List Int)))) B (eqv_list (eqv_tup eqv_int)) (sh_list (sh_tup sh_int)) (by decide) (rdx_own (ds := List.map (eT PyData.int) s16.2) 1 rfl) rdx_dat (ex_v (i := 4) (j := 4) B rfl rfl rfl) (EN.ex (en_lst (ds := []) ax_nil))) (fun hk => by (have hm := ifT h22 hk; obtain ⟨t21, h21, hm⟩ := bnd hm; obtain rfl := som hm; exact (wx_and1 (tx_cmp op_eq r2_eqI (nomark _) (ex_call (a := (q_well_here, s16.1, 4)) (b := t21) (gi := 1) (rest := (q_found13, ol (List.map (eT PyData.int) s16.2)) :: (q_found8, ol (List.map (eT PyData.int) t8)) :: (q_found3, ol (List.map (eT PyData.int) ([] : (List (List Int))))) :: os) B rfl c_l_take (by decide) h21 (ax_cons (ex_v (i := 0) (j := 0) B rfl rfl rfl) (ax_cons ex_int ax_nil))) ex_int)))) (fun hk => by (have hm := ifF h22 hk; obtain rfl := som hm; rfl)) (and_fix (fun hk => by (have hm := ifF h22 hk; obtain rfl := som hm; rfl))))) (fun hk => ?_) (fun hk => ?_)
        · have hm := ifT hm hk
          obtain ⟨t23, h23, hm⟩ := bnd hm
          obtain ⟨t24, h24, hm⟩ := bnd hm
          refine sx_asg (i := 8) (vi := 8) (φ := (dat (PyData.tuple (List.map PyData.int t24)))) B T rfl rfl (ex_idxL (enc := (eT PyData.int)) h24 (rdl_own 1 rfl) (ex_v (i := 4) (j := 4) B rfl rfl rfl) (ex_call (a := (q_well_here, t22.2, (s16.2.length : Int))) (b := t23) (gi := 1) (rest := (q_found13, ol (List.map (eT PyData.int) s16.2)) :: (q_found8, ol (List.map (eT PyData.int) t8)) :: (q_found3, ol (List.map (eT PyData.int) ([] : (List (List Int))))) :: os) B rfl c_l_take (by decide) h23 (ax_cons (ex_v (i := 0) (j := 0) B rfl rfl rfl) (ax_cons (EX.to (ex_fn (j := 2) B rfl g_len (by decide +kernel) call_len_seq (rc_lenL (ds := List.map (eT PyData.int) s16.2) (rdl_own 1 rfl)) (ax_cons (ex_v (i := 4) (j := 4) B rfl rfl rfl) ax_nil)) (by rw [List.length_map])) ax_nil)))) ?_
          obtain ⟨t25, h25, hm⟩ := bnd hm
          obtain ⟨t26, h26, hm⟩ := bnd hm
          refine sx_expr (ex_app (enc := (eT PyData.int)) (j := 1) (xs0 := s16.2) (xs := s16.2) (y := (cut t24 none (some (1 + t25.1)))) h26 (ex_v (i := 4) (j := 4) B rfl rfl rfl) rfl (ex_cutT (enc := PyData.int) rdt_dat (ex_v (i := 8) (j := 8) B rfl rfl rfl) px_none (px_some (ex_add ex_int (ex_call (a := (q_well_here, t23.2, (t24.length : Int))) (b := t25) (gi := 1) (rest := (q_found13, ol (List.map (eT PyData.int) s16.2)) :: (q_found8, ol (List.map (eT PyData.int) t8)) :: (q_found3, ol (List.map (eT PyData.int) ([] : (List (List Int))))) :: os) B rfl c_l_take (by decide) h25 (ax_cons (ex_v (i := 0) (j := 0) B rfl rfl rfl) (ax_cons (EX.to (ex_fn (j := 2) B rfl g_len (by decide +kernel) call_len_seq (rc_lenT (ds := List.map PyData.int t24) rdt_dat) (ax_cons (ex_v (i := 8) (j := 8) B rfl rfl rfl) ax_nil)) (by rw [List.length_map])) ax_nil)))))) rfl) ?_
          refine sx_fall ?_ rfl
          obtain rfl := som hm
          exact sx_nil fun σ H a => ⟨(), (a.weak ⟨.inl rfl, .inl rfl, .inl rfl, .inl rfl, .inl rfl, .inl rfl, .inl rfl, .inr rfl, .inr rfl, .inl rfl, trivial⟩)⟩
        · have hm := ifF hm hk
          obtain ⟨t27, h27, hm⟩ := bnd hm
          obtain ⟨t28, h28, hm⟩ := bnd hm
          obtain ⟨t29, h29, hm⟩ := bnd hm
          refine sx_expr (ex_app (enc := (eT PyData.int)) (j := 1) (xs0 := s16.2) (xs := s16.2) (y := t28.1) h29 (ex_v (i := 4) (j := 4) B rfl rfl rfl) rfl (ex_call (a := (q_well_here, t27.2, letters, (1 + t27.1))) (b := t28) (gi := 4) (rest := (q_found13, ol (List.map (eT PyData.int) s16.2)) :: (q_found8, ol (List.map (eT PyData.int) t8)) :: (q_found3, ol (List.map (eT PyData.int) ([] : (List (List Int))))) :: os) B rfl c_l_line (by decide) h28 (ax_cons (ex_v (i := 0) (j := 0) B rfl rfl rfl) (ax_cons (ex_v (i := 1) (j := 1) B rfl rfl rfl) (ax_cons (ex_add ex_int (ex_call (a := (q_well_here, t22.2, 5)) (b := t27) (gi := 1) (rest := (q_found13, ol (List.map (eT PyData.int) s16.2)) :: (q_found8, ol (List.map (eT PyData.int) t8)) :: (q_found3, ol (List.map (eT PyData.int) ([] : (List (List Int))))) :: os) B rfl c_l_take (by decide) h27 (ax_cons (ex_v (i := 0) (j := 0) B rfl rfl rfl) (ax_cons ex_int ax_nil)))) ax_nil)))) rfl) ?_
          refine sx_fall ?_ rfl
          obtain rfl := som hm
          exact sx_nil fun σ H a => ⟨(), (a.weak ⟨.inl rfl, .inl rfl, .inl rfl, .inl rfl, .inl rfl, .inl rfl, .inl rfl, .inr rfl, .inl rfl, .inl rfl, trivial⟩)⟩
      · skip
        refine sx_frz (j := 1) (i := 4) rfl rfl ?_
        obtain ⟨t31, h31, hm⟩ := bnd hm
        refine sx_asg (i := 7) (vi := 7) (φ := (dat (PyData.int t31.1))) B T rfl rfl (ex_call (a := (q_well_here, f18.1, ((f18.2.length : Int) + 1))) (b := t31) (gi := 1) (rest := (q_found8, ol (List.map (eT PyData.int) t8)) :: (q_found3, ol (List.map (eT PyData.int) ([] : (List (List Int))))) :: os) B rfl c_l_take (by decide) h31 (ax_cons (ex_v (i := 0) (j := 0) B rfl rfl rfl) (ax_cons (ex_add (EX.to (ex_fn (j := 2) B rfl g_len (by decide +kernel) call_len_seq (rc_lenL (ds := List.map (eT PyData.int) f18.2) rdl_dat) (ax_cons (ex_v (i := 4) (j := 4) B rfl rfl rfl) ax_nil)) (by rw [List.length_map])) ex_int) ax_nil))) ?_
        obtain ⟨t32, h32, hm⟩ := bnd hm
        obtain rfl := som hm
        exact sx_ret (EN.ex (en_cat (enc := (eT PyData.int)) h32 (EN.ex (en_cut (enc := (eT PyData.int)) rdl_dat (ex_v (i := 4) (j := 4) B rfl rfl rfl) (px_some (ex_v (i := 7) (j := 7) B rfl rfl rfl)) px_none)) (EN.ex (en_cut (enc := (eT PyData.int)) rdl_dat (ex_v (i := 4) (j := 4) B rfl rfl rfl) px_none (px_some (ex_v (i := 7) (j := 7) B rfl rfl rfl)))))) (fun F H v e o c => R.rt F H v e ((((o.perm (perm_at (k := 1) rfl)).drop).perm (perm_at (k := 1) rfl)).drop) c)
    · have hm := ifF hm hk
      refine sx_fall ?_ rfl
      obtain ⟨t34, h34, hm⟩ := bnd hm
      obtain ⟨t35, h35, hm⟩ := bnd hm
      obtain ⟨f38, h50, hm⟩ := bnd hm
      refine sx_for (c := anyOs) _ (fun (s36 : ((List Int) × (List (List Int)))) (_ : Unit) => [sl (own q_well_here), sl (dat (PyData.int letters)), sl (dat (PyData.list (List.map PyData.int t1))), sl (dat (PyData.int t2.1)), sl (own q_found8), sl (dat (PyData.int t4.1)), un, un, un, un]) (fun (s36 : ((List Int) × (List (List Int)))) (_ : Unit) => (q_well_here, ol (List.map PyData.int s36.1)) :: (q_found8, ol (List.map (eT PyData.int) s36.2)) :: (q_found3, ol (List.map (eT PyData.int) ([] : (List (List Int))))) :: os) B T (fun turn37 => gx_name (i := 7) (vi := 7) (φ := (dat (PyData.int turn37))) B T rfl rfl) (t34.2, t8) () f38 h50 (ix_rng1 (gi := 3) B rfl g_range h35 (EX.pre (ex_call (a := (q_well_here, t4.2, (9 - (t8.length : Int)))) (b := t34) (gi := 1) (rest := (q_found8, ol (List.map (eT PyData.int) t8)) :: (q_found3, ol (List.map (eT PyData.int) ([] : (List (List Int))))) :: os) B rfl c_l_take (by decide) h34 (ax_cons (ex_v (i := 0) (j := 0) B rfl rfl rfl) (ax_cons (ex_sub ex_int (EX.to (ex_fn (j := 2) B rfl g_len (by decide +kernel) call_len_seq (rc_lenL (ds := List.map (eT PyData.int) t8) (rdl_own 1 rfl)) (ax_cons (ex_v (i := 4) (j := 4) B rfl rfl rfl) ax_nil)) (by rw [List.length_map]))) ax_nil))) (perm_at (k := 1) rfl))) ⟨.inl rfl, .inl rfl, .inl rfl, .inl rfl, .inl rfl, .inl rfl, .inl rfl, .inl rfl, .inl rfl, .inl rfl, trivial⟩ (fun _ _ => trivial) (fun F40 e39 s36 _ turn37 z53 hx hm => ?_) (fun _ => ?_)
      · clear h50
        obtain ⟨t42, h42, hm⟩ := bnd hm
        refine sx_if (WX.tx (wx_and (l := t42.1) (os2 := (q_well_here, ol (List.map PyData.int t42.2)) :: (q_found8, ol (List.map (eT PyData.int) s36.2)) :: (q_found3, ol (List.map (eT PyData.int) ([] : (List (List Int))))) :: os) (tx_neR (e := (eL (eT PyData.int))) (x := s36.2) (y := ([] : (List (List Int)))) B (eqv_list (eqv_tup eqv_int)) (sh_list (sh_tup sh_int)) (by decide) (rdx_own (ds := List.map (eT PyData.int) s36.2) 1 rfl) rdx_dat (ex_v (i := 4) (j := 4) B rfl rfl rfl) (EN.ex (en_lst (ds := []) ax_nil))) (fun hk => by (have hm := ifT h42 hk; obtain ⟨t41, h41, hm⟩ := bnd hm; obtain rfl := som hm; exact (wx_and1 (tx_cmp op_eq r2_eqI (nomark _) (ex_call (a := (q_well_here, s36.1, 4)) (b := t41) (gi := 1) (rest := (q_found8, ol (List.map (eT PyData.int) s36.2)) :: (q_found3, ol (List.map (eT PyData.int) ([] : (List (List Int))))) :: os) B rfl c_l_take (by decide) h41 (ax_cons (ex_v (i := 0) (j := 0) B rfl rfl rfl) (ax_cons ex_int ax_nil))) ex_int)))) (fun hk => by (have hm := ifF h42 hk; obtain rfl := som hm; rfl)) (and_fix (fun hk => by (have hm := ifF h42 hk; obtain rfl := som hm; rfl))))) (fun hk => ?_) (fun hk => ?_)
        · have hm := ifT hm hk
          obtain ⟨t43, h43, hm⟩ := bnd hm
          obtain ⟨t44, h44, hm⟩ := bnd hm
          refine sx_asg (i := 8) (vi := 8) (φ := (dat (PyData.tuple (List.map PyData.int t44)))) B T rfl rfl (ex_idxL (enc := (eT PyData.int)) h44 (rdl_own 1 rfl) (ex_v (i := 4) (j := 4) B rfl rfl rfl) (ex_call (a := (q_well_here, t42.2, (s36.2.length : Int))) (b := t43) (gi := 1) (rest := (q_found8, ol (List.map (eT PyData.int) s36.2)) :: (q_found3, ol (List.map (eT PyData.int) ([] : (List (List Int))))) :: os) B rfl c_l_take (by decide) h43 (ax_cons (ex_v (i := 0) (j := 0) B rfl rfl rfl) (ax_cons (EX.to (ex_fn (j := 2) B rfl g_len (by decide +kernel) call_len_seq (rc_lenL (ds := List.map (eT PyData.int) s36.2) (rdl_own 1 rfl)) (ax_cons (ex_v (i := 4) (j := 4) B rfl rfl rfl) ax_nil)) (by rw [List.length_map])) ax_nil)))) ?_
          obtain ⟨t45, h45, hm⟩ := bnd hm
          obtain ⟨t46, h46, hm⟩ := bnd hm
          refine sx_expr (ex_app (enc := (eT PyData.int)) (j := 1) (xs0 := s36.2) (xs := s36.2) (y := (cut t44 none (some (1 + t45.1)))) h46 (ex_v (i := 4) (j := 4) B rfl rfl rfl) rfl (ex_cutT (enc := PyData.int) rdt_dat (ex_v (i := 8) (j := 8) B rfl rfl rfl) px_none (px_some (ex_add ex_int (ex_call (a := (q_well_here, t43.2, (t44.length : Int))) (b := t45) (gi := 1) (rest := (q_found8, ol (List.map (eT PyData.int) s36.2)) :: (q_found3, ol (List.map (eT PyData.int) ([] : (List (List Int))))) :: os) B rfl c_l_take (by decide) h45 (ax_cons (ex_v (i := 0) (j := 0) B rfl rfl rfl) (ax_cons (EX.to (ex_fn (j := 2) B rfl g_len (by decide +kernel) call_len_seq (rc_lenT (ds := List.map PyData.int t44) rdt_dat) (ax_cons (ex_v (i := 8) (j := 8) B rfl rfl rfl) ax_nil)) (by rw [List.length_map])) ax_nil)))))) rfl) ?_
          refine sx_fall ?_ rfl
          obtain rfl := som hm
          exact sx_nil fun σ H a => ⟨(), (a.weak ⟨.inl rfl, .inl rfl, .inl rfl, .inl rfl, .inl rfl, .inl rfl, .inl rfl, .inr rfl, .inr rfl, .inl rfl, trivial⟩)⟩
        · have hm := ifF hm hk
          obtain ⟨t47, h47, hm⟩ := bnd hm
          obtain ⟨t48, h48, hm⟩ := bnd hm
          obtain ⟨t49, h49, hm⟩ := bnd hm
          refine sx_expr (ex_app (enc := (eT PyData.int)) (j := 1) (xs0 := s36.2) (xs := s36.2) (y := t48.1) h49 (ex_v (i := 4) (j := 4) B rfl rfl rfl) rfl (ex_call (a := (q_well_here, t47.2, letters, (1 + t47.1))) (b := t48) (gi := 4) (rest := (q_found8, ol (List.map (eT PyData.int) s36.2)) :: (q_found3, ol (List.map (eT PyData.int) ([] : (List (List Int))))) :: os) B rfl c_l_line (by decide) h48 (ax_cons (ex_v (i := 0) (j := 0) B rfl rfl rfl) (ax_cons (ex_v (i := 1) (j := 1) B rfl rfl rfl) (ax_cons (ex_add ex_int (ex_call (a := (q_well_here, t42.2, 5)) (b := t47) (gi := 1) (rest := (q_found8, ol (List.map (eT PyData.int) s36.2)) :: (q_found3, ol (List.map (eT PyData.int) ([] : (List (List Int))))) :: os) B rfl c_l_take (by decide) h47 (ax_cons (ex_v (i := 0) (j := 0) B rfl rfl rfl) (ax_cons ex_int ax_nil)))) ax_nil)))) rfl) ?_
          refine sx_fall ?_ rfl
          obtain rfl := som hm
          exact sx_nil fun σ H a => ⟨(), (a.weak ⟨.inl rfl, .inl rfl, .inl rfl, .inl rfl, .inl rfl, .inl rfl, .inl rfl, .inr rfl, .inl rfl, .inl rfl, trivial⟩)⟩
      · skip
        refine sx_frz (j := 1) (i := 4) rfl rfl ?_
        obtain ⟨t51, h51, hm⟩ := bnd hm
        refine sx_asg (i := 7) (vi := 7) (φ := (dat (PyData.int t51.1))) B T rfl rfl (ex_call (a := (q_well_here, f38.1, ((f38.2.length : Int) + 1))) (b := t51) (gi := 1) (rest := (q_found3, ol (List.map (eT PyData.int) ([] : (List (List Int))))) :: os) B rfl c_l_take (by decide) h51 (ax_cons (ex_v (i := 0) (j := 0) B rfl rfl rfl) (ax_cons (ex_add (EX.to (ex_fn (j := 2) B rfl g_len (by decide +kernel) call_len_seq (rc_lenL (ds := List.map (eT PyData.int) f38.2) rdl_dat) (ax_cons (ex_v (i := 4) (j := 4) B rfl rfl rfl) ax_nil)) (by rw [List.length_map])) ex_int) ax_nil))) ?_
        obtain ⟨t52, h52, hm⟩ := bnd hm
        obtain rfl := som hm
        exact sx_ret (EN.ex (en_cat (enc := (eT PyData.int)) h52 (EN.ex (en_cut (enc := (eT PyData.int)) rdl_dat (ex_v (i := 4) (j := 4) B rfl rfl rfl) (px_some (ex_v (i := 7) (j := 7) B rfl rfl rfl)) px_none)) (EN.ex (en_cut (enc := (eT PyData.int)) rdl_dat (ex_v (i := 4) (j := 4) B rfl rfl rfl) px_none (px_some (ex_v (i := 7) (j := 7) B rfl rfl rfl)))))) (fun F H v e o c => R.rt F H v e ((o.perm (perm_at (k := 1) rfl)).drop) c)
  · have hm := ifF hm hk
    refine sx_fall ?_ rfl
    refine sx_if (tx_cmp op_eq r2_eqI (nomark _) (ex_v (i := 3) (j := 3) B rfl rfl rfl) ex_int) (fun hk => ?_) (fun hk => ?_)
    · have hm := ifT hm hk
      obtain ⟨t54, h54, hm⟩ := bnd hm
      obtain ⟨t55, h55, hm⟩ := bnd hm
      refine sx_asg (i := 6) (vi := 6) (φ := (dat (PyData.int t55))) B T rfl rfl (ex_idxL (enc := PyData.int) h55 rdl_dat (ex_v (i := 2) (j := 2) B rfl rfl rfl) (EX.pre (ex_call (a := (q_well_here, t2.2, (t1.length : Int))) (b := t54) (gi := 1) (rest := (q_found3, ol (List.map (eT PyData.int) ([] : (List (List Int))))) :: os) B rfl c_l_take (by decide) h54 (ax_cons (ex_v (i := 0) (j := 0) B rfl rfl rfl) (ax_cons (EX.to (ex_fn (j := 2) B rfl g_len (by decide +kernel) call_len_seq (rc_lenL (ds := List.map PyData.int t1) rdl_dat) (ax_cons (ex_v (i := 2) (j := 2) B rfl rfl rfl) ax_nil)) (by rw [List.length_map])) ax_nil))) (perm_at (k := 1) rfl))) ?_
      obtain ⟨t58, h58, hm⟩ := bnd hm
      refine sx_asgN (i := 4) (vi := 4) (n := ol (List.map (eT PyData.int) (cut t58 none (some 8)))) B T rfl rfl (en_cut (enc := (eT PyData.int)) rdl_dat (EN.ex (en_lc (lc_mk1 (j := 9) (vp := fun step56 => (dat (PyData.int step56))) (c := anyOs) (enc := (eT PyData.int)) (fun (_ : Unit) (step56 : Int) => some (if (!decide (step56 = (-t55))) = true then some ([t55, step56]) else none, ())) (fun (_ : Unit) (tl1 : Os) => (q_well_here, ol (List.map PyData.int t54.2)) :: (q_found3, ol (List.map (eT PyData.int) ([] : (List (List Int))))) :: tl1) () (t58) () B rfl rfl (by rw [B.hN, hsc]; decide +kernel) (by rw [hsc]; decide +kernel) (by decide) (lcF_ok h58) (ix_list (enc := PyData.int) (c := anyOs) (ex_v (i := 2) (j := 2) B rfl rfl rfl) (fun _ _ => rdl_dat) trivial) (fun _ _ => trivial) (fun _ _ _ => ((List.Perm.cons _ (List.Perm.swap _ _ _)).trans (List.Perm.swap _ _ _))) (fun _ step56 t tl1 hx hf => by (obtain rfl := som hf; exact ⟨(!decide (step56 = (-t55))), _, fun X1 hX => by (have B1 := Bd.fam (W' := ["_law_one", "_law_step"]) (G' := []) B hX (by (try rw [hsc]); decide +kernel); exact ⟨.one (tx_cmp op_ne r2_neI (nomark _) (ex_v (i := 9) (j := 1) B1 rfl rfl rfl) (ex_neg (ex_v (i := 6) (j := 0) B1 rfl rfl rfl))), fun h => ⟨_, if_pos h, (ex_tup (ds := [(PyData.int t55), (PyData.int step56)]) (hl := len_ok (n := 2) rfl) (ax_cons (ex_v (i := 6) (j := 0) B1 rfl rfl rfl) (ax_cons (ex_v (i := 9) (j := 1) B1 rfl rfl rfl) ax_nil)))⟩, fun h => ⟨(by first | exact if_neg (by rw [h]; exact Bool.false_ne_true) | rfl), rfl⟩⟩)⟩))))) px_none (px_some ex_int)) (fun q_found58 => ?_)
      refine sx_fall ?_ rfl
      obtain ⟨t59, h59, hm⟩ := bnd hm
      obtain ⟨t60, h60, hm⟩ := bnd hm
      obtain ⟨f63, h75, hm⟩ := bnd hm
      refine sx_for (c := anyOs) _ (fun (s61 : ((List Int) × (List (List Int)))) (_ : Unit) => [sl (own q_well_here), sl (dat (PyData.int letters)), sl (dat (PyData.list (List.map PyData.int t1))), sl (dat (PyData.int t2.1)), sl (own q_found58), un, sl (dat (PyData.int t55)), un, un, un]) (fun (s61 : ((List Int) × (List (List Int)))) (_ : Unit) => (q_well_here, ol (List.map PyData.int s61.1)) :: (q_found58, ol (List.map (eT PyData.int) s61.2)) :: (q_found3, ol (List.map (eT PyData.int) ([] : (List (List Int))))) :: os) B T (fun turn62 => gx_name (i := 7) (vi := 7) (φ := (dat (PyData.int turn62))) B T rfl rfl) (t59.2, (cut t58 none (some 8))) () f63 h75 (ix_rng1 (gi := 3) B rfl g_range h60 (EX.pre (ex_call (a := (q_well_here, t54.2, (9 - ((cut t58 none (some 8)).length : Int)))) (b := t59) (gi := 1) (rest := (q_found58, ol (List.map (eT PyData.int) (cut t58 none (some 8)))) :: (q_found3, ol (List.map (eT PyData.int) ([] : (List (List Int))))) :: os) B rfl c_l_take (by decide) h59 (ax_cons (ex_v (i := 0) (j := 0) B rfl rfl rfl) (ax_cons (ex_sub ex_int (EX.to (ex_fn (j := 2) B rfl g_len (by decide +kernel) call_len_seq (rc_lenL (ds := List.map (eT PyData.int) (cut t58 none (some 8))) (rdl_own 1 rfl)) (ax_cons (ex_v (i := 4) (j := 4) B rfl rfl rfl) ax_nil)) (by rw [List.length_map]))) ax_nil))) (perm_at (k := 1) rfl))) ⟨.inl rfl, .inl rfl, .inl rfl, .inl rfl, .inl rfl, .inl rfl, .inl rfl, .inl rfl, .inl rfl, .inl rfl, trivial⟩ (fun _ _ => trivial) (fun F65 e64 s61 _ turn62 z78 hx hm => ?_) (fun _ => ?_)
      · clear h75
        obtain ⟨t67, h67, hm⟩ := bnd hm
        refine sx_if (WX.tx (wx_and (l := t67.1) (os2 := (q_well_here, ol (List.map PyData.int t67.2)) :: (q_found58, ol (List.map (eT PyData.int) s61.2)) :: (q_found3, ol (List.map (eT PyData.int) ([] : (List (List Int))))) :: os) (tx_neR (e := (eL (eT PyData.int))) (x := s61.2) (y := ([] : (List (List Int)))) B (eqv_list (eqv_tup eqv_int)) (sh_list (sh_tup sh_int)) (by decide) (rdx_own (ds := List.map (eT PyData.int) s61.2) 1 rfl) rdx_dat (ex_v (i := 4) (j := 4) B rfl rfl rfl) (EN.ex (en_lst (ds := []) ax_nil))) (fun hk => by (have hm := ifT h67 hk; obtain ⟨t66, h66, hm⟩ := bnd hm; obtain rfl := som hm; exact (wx_and1 (tx_cmp op_eq r2_eqI (nomark _) (ex_call (a := (q_well_here, s61.1, 4)) (b := t66) (gi := 1) (rest := (q_found58, ol (List.map (eT PyData.int) s61.2)) :: (q_found3, ol (List.map (eT PyData.int) ([] : (List (List Int))))) :: os) B rfl c_l_take (by decide) h66 (ax_cons (ex_v (i := 0) (j := 0) B rfl rfl rfl) (ax_cons ex_int ax_nil))) ex_int)))) (fun hk => by (have hm := ifF h67 hk; obtain rfl := som hm; rfl)) (and_fix (fun hk => by (have hm := ifF h67 hk; obtain rfl := som hm; rfl))))) (fun hk => ?_) (fun hk => ?_)
        · have hm := ifT hm hk
          obtain ⟨t68, h68, hm⟩ := bnd hm
          obtain ⟨t69, h69, hm⟩ := bnd hm
          refine sx_asg (i := 8) (vi := 8) (φ := (dat (PyData.tuple (List.map PyData.int t69)))) B T rfl rfl (ex_idxL (enc := (eT PyData.int)) h69 (rdl_own 1 rfl) (ex_v (i := 4) (j := 4) B rfl rfl rfl) (ex_call (a := (q_well_here, t67.2, (s61.2.length : Int))) (b := t68) (gi := 1) (rest := (q_found58, ol (List.map (eT PyData.int) s61.2)) :: (q_found3, ol (List.map (eT PyData.int) ([] : (List (List Int))))) :: os) B rfl c_l_take (by decide) h68 (ax_cons (ex_v (i := 0) (j := 0) B rfl rfl rfl) (ax_cons (EX.to (ex_fn (j := 2) B rfl g_len (by decide +kernel) call_len_seq (rc_lenL (ds := List.map (eT PyData.int) s61.2) (rdl_own 1 rfl)) (ax_cons (ex_v (i := 4) (j := 4) B rfl rfl rfl) ax_nil)) (by rw [List.length_map])) ax_nil)))) ?_
          obtain ⟨t70, h70, hm⟩ := bnd hm
          obtain ⟨t71, h71, hm⟩ := bnd hm
          refine sx_expr (ex_app (enc := (eT PyData.int)) (j := 1) (xs0 := s61.2) (xs := s61.2) (y := (cut t69 none (some (1 + t70.1)))) h71 (ex_v (i := 4) (j := 4) B rfl rfl rfl) rfl (ex_cutT (enc := PyData.int) rdt_dat (ex_v (i := 8) (j := 8) B rfl rfl rfl) px_none (px_some (ex_add ex_int (ex_call (a := (q_well_here, t68.2, (t69.length : Int))) (b := t70) (gi := 1) (rest := (q_found58, ol (List.map (eT PyData.int) s61.2)) :: (q_found3, ol (List.map (eT PyData.int) ([] : (List (List Int))))) :: os) B rfl c_l_take (by decide) h70 (ax_cons (ex_v (i := 0) (j := 0) B rfl rfl rfl) (ax_cons (EX.to (ex_fn (j := 2) B rfl g_len (by decide +kernel) call_len_seq (rc_lenT (ds := List.map PyData.int t69) rdt_dat) (ax_cons (ex_v (i := 8) (j := 8) B rfl rfl rfl) ax_nil)) (by rw [List.length_map])) ax_nil)))))) rfl) ?_
          refine sx_fall ?_ rfl
          obtain rfl := som hm
          exact sx_nil fun σ H a => ⟨(), (a.weak ⟨.inl rfl, .inl rfl, .inl rfl, .inl rfl, .inl rfl, .inl rfl, .inl rfl, .inr rfl, .inr rfl, .inl rfl, trivial⟩)⟩
        · have hm := ifF hm hk
          obtain ⟨t72, h72, hm⟩ := bnd hm
          obtain ⟨t73, h73, hm⟩ := bnd hm
          obtain ⟨t74, h74, hm⟩ := bnd hm
          refine sx_expr (ex_app (enc := (eT PyData.int)) (j := 1) (xs0 := s61.2) (xs := s61.2) (y := t73.1) h74 (ex_v (i := 4) (j := 4) B rfl rfl rfl) rfl (ex_call (a := (q_well_here, t72.2, letters, (1 + t72.1))) (b := t73) (gi := 4) (rest := (q_found58, ol (List.map (eT PyData.int) s61.2)) :: (q_found3, ol (List.map (eT PyData.int) ([] : (List (List Int))))) :: os) B rfl c_l_line (by decide) h73 (ax_cons (ex_v (i := 0) (j := 0) B rfl rfl rfl) (ax_cons (ex_v (i := 1) (j := 1) B rfl rfl rfl) (ax_cons (ex_add ex_int (ex_call (a := (q_well_here, t67.2, 5)) (b := t72) (gi := 1) (rest := (q_found58, ol (List.map (eT PyData.int) s61.2)) :: (q_found3, ol (List.map (eT PyData.int) ([] : (List (List Int))))) :: os) B rfl c_l_take (by decide) h72 (ax_cons (ex_v (i := 0) (j := 0) B rfl rfl rfl) (ax_cons ex_int ax_nil)))) ax_nil)))) rfl) ?_
          refine sx_fall ?_ rfl
          obtain rfl := som hm
          exact sx_nil fun σ H a => ⟨(), (a.weak ⟨.inl rfl, .inl rfl, .inl rfl, .inl rfl, .inl rfl, .inl rfl, .inl rfl, .inr rfl, .inl rfl, .inl rfl, trivial⟩)⟩
      · skip
        refine sx_frz (j := 1) (i := 4) rfl rfl ?_
        obtain ⟨t76, h76, hm⟩ := bnd hm
        refine sx_asg (i := 7) (vi := 7) (φ := (dat (PyData.int t76.1))) B T rfl rfl (ex_call (a := (q_well_here, f63.1, ((f63.2.length : Int) + 1))) (b := t76) (gi := 1) (rest := (q_found3, ol (List.map (eT PyData.int) ([] : (List (List Int))))) :: os) B rfl c_l_take (by decide) h76 (ax_cons (ex_v (i := 0) (j := 0) B rfl rfl rfl) (ax_cons (ex_add (EX.to (ex_fn (j := 2) B rfl g_len (by decide +kernel) call_len_seq (rc_lenL (ds := List.map (eT PyData.int) f63.2) rdl_dat) (ax_cons (ex_v (i := 4) (j := 4) B rfl rfl rfl) ax_nil)) (by rw [List.length_map])) ex_int) ax_nil))) ?_
        obtain ⟨t77, h77, hm⟩ := bnd hm
        obtain rfl := som hm
        exact sx_ret (EN.ex (en_cat (enc := (eT PyData.int)) h77 (EN.ex (en_cut (enc := (eT PyData.int)) rdl_dat (ex_v (i := 4) (j := 4) B rfl rfl rfl) (px_some (ex_v (i := 7) (j := 7) B rfl rfl rfl)) px_none)) (EN.ex (en_cut (enc := (eT PyData.int)) rdl_dat (ex_v (i := 4) (j := 4) B rfl rfl rfl) px_none (px_some (ex_v (i := 7) (j := 7) B rfl rfl rfl)))))) (fun F H v e o c => R.rt F H v e ((o.perm (perm_at (k := 1) rfl)).drop) c)
    · have hm := ifF hm hk
      refine sx_fall ?_ rfl
      obtain ⟨t79, h79, hm⟩ := bnd hm
      obtain ⟨t80, h80, hm⟩ := bnd hm
      obtain ⟨f83, h95, hm⟩ := bnd hm
      refine sx_for (c := anyOs) _ (fun (s81 : ((List Int) × (List (List Int)))) (_ : Unit) => [sl (own q_well_here), sl (dat (PyData.int letters)), sl (dat (PyData.list (List.map PyData.int t1))), sl (dat (PyData.int t2.1)), sl (own q_found3), un, un, un, un, un]) (fun (s81 : ((List Int) × (List (List Int)))) (_ : Unit) => (q_well_here, ol (List.map PyData.int s81.1)) :: (q_found3, ol (List.map (eT PyData.int) s81.2)) :: os) B T (fun turn82 => gx_name (i := 7) (vi := 7) (φ := (dat (PyData.int turn82))) B T rfl rfl) (t79.2, ([] : (List (List Int)))) () f83 h95 (ix_rng1 (gi := 3) B rfl g_range h80 (EX.pre (ex_call (a := (q_well_here, t2.2, (9 - (([] : (List (List Int))).length : Int)))) (b := t79) (gi := 1) (rest := (q_found3, ol (List.map (eT PyData.int) ([] : (List (List Int))))) :: os) B rfl c_l_take (by decide) h79 (ax_cons (ex_v (i := 0) (j := 0) B rfl rfl rfl) (ax_cons (ex_sub ex_int (EX.to (ex_fn (j := 2) B rfl g_len (by decide +kernel) call_len_seq (rc_lenL (ds := List.map (eT PyData.int) ([] : (List (List Int)))) (rdl_own 1 rfl)) (ax_cons (ex_v (i := 4) (j := 4) B rfl rfl rfl) ax_nil)) (by rw [List.length_map]))) ax_nil))) (perm_at (k := 1) rfl))) ⟨.inl rfl, .inl rfl, .inl rfl, .inl rfl, .inl rfl, .inl rfl, .inl rfl, .inl rfl, .inl rfl, .inl rfl, trivial⟩ (fun _ _ => trivial) (fun F85 e84 s81 _ turn82 z98 hx hm => ?_) (fun _ => ?_)
      · clear h95
        obtain ⟨t87, h87, hm⟩ := bnd hm
        refine sx_if (WX.tx (wx_and (l := t87.1) (os2 := (q_well_here, ol (List.map PyData.int t87.2)) :: (q_found3, ol (List.map (eT PyData.int) s81.2)) :: os) (tx_neR (e := (eL (eT PyData.int))) (x := s81.2) (y := ([] : (List (List Int)))) B (eqv_list (eqv_tup eqv_int)) (sh_list (sh_tup sh_int)) (by decide) (rdx_own (ds := List.map (eT PyData.int) s81.2) 1 rfl) rdx_dat (ex_v (i := 4) (j := 4) B rfl rfl rfl) (EN.ex (en_lst (ds := []) ax_nil))) (fun hk => by (have hm := ifT h87 hk; obtain ⟨t86, h86, hm⟩ := bnd hm; obtain rfl := som hm; exact (wx_and1 (tx_cmp op_eq r2_eqI (nomark _) (ex_call (a := (q_well_here, s81.1, 4)) (b := t86) (gi := 1) (rest := (q_found3, ol (List.map (eT PyData.int) s81.2)) :: os) B rfl c_l_take (by decide) h86 (ax_cons (ex_v (i := 0) (j := 0) B rfl rfl rfl) (ax_cons ex_int ax_nil))) ex_int)))) (fun hk => by (have hm := ifF h87 hk; obtain rfl := som hm; rfl)) (and_fix (fun hk => by (have hm := ifF h87 hk; obtain rfl := som hm; rfl))))) (fun hk => ?_) (fun hk => ?_)
        · have hm := ifT hm hk
          obtain ⟨t88, h88, hm⟩ := bnd hm
          obtain ⟨t89, h89, hm⟩ := bnd hm
          refine sx_asg (i := 8) (vi := 8) (φ := (dat (PyData.tuple (List.map PyData.int t89)))) B T rfl rfl (ex_idxL (enc := (eT PyData.int)) h89 (rdl_own 1 rfl) (ex_v (i := 4) (j := 4) B rfl rfl rfl) (ex_call (a := (q_well_here, t87.2, (s81.2.length : Int))) (b := t88) (gi := 1) (rest := (q_found3, ol (List.map (eT PyData.int) s81.2)) :: os) B rfl c_l_take (by decide) h88 (ax_cons (ex_v (i := 0) (j := 0) B rfl rfl rfl) (ax_cons (EX.to (ex_fn (j := 2) B rfl g_len (by decide +kernel) call_len_seq (rc_lenL (ds := List.map (eT PyData.int) s81.2) (rdl_own 1 rfl)) (ax_cons (ex_v (i := 4) (j := 4) B rfl rfl rfl) ax_nil)) (by rw [List.length_map])) ax_nil)))) ?_
          obtain ⟨t90, h90, hm⟩ := bnd hm
          obtain ⟨t91, h91, hm⟩ := bnd hm
          refine sx_expr (ex_app (enc := (eT PyData.int)) (j := 1) (xs0 := s81.2) (xs := s81.2) (y := (cut t89 none (some (1 + t90.1)))) h91 (ex_v (i := 4) (j := 4) B rfl rfl rfl) rfl (ex_cutT (enc := PyData.int) rdt_dat (ex_v (i := 8) (j := 8) B rfl rfl rfl) px_none (px_some (ex_add ex_int (ex_call (a := (q_well_here, t88.2, (t89.length : Int))) (b := t90) (gi := 1) (rest := (q_found3, ol (List.map (eT PyData.int) s81.2)) :: os) B rfl c_l_take (by decide) h90 (ax_cons (ex_v (i := 0) (j := 0) B rfl rfl rfl) (ax_cons (EX.to (ex_fn (j := 2) B rfl g_len (by decide +kernel) call_len_seq (rc_lenT (ds := List.map PyData.int t89) rdt_dat) (ax_cons (ex_v (i := 8) (j := 8) B rfl rfl rfl) ax_nil)) (by rw [List.length_map])) ax_nil)))))) rfl) ?_
          refine sx_fall ?_ rfl
          obtain rfl := som hm
          exact sx_nil fun σ H a => ⟨(), (a.weak ⟨.inl rfl, .inl rfl, .inl rfl, .inl rfl, .inl rfl, .inl rfl, .inl rfl, .inr rfl, .inr rfl, .inl rfl, trivial⟩)⟩
        · have hm := ifF hm hk
          obtain ⟨t92, h92, hm⟩ := bnd hm
          obtain ⟨t93, h93, hm⟩ := bnd hm
          obtain ⟨t94, h94, hm⟩ := bnd hm
          refine sx_expr (ex_app (enc := (eT PyData.int)) (j := 1) (xs0 := s81.2) (xs := s81.2) (y := t93.1) h94 (ex_v (i := 4) (j := 4) B rfl rfl rfl) rfl (ex_call (a := (q_well_here, t92.2, letters, (1 + t92.1))) (b := t93) (gi := 4) (rest := (q_found3, ol (List.map (eT PyData.int) s81.2)) :: os) B rfl c_l_line (by decide) h93 (ax_cons (ex_v (i := 0) (j := 0) B rfl rfl rfl) (ax_cons (ex_v (i := 1) (j := 1) B rfl rfl rfl) (ax_cons (ex_add ex_int (ex_call (a := (q_well_here, t87.2, 5)) (b := t92) (gi := 1) (rest := (q_found3, ol (List.map (eT PyData.int) s81.2)) :: os) B rfl c_l_take (by decide) h92 (ax_cons (ex_v (i := 0) (j := 0) B rfl rfl rfl) (ax_cons ex_int ax_nil)))) ax_nil)))) rfl) ?_
          refine sx_fall ?_ rfl
          obtain rfl := som hm
          exact sx_nil fun σ H a => ⟨(), (a.weak ⟨.inl rfl, .inl rfl, .inl rfl, .inl rfl, .inl rfl, .inl rfl, .inl rfl, .inr rfl, .inl rfl, .inl rfl, trivial⟩)⟩
      · skip
        refine sx_frz (j := 1) (i := 4) rfl rfl ?_
        obtain ⟨t96, h96, hm⟩ := bnd hm
        refine sx_asg (i := 7) (vi := 7) (φ := (dat (PyData.int t96.1))) B T rfl rfl (ex_call (a := (q_well_here, f83.1, ((f83.2.length : Int) + 1))) (b := t96) (gi := 1) (rest := os) B rfl c_l_take (by decide) h96 (ax_cons (ex_v (i := 0) (j := 0) B rfl rfl rfl) (ax_cons (ex_add (EX.to (ex_fn (j := 2) B rfl g_len (by decide +kernel) call_len_seq (rc_lenL (ds := List.map (eT PyData.int) f83.2) rdl_dat) (ax_cons (ex_v (i := 4) (j := 4) B rfl rfl rfl) ax_nil)) (by rw [List.length_map])) ex_int) ax_nil))) ?_
        obtain ⟨t97, h97, hm⟩ := bnd hm
        obtain rfl := som hm
        exact sx_ret (EN.ex (en_cat (enc := (eT PyData.int)) h97 (EN.ex (en_cut (enc := (eT PyData.int)) rdl_dat (ex_v (i := 4) (j := 4) B rfl rfl rfl) (px_some (ex_v (i := 7) (j := 7) B rfl rfl rfl)) px_none)) (EN.ex (en_cut (enc := (eT PyData.int)) rdl_dat (ex_v (i := 4) (j := 4) B rfl rfl rfl) px_none (px_some (ex_v (i := 7) (j := 7) B rfl rfl rfl)))))) (fun F H v e o c => R.rt F H v e o c)
theorem cal_l_told {P : Program} {w : World} {K : PySem.W.Frag} {mg : Str → Option Value} {base : Heap} {f : Addr} {fd : FuncData} (Fn : Fun K "_law_told" "_law_told" s_l_told f fd) (hmg : mg "_law_told" = some (.ref f)) (hb : Binds K fd ["_law_well_here", "_law_letters"] []) (c_l_steps : Cal P w K mg base 1 "_law_steps" s_l_steps ["_law_letters"] (sp_l_steps K)) (c_l_take : Cal P w K mg base 1 "_law_take" s_l_take ["_law_well_here", "_law_many"] (sp_l_take K)) (g_len : mg "len" = none) (g_range : mg "range" = none) (c_l_line : Cal P w K mg base 2 "_law_line" s_l_line ["_law_well_here", "_law_letters", "_law_size"] (sp_l_line K)) : Cal P w K mg base 3 "_law_told" s_l_told ["_law_well_here", "_law_letters"] (sp_l_told K) := by
  obtain ⟨sts_, hst_⟩ : ∃ z_, defBody s_l_told = z_ := ⟨_, rfl⟩
  exact cal_ZQ (V := V_l_told) (Gs := G_l_told) (nl := 8) hst_ Fn sc_l_told (by decide +kernel) (by decide +kernel) hmg hb (fun _ => rfl) rfl fun _ _ _ _ _ _ _ a b F0 os D B T hm R => body_l_told rfl hst_ B T c_l_steps c_l_take g_len g_range c_l_line a.1 a.2.1 a.2.2 b F0 os D hm R
abbrev s_l_free : Stmt := top 34
def N_l_free : List Str := ["_law_told_here", "_law_walk", "_law_other"]
def V_l_free : List Str := ["_law_told_here", "_law_walk"]
def G_l_free : List Str := []
theorem sc_l_free : FnScope N_l_free ["_law_told_here", "_law_walk"] (defScope s_l_free) := ⟨rfl, rfl, rfl, by decide +kernel, rfl, by decide +kernel, by decide +kernel⟩
abbrev sp_l_free (K : PySem.W.Frag) : Sp := spZ (α := ((List (List Int)) × (List Int))) (β := Bool) (fun a => [(dat (PyData.list (List.map (eT PyData.int) a.1))), (dat (PyData.tuple (List.map PyData.int a.2)))]) (fun a => []) (fun a => m_l_free a.1 a.2) (fun a b => (dat (PyData.bool b))) (fun a b => [])
set_option maxHeartbeats 4000000 in
theorem body_l_free {X : Cx} (hsc : X.env.scope = defScope s_l_free) {sts_ : List Stmt} (hst_ : defBody s_l_free = sts_) (B : Bd X N_l_free V_l_free G_l_free 0) (T : Bt X V_l_free) (g_len : X.mg "len" = none) (told_here : (List (List Int))) (walk : (List Int)) (b : Bool) (F0 : Hp) (os : Os) (D : Ends) (hm : m_l_free told_here walk = some b) (R : RetZ F0 (os) (dat (PyData.bool b)) D) :
    SX X [sl (dat (PyData.list (List.map (eT PyData.int) told_here))), sl (dat (PyData.tuple (List.map PyData.int walk))), un] (os) F0 sts_ D := by
  subst hst_
  unfold m_l_free at hm
  obtain ⟨t3, h3, hm⟩ := bnd hm
  obtain rfl := som hm
  exact sx_ret (ex_eqR (e := (eL (eT PyData.int))) (x := t3) (y := ([] : (List (List Int)))) B (eqv_list (eqv_tup eqv_int)) (sh_list (sh_tup sh_int)) (by decide) rdx_dat rdx_dat (EN.ex (en_lc (lc_mk1 (j := 2) (vp := fun other1 => (dat (PyData.tuple (List.map PyData.int other1)))) (c := anyOs) (enc := (eT PyData.int)) (fun (_ : Unit) (other1 : (List Int)) => some (if (decide ((cut walk (some (-(other1.length : Int))) none) = other1)) = true then some other1 else none, ())) (fun (_ : Unit) (tl1 : Os) => tl1) () (t3) () B rfl rfl (by rw [B.hN, hsc]; decide +kernel) (by rw [hsc]; decide +kernel) (by decide) (lcF_ok h3) (ix_list (enc := (eT PyData.int)) (c := anyOs) (ex_v (i := 0) (j := 0) B rfl rfl rfl) (fun _ _ => rdl_dat) trivial) (fun _ _ => trivial) (fun _ _ _ => List.Perm.refl _) (fun _ other1 t tl1 hx hf => by (obtain rfl := som hf; exact ⟨(decide ((cut walk (some (-(other1.length : Int))) none) = other1)), _, fun X1 hX => by (have B1 := Bd.fam (W' := ["_law_walk", "_law_other"]) (G' := ["len"]) B hX (by (try rw [hsc]); decide +kernel); have g_len' := fam_mg hX g_len; exact ⟨.one (tx_eqR (e := (eT PyData.int)) (x := (cut walk (some (-(other1.length : Int))) none)) (y := other1) B1 (eqv_tup eqv_int) (sh_tup sh_int) (by decide) rdx_dat rdx_dat (ex_cutT (enc := PyData.int) rdt_dat (ex_v (i := 1) (j := 0) B1 rfl rfl rfl) (px_some (ex_neg (EX.to (ex_fn (j := 0) B1 rfl g_len' (by decide +kernel) call_len_seq (rc_lenT (ds := List.map PyData.int other1) rdt_dat) (ax_cons (ex_v (i := 2) (j := 1) B1 rfl rfl rfl) ax_nil)) (by rw [List.length_map])))) px_none) (ex_v (i := 2) (j := 1) B1 rfl rfl rfl)), fun h => ⟨_, if_pos h, (ex_v (i := 2) (j := 1) B1 rfl rfl rfl)⟩, fun h => ⟨(by first | exact if_neg (by rw [h]; exact Bool.false_ne_true) | rfl), rfl⟩⟩)⟩))))) (EN.ex (en_lst (ds := []) ax_nil))) (fun F H v e o c => R.rt F H v e o c)
theorem cal_l_free {P : Program} {w : World} {K : PySem.W.Frag} {mg : Str → Option Value} {base : Heap} {f : Addr} {fd : FuncData} (Fn : Fun K "_law_free" "_law_free" s_l_free f fd) (hmg : mg "_law_free" = some (.ref f)) (hb : Binds K fd ["_law_told_here", "_law_walk"] []) (g_len : mg "len" = none) : Cal P w K mg base 1 "_law_free" s_l_free ["_law_told_here", "_law_walk"] (sp_l_free K) := by
  obtain ⟨sts_, hst_⟩ : ∃ z_, defBody s_l_free = z_ := ⟨_, rfl⟩
  exact cal_ZQ (V := V_l_free) (Gs := G_l_free) (nl := 1) hst_ Fn sc_l_free (by decide +kernel) (by decide +kernel) hmg hb (fun _ => rfl) rfl fun _ _ _ _ _ _ _ a b F0 os D B T hm R => body_l_free rfl hst_ B T g_len a.1 a.2 b F0 os D hm R
abbrev s_l_all : Stmt := top 35
def N_l_all : List Str := ["_law_letters", "_law_told_here", "_law_length", "_law_layer", "_law_turn", "_law_longer", "_law_walk", "_law_step"]
def V_l_all : List Str := ["_law_letters", "_law_told_here", "_law_length", "_law_layer", "_law_turn", "_law_longer", "_law_walk", "_law_step"]
def G_l_all : List Str := ["range", "_law_steps", "_law_free"]
theorem sc_l_all : FnScope N_l_all ["_law_letters", "_law_told_here", "_law_length"] (defScope s_l_all) := ⟨rfl, rfl, rfl, by decide +kernel, rfl, by decide +kernel, by decide +kernel⟩
abbrev sp_l_all (K : PySem.W.Frag) : Sp := spZ (α := (Int × (List (List Int)) × Int)) (β := (List (List Int))) (fun a => [(dat (PyData.int a.1)), (dat (PyData.list (List.map (eT PyData.int) a.2.1))), (dat (PyData.int a.2.2))]) (fun a => []) (fun a => m_l_all a.1 a.2.1 a.2.2) (fun a b => (dat (PyData.list (List.map (eT PyData.int) b)))) (fun a b => [])
set_option maxHeartbeats 4000000 in
theorem body_l_all {X : Cx} (hsc : X.env.scope = defScope s_l_all) {sts_ : List Stmt} (hst_ : defBody s_l_all = sts_) (B : Bd X N_l_all V_l_all G_l_all 1) (T : Bt X V_l_all) (g_range : X.mg "range" = none) (c_l_steps : Cal X.prog X.w X.K X.mg X.base 1 "_law_steps" s_l_steps ["_law_letters"] (sp_l_steps X.K)) (c_l_free : Cal X.prog X.w X.K X.mg X.base 1 "_law_free" s_l_free ["_law_told_here", "_law_walk"] (sp_l_free X.K)) (letters : Int) (told_here : (List (List Int))) (length : Int) (b : (List (List Int))) (F0 : Hp) (os : Os) (D : Ends) (hm : m_l_all letters told_here length = some b) (R : RetZ F0 (os) (dat (PyData.list (List.map (eT PyData.int) b))) D) :
    SX X [sl (dat (PyData.int letters)), sl (dat (PyData.list (List.map (eT PyData.int) told_here))), sl (dat (PyData.int length)), un, un, un, un, un] (os) F0 sts_ D := by
  subst hst_
  unfold m_l_all at hm
  refine sx_asg (i := 3) (vi := 3) (φ := (dat (PyData.list (List.map (eT PyData.int) ([([] : (List Int))]))))) B T rfl rfl (EN.ex (en_lst (ds := [(PyData.tuple (List.map PyData.int ([] : (List Int))))]) (hl := len_ok (n := 1) rfl) (ax_cons (ex_tup (ds := []) ax_nil) ax_nil))) ?_
  obtain ⟨t1, h1, hm⟩ := bnd hm
  obtain ⟨f4, h28, hm⟩ := bnd hm
  refine sx_for (c := anyOs) _ (fun (s2 : (List (List Int))) (_ : Unit) => [sl (dat (PyData.int letters)), sl (dat (PyData.list (List.map (eT PyData.int) told_here))), sl (dat (PyData.int length)), sl (dat (PyData.list (List.map (eT PyData.int) s2))), un, un, un, un]) (fun (s2 : (List (List Int))) (_ : Unit) => os) B T (fun turn3 => gx_name (i := 4) (vi := 4) (φ := (dat (PyData.int turn3))) B T rfl rfl) ([([] : (List Int))]) () f4 h28 (ix_rng1 (gi := 0) B rfl g_range h1 (ex_v (i := 2) (j := 2) B rfl rfl rfl)) ⟨.inl rfl, .inl rfl, .inl rfl, .inl rfl, .inl rfl, .inl rfl, .inl rfl, .inl rfl, trivial⟩ (fun _ _ => trivial) (fun F6 e5 s2 _ turn3 z29 hx hm => ?_) (fun _ => ?_)
  · clear h28
    refine sx_asgN (i := 5) (vi := 5) (n := ol (List.map (eT PyData.int) ([] : (List (List Int))))) B T rfl rfl (en_lst (ds := []) ax_nil) (fun q_longer6 => ?_)
    obtain ⟨f9, h26, hm⟩ := bnd hm
    refine sx_for (c := anyOs) _ (fun (s7 : (List (List Int))) (_ : Unit) => [sl (dat (PyData.int letters)), sl (dat (PyData.list (List.map (eT PyData.int) told_here))), sl (dat (PyData.int length)), sl (dat (PyData.list (List.map (eT PyData.int) s2))), sl (dat (PyData.int turn3)), sl (own q_longer6), un, un]) (fun (s7 : (List (List Int))) (_ : Unit) => (q_longer6, ol (List.map (eT PyData.int) s7)) :: os) B T (fun walk8 => gx_name (i := 6) (vi := 6) (φ := (dat (PyData.tuple (List.map PyData.int walk8)))) B T rfl rfl) ([] : (List (List Int))) () f9 h26 (ix_list (enc := (eT PyData.int)) (c := anyOs) (ex_v (i := 3) (j := 3) B rfl rfl rfl) (fun _ _ => rdl_dat) trivial) ⟨.inl rfl, .inl rfl, .inl rfl, .inl rfl, .inl rfl, .inl rfl, .inl rfl, .inl rfl, trivial⟩ (fun _ _ => trivial) (fun F11 e10 s7 _ walk8 z27 hx hm => ?_) (fun _ => ?_)
    · clear h26
      obtain ⟨t12, h12, hm⟩ := bnd hm
      obtain ⟨f15, h24, hm⟩ := bnd hm
      refine sx_for (c := anyOs) _ (fun (s13 : (List (List Int))) (_ : Unit) => [sl (dat (PyData.int letters)), sl (dat (PyData.list (List.map (eT PyData.int) told_here))), sl (dat (PyData.int length)), sl (dat (PyData.list (List.map (eT PyData.int) s2))), sl (dat (PyData.int turn3)), sl (own q_longer6), sl (dat (PyData.tuple (List.map PyData.int walk8))), un]) (fun (s13 : (List (List Int))) (_ : Unit) => (q_longer6, ol (List.map (eT PyData.int) s13)) :: os) B T (fun step14 => gx_name (i := 7) (vi := 7) (φ := (dat (PyData.int step14))) B T rfl rfl) s7 () f15 h24 (ix_list (enc := PyData.int) (c := anyOs) (ex_call (a := letters) (b := t12) (gi := 1) (rest := (q_longer6, ol (List.map (eT PyData.int) s7)) :: os) B rfl c_l_steps (by decide) h12 (ax_cons (ex_v (i := 0) (j := 0) B rfl rfl rfl) ax_nil)) (fun _ _ => rdl_dat) trivial) ⟨.inl rfl, .inl rfl, .inl rfl, .inl rfl, .inl rfl, .inl rfl, .inl rfl, .inl rfl, trivial⟩ (fun _ _ => trivial) (fun F17 e16 s13 _ step14 z25 hx hm => ?_) (fun _ => ?_)
      · clear h24
        obtain ⟨t20, h20, hm⟩ := bnd hm
        obtain ⟨s23, h_s23, hm⟩ := bnd hm
        refine sx_join [sl (dat (PyData.int letters)), sl (dat (PyData.list (List.map (eT PyData.int) told_here))), sl (dat (PyData.int length)), sl (dat (PyData.list (List.map (eT PyData.int) s2))), sl (dat (PyData.int turn3)), sl (own q_longer6), sl (dat (PyData.tuple (List.map PyData.int walk8))), sl (dat (PyData.int step14))] ((q_longer6, ol (List.map (eT PyData.int) s23)) :: os) (?_) (fun Q => ?_)
        · clear h_s23
          obtain rfl := som hm
          exact sx_nil fun σ H a => ⟨(), (a.weak ⟨.inl rfl, .inl rfl, .inl rfl, .inl rfl, .inl rfl, .inl rfl, .inl rfl, .inr rfl, trivial⟩)⟩
        · have hm := h_s23
          refine sx_if (WX.tx (wx_and (l := t20) (os2 := (q_longer6, ol (List.map (eT PyData.int) s13)) :: os) (tx_neR (e := (eT PyData.int)) (x := (cut walk8 (some (-1)) none)) (y := ([(-step14)])) B (eqv_tup eqv_int) (sh_tup sh_int) (by decide) rdx_dat rdx_dat (ex_cutT (enc := PyData.int) rdt_dat (ex_v (i := 6) (j := 6) B rfl rfl rfl) (px_some (ex_neg ex_int)) px_none) (ex_tup (ds := [(PyData.int (-step14))]) (hl := len_ok (n := 1) rfl) (ax_cons (ex_neg (ex_v (i := 7) (j := 7) B rfl rfl rfl)) ax_nil))) (fun hk => by (have hm := ifT h20 hk; obtain ⟨t18, h18, hm⟩ := bnd hm; obtain ⟨t19, h19, hm⟩ := bnd hm; obtain rfl := som hm; exact (wx_and1 (tx_val (ex_call (a := (told_here, t18)) (b := t19) (gi := 2) (rest := (q_longer6, ol (List.map (eT PyData.int) s13)) :: os) B rfl c_l_free (by decide) h19 (ax_cons (ex_v (i := 1) (j := 1) B rfl rfl rfl) (ax_cons (ex_catT (enc := PyData.int) h18 (ex_v (i := 6) (j := 6) B rfl rfl rfl) (ex_tup (ds := [(PyData.int step14)]) (hl := len_ok (n := 1) rfl) (ax_cons (ex_v (i := 7) (j := 7) B rfl rfl rfl) ax_nil))) ax_nil))) (by intro _; rfl))))) (fun hk => by (have hm := ifF h20 hk; obtain rfl := som hm; rfl)) (and_fix (fun hk => by (have hm := ifF h20 hk; obtain rfl := som hm; rfl))))) (fun hk => ?_) (fun hk => ?_)
          · have hm := ifT hm hk
            obtain ⟨t21, h21, hm⟩ := bnd hm
            obtain ⟨t22, h22, hm⟩ := bnd hm
            refine sx_expr (ex_app (enc := (eT PyData.int)) (j := 0) (xs0 := s13) (xs := s13) (y := t21) h22 (ex_v (i := 5) (j := 5) B rfl rfl rfl) rfl (ex_catT (enc := PyData.int) h21 (ex_v (i := 6) (j := 6) B rfl rfl rfl) (ex_tup (ds := [(PyData.int step14)]) (hl := len_ok (n := 1) rfl) (ax_cons (ex_v (i := 7) (j := 7) B rfl rfl rfl) ax_nil))) rfl) ?_
            obtain rfl := som hm
            exact sx_fall Q rfl
          · have hm := ifF hm hk
            obtain rfl := som hm
            exact sx_fall Q rfl
      · skip
        obtain rfl := som hm
        exact sx_nil fun σ H a => ⟨(), (a.weak ⟨.inl rfl, .inl rfl, .inl rfl, .inl rfl, .inl rfl, .inl rfl, .inr rfl, .inl rfl, trivial⟩)⟩
    · skip
      refine sx_frz (j := 0) (i := 5) rfl rfl ?_
      refine sx_asg (i := 3) (vi := 3) (φ := (dat (PyData.list (List.map (eT PyData.int) f9)))) B T rfl rfl (ex_v (i := 5) (j := 5) B rfl rfl rfl) ?_
      obtain rfl := som hm
      exact sx_nil fun σ H a => ⟨(), (a.weak ⟨.inl rfl, .inl rfl, .inl rfl, .inl rfl, .inr rfl, .inr rfl, .inl rfl, .inl rfl, trivial⟩)⟩
  · skip
    obtain rfl := som hm
    exact sx_ret (ex_v (i := 3) (j := 3) B rfl rfl rfl) (fun F H v e o c => R.rt F H v e o c)
theorem cal_l_all {P : Program} {w : World} {K : PySem.W.Frag} {mg : Str → Option Value} {base : Heap} {f : Addr} {fd : FuncData} (Fn : Fun K "_law_all" "_law_all" s_l_all f fd) (hmg : mg "_law_all" = some (.ref f)) (hb : Binds K fd ["_law_letters", "_law_told_here", "_law_length"] []) (g_range : mg "range" = none) (c_l_steps : Cal P w K mg base 1 "_law_steps" s_l_steps ["_law_letters"] (sp_l_steps K)) (c_l_free : Cal P w K mg base 1 "_law_free" s_l_free ["_law_told_here", "_law_walk"] (sp_l_free K)) : Cal P w K mg base 2 "_law_all" s_l_all ["_law_letters", "_law_told_here", "_law_length"] (sp_l_all K) := by
  obtain ⟨sts_, hst_⟩ : ∃ z_, defBody s_l_all = z_ := ⟨_, rfl⟩
  exact cal_ZQ (V := V_l_all) (Gs := G_l_all) (nl := 5) hst_ Fn sc_l_all (by decide +kernel) (by decide +kernel) hmg hb (fun _ => rfl) rfl fun _ _ _ _ _ _ _ a b F0 os D B T hm R => body_l_all rfl hst_ B T g_range c_l_steps c_l_free a.1 a.2.1 a.2.2 b F0 os D hm R
abbrev s_l_end : Stmt := top 36
def N_l_end : List Str := ["_law_told_here", "_law_walk", "_law_at", "_law_size", "_law_other"]
def V_l_end : List Str := ["_law_told_here", "_law_walk", "_law_at", "_law_size"]
def G_l_end : List Str := ["range", "len"]
theorem sc_l_end : FnScope N_l_end ["_law_told_here", "_law_walk"] (defScope s_l_end) := ⟨rfl, rfl, rfl, by decide +kernel, rfl, by decide +kernel, by decide +kernel⟩
abbrev sp_l_end (K : PySem.W.Frag) : Sp := spZ (α := ((List (List Int)) × (List Int))) (β := (List Int)) (fun a => [(dat (PyData.list (List.map (eT PyData.int) a.1))), (dat (PyData.tuple (List.map PyData.int a.2)))]) (fun a => []) (fun a => m_l_end a.1 a.2) (fun a b => (dat (PyData.tuple (List.map PyData.int b)))) (fun a b => [])
set_option maxHeartbeats 4000000 in
theorem body_l_end {X : Cx} (hsc : X.env.scope = defScope s_l_end) {sts_ : List Stmt} (hst_ : defBody s_l_end = sts_) (B : Bd X N_l_end V_l_end G_l_end 0) (T : Bt X V_l_end) (g_range : X.mg "range" = none) (g_len : X.mg "len" = none) (told_here : (List (List Int))) (walk : (List Int)) (b : (List Int)) (F0 : Hp) (os : Os) (D : Ends) (hm : m_l_end told_here walk = some b) (R : RetZ F0 (os) (dat (PyData.tuple (List.map PyData.int b))) D) :
    SX X [sl (dat (PyData.list (List.map (eT PyData.int) told_here))), sl (dat (PyData.tuple (List.map PyData.int walk))), un, un, un] (os) F0 sts_ D := by
  subst hst_
  unfold m_l_end at hm
  obtain ⟨t1, h1, hm⟩ := bnd hm
  obtain ⟨f4o, h10, hm⟩ := bnd hm
  refine sx_forR (c := anyOs) _ (fun (s2 : Unit) (_ : Unit) => [sl (dat (PyData.list (List.map (eT PyData.int) told_here))), sl (dat (PyData.tuple (List.map PyData.int walk))), un, un, un]) (fun (s2 : Unit) (_ : Unit) => os) (fun (r : (List Int)) v H => ∃ F, Same F0 F ∧ Ow F (os) H ∧ Cl (dat (PyData.tuple (List.map PyData.int r))) F v) B T (fun at_3 => gx_name (i := 2) (vi := 2) (φ := (dat (PyData.int at_3))) B T rfl rfl) () () f4o h10 (ix_rng1 (gi := 0) B rfl g_range h1 (ex_sub (EX.to (ex_fn (j := 1) B rfl g_len (by decide +kernel) call_len_seq (rc_lenT (ds := List.map PyData.int walk) rdt_dat) (ax_cons (ex_v (i := 1) (j := 1) B rfl rfl rfl) ax_nil)) (by rw [List.length_map])) ex_int)) ⟨.inl rfl, .inl rfl, .inl rfl, .inl rfl, .inl rfl, trivial⟩ (fun _ _ => trivial) (fun F6 e5 s2 _ at_3 z12 hx hm2 => ?_) (fun f4 _ ho => ?_) (fun r11 v H ho hr => ?_)
  · clear hm h10
    have hm := hm2
    refine sx_asg (i := 3) (vi := 3) (φ := (dat (PyData.int ((walk.length : Int) - at_3)))) B T rfl rfl (ex_sub (EX.to (ex_fn (j := 1) B rfl g_len (by decide +kernel) call_len_seq (rc_lenT (ds := List.map PyData.int walk) rdt_dat) (ax_cons (ex_v (i := 1) (j := 1) B rfl rfl rfl) ax_nil)) (by rw [List.length_map])) (ex_v (i := 2) (j := 2) B rfl rfl rfl)) ?_
    obtain ⟨t9, h9, hm⟩ := bnd hm
    refine sx_if (tx_neR (e := (eL (eT PyData.int))) (x := t9) (y := ([] : (List (List Int)))) B (eqv_list (eqv_tup eqv_int)) (sh_list (sh_tup sh_int)) (by decide) rdx_dat rdx_dat (EN.ex (en_lc (lc_mk1 (j := 4) (vp := fun other7 => (dat (PyData.tuple (List.map PyData.int other7)))) (c := anyOs) (enc := (eT PyData.int)) (fun (_ : Unit) (other7 : (List Int)) => some (if ((decide (((walk.length : Int) - at_3) < (other7.length : Int))) && (decide ((cut other7 none (some ((walk.length : Int) - at_3))) = (cut walk (some at_3) none)))) = true then some other7 else none, ())) (fun (_ : Unit) (tl1 : Os) => tl1) () (t9) () B rfl rfl (by rw [B.hN, hsc]; decide +kernel) (by rw [hsc]; decide +kernel) (by decide) (lcF_ok h9) (ix_list (enc := (eT PyData.int)) (c := anyOs) (ex_v (i := 0) (j := 0) B rfl rfl rfl) (fun _ _ => rdl_dat) trivial) (fun _ _ => trivial) (fun _ _ _ => List.Perm.refl _) (fun _ other7 t tl1 hx hf => by (obtain rfl := som hf; exact ⟨((decide (((walk.length : Int) - at_3) < (other7.length : Int))) && (decide ((cut other7 none (some ((walk.length : Int) - at_3))) = (cut walk (some at_3) none)))), _, fun X1 hX => by (have B1 := Bd.fam (W' := ["_law_walk", "_law_at", "_law_size", "_law_other"]) (G' := ["len"]) B hX (by (try rw [hsc]); decide +kernel); have g_len' := fam_mg hX g_len; exact ⟨.one (WX.tx (wx_and (tx_cmp op_gt r2_gt (nomark _) (EX.to (ex_fn (j := 0) B1 rfl g_len' (by decide +kernel) call_len_seq (rc_lenT (ds := List.map PyData.int other7) rdt_dat) (ax_cons (ex_v (i := 4) (j := 3) B1 rfl rfl rfl) ax_nil)) (by rw [List.length_map])) (ex_v (i := 3) (j := 2) B1 rfl rfl rfl)) (fun _ => (wx_and1 (tx_eqR (e := (eT PyData.int)) (x := (cut other7 none (some ((walk.length : Int) - at_3)))) (y := (cut walk (some at_3) none)) B1 (eqv_tup eqv_int) (sh_tup sh_int) (by decide) rdx_dat rdx_dat (ex_cutT (enc := PyData.int) rdt_dat (ex_v (i := 4) (j := 3) B1 rfl rfl rfl) px_none (px_some (ex_v (i := 3) (j := 2) B1 rfl rfl rfl))) (ex_cutT (enc := PyData.int) rdt_dat (ex_v (i := 1) (j := 0) B1 rfl rfl rfl) (px_some (ex_v (i := 2) (j := 1) B1 rfl rfl rfl)) px_none)))) (fun _ => rfl) rfl)), fun h => ⟨_, if_pos h, (ex_v (i := 4) (j := 3) B1 rfl rfl rfl)⟩, fun h => ⟨(by first | exact if_neg (by rw [h]; exact Bool.false_ne_true) | rfl), rfl⟩⟩)⟩))))) (EN.ex (en_lst (ds := []) ax_nil))) (fun hk => ?_) (fun hk => ?_)
    · have hm := ifT hm hk
      exact sx_ret (ex_cutT (enc := PyData.int) rdt_dat (ex_v (i := 1) (j := 1) B rfl rfl rfl) (px_some (ex_v (i := 2) (j := 2) B rfl rfl rfl)) px_none) (fun F H v e o c => ⟨_, (som hm).symm, F, (e5.trans e), o, c⟩)
    · have hm := ifF hm hk
      refine sx_fall ?_ rfl
      exact sx_nil fun σ H a => ⟨_, (), (som hm).symm, (a.weak ⟨.inl rfl, .inl rfl, .inr rfl, .inr rfl, .inl rfl, trivial⟩)⟩
  · cases ho
    have hm := elimR hm
    obtain rfl := som hm
    exact sx_ret (ex_cutT (enc := PyData.int) rdt_dat (ex_v (i := 1) (j := 1) B rfl rfl rfl) (px_some (ex_neg ex_int)) px_none) (fun F H v e o c => R.rt F H v e o c)
  · cases ho
    have hm := elimL hm
    obtain rfl := som hm
    obtain ⟨F, e, o, c⟩ := hr
    exact R.rt F H v e o c
theorem cal_l_end {P : Program} {w : World} {K : PySem.W.Frag} {mg : Str → Option Value} {base : Heap} {f : Addr} {fd : FuncData} (Fn : Fun K "_law_end" "_law_end" s_l_end f fd) (hmg : mg "_law_end" = some (.ref f)) (hb : Binds K fd ["_law_told_here", "_law_walk"] []) (g_range : mg "range" = none) (g_len : mg "len" = none) : Cal P w K mg base 1 "_law_end" s_l_end ["_law_told_here", "_law_walk"] (sp_l_end K) := by
  obtain ⟨sts_, hst_⟩ : ∃ z_, defBody s_l_end = z_ := ⟨_, rfl⟩
  exact cal_ZQ (V := V_l_end) (Gs := G_l_end) (nl := 3) hst_ Fn sc_l_end (by decide +kernel) (by decide +kernel) hmg hb (fun _ => rfl) rfl fun _ _ _ _ _ _ _ a b F0 os D B T hm R => body_l_end rfl hst_ B T g_range g_len a.1 a.2 b F0 os D hm R
abbrev s_l_ways : Stmt := top 37
def N_l_ways : List Str := ["_law_letters", "_law_told_here", "_law_ways_here", "_law_order", "_law_at", "_law_last", "_law_found", "_law_step", "_law_goal"]
def V_l_ways : List Str := ["_law_letters", "_law_told_here", "_law_ways_here", "_law_order", "_law_at", "_law_last", "_law_found", "_law_step", "_law_goal"]
def G_l_ways : List Str := ["range", "len", "_law_steps", "_law_free", "_law_end"]
theorem sc_l_ways : FnScope N_l_ways ["_law_letters", "_law_told_here"] (defScope s_l_ways) := ⟨rfl, rfl, rfl, by decide +kernel, rfl, by decide +kernel, by decide +kernel⟩
abbrev sp_l_ways (K : PySem.W.Frag) : Sp := spZ (α := (Int × (List (List Int)))) (β := (List ((List Int) × (List (Int × (List Int)))))) (fun a => [(dat (PyData.int a.1)), (dat (PyData.list (List.map (eT PyData.int) a.2)))]) (fun a => []) (fun a => m_l_ways a.1 a.2) (fun a b => (dat (Kd.pd kTI (eM (eL (eP PyData.int (eT PyData.int))) b)))) (fun a b => [])
set_option maxHeartbeats 4000000 in
theorem body_l_ways {X : Cx} (hsc : X.env.scope = defScope s_l_ways) {sts_ : List Stmt} (hst_ : defBody s_l_ways = sts_) (B : Bd X N_l_ways V_l_ways G_l_ways 1) (T : Bt X V_l_ways) (g_range : X.mg "range" = none) (g_len : X.mg "len" = none) (c_l_steps : Cal X.prog X.w X.K X.mg X.base 1 "_law_steps" s_l_steps ["_law_letters"] (sp_l_steps X.K)) (c_l_free : Cal X.prog X.w X.K X.mg X.base 1 "_law_free" s_l_free ["_law_told_here", "_law_walk"] (sp_l_free X.K)) (c_l_end : Cal X.prog X.w X.K X.mg X.base 1 "_law_end" s_l_end ["_law_told_here", "_law_walk"] (sp_l_end X.K)) (letters : Int) (told_here : (List (List Int))) (b : (List ((List Int) × (List (Int × (List Int)))))) (F0 : Hp) (os : Os) (D : Ends) (hm : m_l_ways letters told_here = some b) (R : RetZ F0 (os) (dat (Kd.pd kTI (eM (eL (eP PyData.int (eT PyData.int))) b))) D) :
    SX X [sl (dat (PyData.int letters)), sl (dat (PyData.list (List.map (eT PyData.int) told_here))), un, un, un, un, un, un, un] (os) F0 sts_ D := by
  subst hst_
  unfold m_l_ways at hm
  refine SXw.run ?_
  refine sx_newp2 (i := 2) (j := 3) (n1 := od kTI (eM (eL (eP PyData.int (eT PyData.int))) ([] : (List ((List Int) × (List (Int × (List Int)))))))) (n2 := ol (List.map (eT PyData.int) ([([] : (List Int))]))) _ hsc B rfl rfl (by decide) (by decide +kernel) (by decide +kernel) (by intro env he; cases env; cases he; first | rfl | kernel_rfl) (en_dnew (kd := kTI)) (fun q_ways_here1 => (en_lst (ds := [(PyData.tuple (List.map PyData.int ([] : (List Int))))]) (hl := len_ok (n := 1) rfl) (ax_cons (ex_tup (ds := []) ax_nil) ax_nil))) (fun q_ways_here1 q_order2 => ?_)
  obtain ⟨t3, h3, hm⟩ := bnd hm
  obtain ⟨f6o, h37, hm⟩ := bnd hm
  refine sx_forR (c := anyOs) _ (fun (s4 : ((List (List Int)) × (List ((List Int) × (List (Int × (List Int))))))) (_ : Unit) => [sl (dat (PyData.int letters)), sl (dat (PyData.list (List.map (eT PyData.int) told_here))), sl (own q_ways_here1), sl (own q_order2), un, un, un, un, un]) (fun (s4 : ((List (List Int)) × (List ((List Int) × (List (Int × (List Int))))))) (_ : Unit) => (q_order2, ol (List.map (eT PyData.int) s4.1)) :: (q_ways_here1, od kTI (eM (eL (eP PyData.int (eT PyData.int))) s4.2)) :: os) (fun (r : (List ((List Int) × (List (Int × (List Int)))))) v H => ∃ F, Same F0 F ∧ Ow F (os) H ∧ Cl (dat (Kd.pd kTI (eM (eL (eP PyData.int (eT PyData.int))) r))) F v) B T (fun at_5 => gx_name (i := 4) (vi := 4) (φ := (dat (PyData.int at_5))) B T rfl rfl) ([([] : (List Int))], ([] : (List ((List Int) × (List (Int × (List Int))))))) () f6o h37 (ix_rng1 (gi := 0) B rfl g_range h3 ex_int) ⟨.inl rfl, .inl rfl, .inl rfl, .inl rfl, .inl rfl, .inl rfl, .inl rfl, .inl rfl, .inl rfl, trivial⟩ (fun _ _ => trivial) (fun F8 e7 s4 _ at_5 z39 hx hm2 => ?_) (fun f6 _ ho => ?_) (fun r38 v H ho hr => ?_)
  · clear hm h37
    have hm := hm2
    refine sx_if (tx_cmp op_ge r2_ge (nomark _) (ex_v (i := 4) (j := 4) B rfl rfl rfl) (EX.to (ex_fn (j := 1) B rfl g_len (by decide +kernel) call_len_seq (rc_lenL (ds := List.map (eT PyData.int) s4.1) (rdl_own 0 rfl)) (ax_cons (ex_v (i := 3) (j := 3) B rfl rfl rfl) ax_nil)) (by rw [List.length_map]))) (fun hk => ?_) (fun hk => ?_)
    · have hm := ifT hm hk
      exact sx_brk fun σ H a => ⟨_, (), (som hm).symm, (a.weak ⟨.inl rfl, .inl rfl, .inl rfl, .inl rfl, .inr rfl, .inl rfl, .inl rfl, .inl rfl, .inl rfl, trivial⟩)⟩
    · have hm := ifF hm hk
      refine sx_fall ?_ rfl
      obtain ⟨t9, h9, hm⟩ := bnd hm
      refine sx_par2 (i := 5) (j := 6) _ hsc B rfl rfl (by decide) (by decide +kernel) (by decide +kernel) (by intro env he; cases env; cases he; first | rfl | kernel_rfl) (aq_x (φ := (dat (PyData.tuple (List.map PyData.int t9)))) (ex_idxL (enc := (eT PyData.int)) h9 (rdl_own 0 rfl) (ex_v (i := 3) (j := 3) B rfl rfl rfl) (ex_v (i := 4) (j := 4) B rfl rfl rfl)) (aq_n (n := ol (List.map (eP PyData.int (eT PyData.int)) ([] : (List (Int × (List Int)))))) (en_lst (ds := []) ax_nil) (fun q_found10 => aq_nil))) (fun v0 v1 os_ hr_ => ?_) (by rintro φs os_ ⟨_, rfl, q_found10, _, rfl, rfl, rfl⟩; exact ⟨_, _, rfl⟩)
      obtain ⟨_, e0, q_found10, _, e1, e8, e9⟩ := hr_
      cases e0; cases e1; cases e8; cases e9
      obtain ⟨t11, h11, hm⟩ := bnd hm
      obtain ⟨f14, h24, hm⟩ := bnd hm
      refine sx_for (c := anyOs) _ (fun (s12 : (List (Int × (List Int)))) (_ : Unit) => [sl (dat (PyData.int letters)), sl (dat (PyData.list (List.map (eT PyData.int) told_here))), sl (own q_ways_here1), sl (own q_order2), sl (dat (PyData.int at_5)), sl (dat (PyData.tuple (List.map PyData.int t9))), sl (own q_found10), un, un]) (fun (s12 : (List (Int × (List Int)))) (_ : Unit) => (q_found10, ol (List.map (eP PyData.int (eT PyData.int)) s12)) :: (q_order2, ol (List.map (eT PyData.int) s4.1)) :: (q_ways_here1, od kTI (eM (eL (eP PyData.int (eT PyData.int))) s4.2)) :: os) B T (fun step13 => gx_name (i := 7) (vi := 7) (φ := (dat (PyData.int step13))) B T rfl rfl) ([] : (List (Int × (List Int)))) () f14 h24 (ix_list (enc := PyData.int) (c := anyOs) (ex_call (a := letters) (b := t11) (gi := 2) (rest := (q_found10, ol (List.map (eP PyData.int (eT PyData.int)) ([] : (List (Int × (List Int)))))) :: (q_order2, ol (List.map (eT PyData.int) s4.1)) :: (q_ways_here1, od kTI (eM (eL (eP PyData.int (eT PyData.int))) s4.2)) :: os) B rfl c_l_steps (by decide) h11 (ax_cons (ex_v (i := 0) (j := 0) B rfl rfl rfl) ax_nil)) (fun _ _ => rdl_dat) trivial) ⟨.inl rfl, .inl rfl, .inl rfl, .inl rfl, .inl rfl, .inl rfl, .inl rfl, .inl rfl, .inl rfl, trivial⟩ (fun _ _ => trivial) (fun F16 e15 s12 _ step13 z36 hx hm => ?_) (fun _ => ?_)
      · clear h24
        obtain ⟨t19, h19, hm⟩ := bnd hm
        obtain ⟨s23, h_s23, hm⟩ := bnd hm
        refine sx_join [sl (dat (PyData.int letters)), sl (dat (PyData.list (List.map (eT PyData.int) told_here))), sl (own q_ways_here1), sl (own q_order2), sl (dat (PyData.int at_5)), sl (dat (PyData.tuple (List.map PyData.int t9))), sl (own q_found10), sl (dat (PyData.int step13)), un] ((q_found10, ol (List.map (eP PyData.int (eT PyData.int)) s23)) :: (q_order2, ol (List.map (eT PyData.int) s4.1)) :: (q_ways_here1, od kTI (eM (eL (eP PyData.int (eT PyData.int))) s4.2)) :: os) (?_) (fun Q => ?_)
        · clear h_s23
          obtain rfl := som hm
          exact sx_nil fun σ H a => ⟨(), (a.weak ⟨.inl rfl, .inl rfl, .inl rfl, .inl rfl, .inl rfl, .inl rfl, .inl rfl, .inr rfl, .inl rfl, trivial⟩)⟩
        · have hm := h_s23
          refine sx_if (WX.tx (wx_and (l := t19) (os2 := (q_found10, ol (List.map (eP PyData.int (eT PyData.int)) s12)) :: (q_order2, ol (List.map (eT PyData.int) s4.1)) :: (q_ways_here1, od kTI (eM (eL (eP PyData.int (eT PyData.int))) s4.2)) :: os) (tx_neR (e := (eT PyData.int)) (x := (cut t9 (some (-1)) none)) (y := ([(-step13)])) B (eqv_tup eqv_int) (sh_tup sh_int) (by decide) rdx_dat rdx_dat (ex_cutT (enc := PyData.int) rdt_dat (ex_v (i := 5) (j := 5) B rfl rfl rfl) (px_some (ex_neg ex_int)) px_none) (ex_tup (ds := [(PyData.int (-step13))]) (hl := len_ok (n := 1) rfl) (ax_cons (ex_neg (ex_v (i := 7) (j := 7) B rfl rfl rfl)) ax_nil))) (fun hk => by (have hm := ifT h19 hk; obtain ⟨t17, h17, hm⟩ := bnd hm; obtain ⟨t18, h18, hm⟩ := bnd hm; obtain rfl := som hm; exact (wx_and1 (tx_val (ex_call (a := (told_here, t17)) (b := t18) (gi := 3) (rest := (q_found10, ol (List.map (eP PyData.int (eT PyData.int)) s12)) :: (q_order2, ol (List.map (eT PyData.int) s4.1)) :: (q_ways_here1, od kTI (eM (eL (eP PyData.int (eT PyData.int))) s4.2)) :: os) B rfl c_l_free (by decide) h18 (ax_cons (ex_v (i := 1) (j := 1) B rfl rfl rfl) (ax_cons (ex_catT (enc := PyData.int) h17 (ex_v (i := 5) (j := 5) B rfl rfl rfl) (ex_tup (ds := [(PyData.int step13)]) (hl := len_ok (n := 1) rfl) (ax_cons (ex_v (i := 7) (j := 7) B rfl rfl rfl) ax_nil))) ax_nil))) (by intro _; rfl))))) (fun hk => by (have hm := ifF h19 hk; obtain rfl := som hm; rfl)) (and_fix (fun hk => by (have hm := ifF h19 hk; obtain rfl := som hm; rfl))))) (fun hk => ?_) (fun hk => ?_)
          · have hm := ifT hm hk
            obtain ⟨t20, h20, hm⟩ := bnd hm
            obtain ⟨t21, h21, hm⟩ := bnd hm
            obtain ⟨t22, h22, hm⟩ := bnd hm
            refine sx_expr (ex_app (enc := (eP PyData.int (eT PyData.int))) (j := 0) (xs0 := s12) (xs := s12) (y := (step13, t21)) h22 (ex_v (i := 6) (j := 6) B rfl rfl rfl) rfl (ex_tup (ds := [(PyData.int step13), (PyData.tuple (List.map PyData.int t21))]) (hl := len_ok (n := 2) rfl) (ax_cons (ex_v (i := 7) (j := 7) B rfl rfl rfl) (ax_cons (ex_call (a := (told_here, t20)) (b := t21) (gi := 4) (rest := (q_found10, ol (List.map (eP PyData.int (eT PyData.int)) s12)) :: (q_order2, ol (List.map (eT PyData.int) s4.1)) :: (q_ways_here1, od kTI (eM (eL (eP PyData.int (eT PyData.int))) s4.2)) :: os) B rfl c_l_end (by decide) h21 (ax_cons (ex_v (i := 1) (j := 1) B rfl rfl rfl) (ax_cons (ex_catT (enc := PyData.int) h20 (ex_v (i := 5) (j := 5) B rfl rfl rfl) (ex_tup (ds := [(PyData.int step13)]) (hl := len_ok (n := 1) rfl) (ax_cons (ex_v (i := 7) (j := 7) B rfl rfl rfl) ax_nil))) ax_nil))) ax_nil))) rfl) ?_
            obtain rfl := som hm
            exact sx_fall Q rfl
          · have hm := ifF hm hk
            obtain rfl := som hm
            exact sx_fall Q rfl
      · skip
        refine sx_frz (j := 0) (i := 6) rfl rfl ?_
        obtain ⟨t25, h25, hm⟩ := bnd hm
        refine sx_dput (kd := kTI) (enc := (eL (eP PyData.int (eT PyData.int)))) (w := s4.2) (x := f14) inj_kTI h25 B (ex_v (i := 6) (j := 6) B rfl rfl rfl) (ex_v (i := 2) (j := 2) B rfl rfl rfl) (EX.to (ex_v (i := 5) (j := 5) B rfl rfl rfl) (by first | exact ek_tI _ | rfl)) (wr_flat (f := (odT kTI (eL (eP PyData.int (eT PyData.int))))) (d := s4.2) 1 rfl) ?_
        obtain ⟨f28, h34, hm⟩ := bnd hm
        refine sx_for (c := anyOs) _ (fun (s26 : ((List (List Int)) × (List ((List Int) × (List (Int × (List Int))))))) (_ : Unit) => [sl (dat (PyData.int letters)), sl (dat (PyData.list (List.map (eT PyData.int) told_here))), sl (own q_ways_here1), sl (own q_order2), sl (dat (PyData.int at_5)), sl (dat (PyData.tuple (List.map PyData.int t9))), sl (dat (PyData.list (List.map (eP PyData.int (eT PyData.int)) f14))), un, un]) (fun (s26 : ((List (List Int)) × (List ((List Int) × (List (Int × (List Int))))))) (_ : Unit) => (q_order2, ol (List.map (eT PyData.int) s26.1)) :: (q_ways_here1, od kTI (eM (eL (eP PyData.int (eT PyData.int))) s26.2)) :: os) B T (fun x27 => gx_pair B (gx_name (i := 7) (vi := 7) (φ := (dat (PyData.int x27.1))) B T rfl rfl) (gx_name (i := 8) (vi := 8) (φ := (dat (PyData.tuple (List.map PyData.int x27.2)))) B T rfl rfl)) (s4.1, t25) () f28 h34 (ix_list (enc := (eP PyData.int (eT PyData.int))) (c := anyOs) (ex_v (i := 6) (j := 6) B rfl rfl rfl) (fun _ _ => rdl_dat) trivial) ⟨.inl rfl, .inl rfl, .inl rfl, .inl rfl, .inl rfl, .inl rfl, .inl rfl, .inl rfl, .inl rfl, trivial⟩ (fun _ _ => trivial) (fun F30 e29 s26 _ x27 z35 hx hm => ?_) (fun _ => ?_)
        · clear h34
          obtain ⟨s33, h_s33, hm⟩ := bnd hm
          refine sx_join [sl (dat (PyData.int letters)), sl (dat (PyData.list (List.map (eT PyData.int) told_here))), sl (own q_ways_here1), sl (own q_order2), sl (dat (PyData.int at_5)), sl (dat (PyData.tuple (List.map PyData.int t9))), sl (dat (PyData.list (List.map (eP PyData.int (eT PyData.int)) f14))), sl (dat (PyData.int x27.1)), sl (dat (PyData.tuple (List.map PyData.int x27.2)))] ((q_order2, ol (List.map (eT PyData.int) s33.1)) :: (q_ways_here1, od kTI (eM (eL (eP PyData.int (eT PyData.int))) s33.2)) :: os) (?_) (fun Q => ?_)
          · clear h_s33
            obtain rfl := som hm
            exact sx_nil fun σ H a => ⟨(), (a.weak ⟨.inl rfl, .inl rfl, .inl rfl, .inl rfl, .inl rfl, .inl rfl, .inl rfl, .inr rfl, .inr rfl, trivial⟩)⟩
          · have hm := h_s33
            refine sx_if (tx_dnotin (kd := kTI) (enc := (eL (eP PyData.int (eT PyData.int)))) (w := s26.2) (k := x27.2) inj_kTI B (rdd_own 1 rfl) (EX.to (ex_v (i := 8) (j := 8) B rfl rfl rfl) (by first | exact ek_tI _ | rfl)) (ex_v (i := 2) (j := 2) B rfl rfl rfl)) (fun hk => ?_) (fun hk => ?_)
            · have hm := ifT hm hk
              obtain ⟨t31, h31, hm⟩ := bnd hm
              refine sx_dput (kd := kTI) (enc := (eL (eP PyData.int (eT PyData.int)))) (w := s26.2) (x := ([] : (List (Int × (List Int))))) inj_kTI h31 B (EN.ex (en_lst (ds := []) ax_nil)) (ex_v (i := 2) (j := 2) B rfl rfl rfl) (EX.to (ex_v (i := 8) (j := 8) B rfl rfl rfl) (by first | exact ek_tI _ | rfl)) (wr_flat (f := (odT kTI (eL (eP PyData.int (eT PyData.int))))) (d := s26.2) 1 rfl) ?_
              obtain ⟨t32, h32, hm⟩ := bnd hm
              refine sx_expr (ex_app (enc := (eT PyData.int)) (j := 0) (xs0 := s26.1) (xs := s26.1) (y := x27.2) h32 (ex_v (i := 3) (j := 3) B rfl rfl rfl) rfl (ex_v (i := 8) (j := 8) B rfl rfl rfl) rfl) ?_
              obtain rfl := som hm
              exact sx_fall Q rfl
            · have hm := ifF hm hk
              obtain rfl := som hm
              exact sx_fall Q rfl
        · skip
          exact sx_nil fun σ H a => ⟨_, (), (som hm).symm, (a.weak ⟨.inl rfl, .inl rfl, .inl rfl, .inl rfl, .inr rfl, .inr rfl, .inr rfl, .inl rfl, .inl rfl, trivial⟩)⟩
  · cases ho
    have hm := elimR hm
    refine sx_frzF (j := 1) (i := 2) frb_od rfl rfl ?_
    obtain rfl := som hm
    exact sx_ret (ex_v (i := 2) (j := 2) B rfl rfl rfl) (fun F H v e o c => R.rt F H v e (o.drop) c)
  · cases ho
    have hm := elimL hm
    cases hm
theorem cal_l_ways {P : Program} {w : World} {K : PySem.W.Frag} {mg : Str → Option Value} {base : Heap} {f : Addr} {fd : FuncData} (Fn : Fun K "_law_ways" "_law_ways" s_l_ways f fd) (hmg : mg "_law_ways" = some (.ref f)) (hb : Binds K fd ["_law_letters", "_law_told_here"] []) (g_range : mg "range" = none) (g_len : mg "len" = none) (c_l_steps : Cal P w K mg base 1 "_law_steps" s_l_steps ["_law_letters"] (sp_l_steps K)) (c_l_free : Cal P w K mg base 1 "_law_free" s_l_free ["_law_told_here", "_law_walk"] (sp_l_free K)) (c_l_end : Cal P w K mg base 1 "_law_end" s_l_end ["_law_told_here", "_law_walk"] (sp_l_end K)) : Cal P w K mg base 2 "_law_ways" s_l_ways ["_law_letters", "_law_told_here"] (sp_l_ways K) := by
  obtain ⟨sts_, hst_⟩ : ∃ z_, defBody s_l_ways = z_ := ⟨_, rfl⟩
  exact cal_ZQ (V := V_l_ways) (Gs := G_l_ways) (nl := 7) hst_ Fn sc_l_ways (by decide +kernel) (by decide +kernel) hmg hb (fun _ => rfl) rfl fun _ _ _ _ _ _ _ a b F0 os D B T hm R => body_l_ways rfl hst_ B T g_range g_len c_l_steps c_l_free c_l_end a.1 a.2 b F0 os D hm R
abbrev s_l_counts : Stmt := top 38
def N_l_counts : List Str := ["_law_ways_here", "_law_length", "_law_found", "_law_turn", "_law_last", "_law_step", "_law_goal"]
def V_l_counts : List Str := ["_law_ways_here", "_law_length", "_law_found", "_law_turn"]
def G_l_counts : List Str := ["dict", "range"]
theorem sc_l_counts : FnScope N_l_counts ["_law_ways_here", "_law_length"] (defScope s_l_counts) := ⟨rfl, rfl, rfl, by decide +kernel, rfl, by decide +kernel, by decide +kernel⟩
abbrev sp_l_counts (K : PySem.W.Frag) : Sp := spZ (α := ((List ((List Int) × (List (Int × (List Int))))) × Int)) (β := (List (List ((List Int) × Int)))) (fun a => [(dat (Kd.pd kTI (eM (eL (eP PyData.int (eT PyData.int))) a.1))), (dat (PyData.int a.2))]) (fun a => []) (fun a => m_l_counts a.1 a.2) (fun a b => (dat (PyData.list (List.map (eD kTI PyData.int) b)))) (fun a b => [])
set_option maxHeartbeats 4000000 in
theorem body_l_counts {X : Cx} (hsc : X.env.scope = defScope s_l_counts) {sts_ : List Stmt} (hst_ : defBody s_l_counts = sts_) (B : Bd X N_l_counts V_l_counts G_l_counts 0) (T : Bt X V_l_counts) (g_dict : X.mg "dict" = none) (g_range : X.mg "range" = none) (g_sum : X.mg "sum" = none) (ways_here : (List ((List Int) × (List (Int × (List Int)))))) (length : Int) (b : (List (List ((List Int) × Int)))) (F0 : Hp) (os : Os) (D : Ends) (hm : m_l_counts ways_here length = some b) (R : RetZ F0 (os) (dat (PyData.list (List.map (eD kTI PyData.int) b))) D) :
    SX X [sl (dat (Kd.pd kTI (eM (eL (eP PyData.int (eT PyData.int))) ways_here))), sl (dat (PyData.int length)), un, un, un, un, un] (os) F0 sts_ D := by
  subst hst_
  unfold m_l_counts at hm
  obtain ⟨t3, h3, hm⟩ := bnd hm
  refine sx_asgN (i := 2) (vi := 2) (n := ol (List.map (eD kTI PyData.int) ([(dOf t3)]))) B T rfl rfl (en_lst (ds := [(Kd.pd kTI (eM PyData.int (dOf t3)))]) (hl := len_ok (n := 1) rfl) (ax_cons (EN.exF (en_ty (j := 0) B rfl g_dict (by decide +kernel) (call_dictT B.calm B.u64) (rc_dictT (enc := PyData.int) (w := t3) inj_kTI rdl_dat (fun x => congrArg (fun z => PyData.tuple [z, _]) (ek_tI x.1))) (ax_cons (EN.ex (en_lc (lc_mk1 (j := 4) (vp := fun last1 => (dat (PyData.tuple (List.map PyData.int last1)))) (c := anyOs) (enc := (eP (eT PyData.int) PyData.int)) (fun (_ : Unit) (last1 : (List Int)) => some (some (last1, 1), ())) (fun (_ : Unit) (tl1 : Os) => tl1) () (t3) () B rfl rfl (by rw [B.hN, hsc]; decide +kernel) (by rw [hsc]; decide +kernel) (by decide) (lcT_ok h3) (ix_keysTI (enc := (eL (eP PyData.int (eT PyData.int)))) (w := ways_here) (ex_v (i := 0) (j := 0) B rfl rfl rfl)) (fun _ _ => trivial) (fun _ _ _ => List.Perm.refl _) (fun _ last1 t tl1 hx hf => by (obtain rfl := som hf; exact ⟨true, _, fun X1 hX => by (have B1 := Bd.fam (W' := ["_law_last"]) (G' := []) B hX (by (try rw [hsc]); decide +kernel); exact ⟨.nil, fun _ => ⟨_, rfl, (ex_tup (ds := [(PyData.tuple (List.map PyData.int last1)), (PyData.int 1)]) (hl := len_ok (n := 2) rfl) (ax_cons (ex_v (i := 4) (j := 0) B1 rfl rfl rfl) (ax_cons ex_int ax_nil)))⟩, fun h => Bool.noConfusion h⟩)⟩))))) ax_nil)) frb_od) ax_nil)) (fun q_found3 => ?_)
  obtain ⟨t4, h4, hm⟩ := bnd hm
  obtain ⟨f7, h20, hm⟩ := bnd hm
  refine sx_for (c := anyOs) _ (fun (s5 : (List (List ((List Int) × Int)))) (_ : Unit) => [sl (dat (Kd.pd kTI (eM (eL (eP PyData.int (eT PyData.int))) ways_here))), sl (dat (PyData.int length)), sl (own q_found3), un, un, un, un]) (fun (s5 : (List (List ((List Int) × Int)))) (_ : Unit) => (q_found3, ol (List.map (eD kTI PyData.int) s5)) :: os) B T (fun turn6 => gx_name (i := 3) (vi := 3) (φ := (dat (PyData.int turn6))) B T rfl rfl) ([(dOf t3)]) () f7 h20 (ix_rng1 (gi := 1) B rfl g_range h4 (ex_v (i := 1) (j := 1) B rfl rfl rfl)) ⟨.inl rfl, .inl rfl, .inl rfl, .inl rfl, .inl rfl, .inl rfl, .inl rfl, trivial⟩ (fun _ _ => trivial) (fun F9 e8 s5 _ turn6 z21 hx hm => ?_) (fun _ => ?_)
  · clear h20
    obtain ⟨t18, h18, hm⟩ := bnd hm
    obtain ⟨t19, h19, hm⟩ := bnd hm
    refine sx_expr (ex_app (enc := (eD kTI PyData.int)) (j := 0) (xs0 := s5) (xs := s5) (y := (dOf t18)) h19 (ex_v (i := 2) (j := 2) B rfl rfl rfl) rfl (EN.exF (en_ty (j := 0) B rfl g_dict (by decide +kernel) (call_dictT B.calm B.u64) (rc_dictT (enc := PyData.int) (w := t18) inj_kTI rdl_dat (fun x => congrArg (fun z => PyData.tuple [z, _]) (ek_tI x.1))) (ax_cons (EN.ex (en_lc (lc_mk1 (j := 4) (vp := fun last10 => (dat (PyData.tuple (List.map PyData.int last10)))) (c := anyOs) (enc := (eP (eT PyData.int) PyData.int)) (fun (_ : Unit) (last10 : (List Int)) => ((fun (last10 : (List Int)) => ((dGet ways_here last10).bind fun t12 => (lcO (β := Int) (fun (x13 : (Int × (List Int))) => ((idx s5 (-1)).bind fun t15 => (dGet t15 x13.2).bind fun t16 => some t16)) t12).bind fun t17 => some (last10, t17.sum))) last10).map fun y => (some y, ())) (fun (_ : Unit) (tl1 : Os) => (q_found3, ol (List.map (eD kTI PyData.int) s5)) :: tl1) () (t18) () B rfl rfl (by rw [B.hN, hsc]; decide +kernel) (by rw [hsc]; decide +kernel) (by decide) (lcO_ok h18) (ix_keysTI (enc := (eL (eP PyData.int (eT PyData.int)))) (w := ways_here) (ex_v (i := 0) (j := 0) B rfl rfl rfl)) (fun _ _ => trivial) (fun _ _ _ => (List.Perm.swap _ _ _)) (fun _ last10 t tl1 hx hf => by (obtain ⟨y, hy, rfl⟩ := Option.map_eq_some_iff.mp hf; obtain ⟨t12, h12, hy⟩ := bnd hy; obtain ⟨t17, h17, hy⟩ := bnd hy; obtain rfl := som hy; exact ⟨true, _, fun X1 hX => by (have B1 := Bd.fam (W' := ["_law_ways_here", "_law_found", "_law_last"]) (G' := ["sum"]) B hX (by (try rw [hsc]); decide +kernel); have hsc' : X1.env.scope = _ := (fam_scope hX).trans (by rw [hsc]); have g_sum' := fam_mg hX g_sum; exact ⟨.nil, fun _ => ⟨_, rfl, (ex_tup (ds := [(PyData.tuple (List.map PyData.int last10)), (PyData.int t17.sum)]) (hl := len_ok (n := 2) rfl) (ax_cons (ex_v (i := 4) (j := 2) B1 rfl rfl rfl) (ax_cons (ex_fn (j := 0) B1 rfl g_sum' (by decide +kernel) (cr_sum B1.calm) (rc_sum rdl_dat) (ax_cons (EN.ex (en_lc (lc_mk2 (i := 5) (j := 6) (d1 := fun x13 => (PyData.int x13.1)) (d2 := fun x13 => (PyData.tuple (List.map PyData.int x13.2))) (c := anyOs) (enc := PyData.int) (fun (_ : Unit) (x13 : (Int × (List Int))) => ((fun (x13 : (Int × (List Int))) => ((idx s5 (-1)).bind fun t15 => (dGet t15 x13.2).bind fun t16 => some t16)) x13).map fun y => (some y, ())) (fun (_ : Unit) (tl2 : Os) => (q_found3, ol (List.map (eD kTI PyData.int) s5)) :: tl2) () (t17) () B1 rfl rfl (by decide) rfl rfl (by rw [B1.hN, hsc']; decide +kernel) (by rw [hsc']; decide +kernel) (by rw [hsc']; decide +kernel) (by decide) (lcO_ok h17) (ix_list (enc := (eP PyData.int (eT PyData.int))) (c := anyOs) (ex_dget (kd := kTI) (enc := (eL (eP PyData.int (eT PyData.int)))) (w := ways_here) inj_kTI h12 B1 rdd_dat (ex_v (i := 0) (j := 0) B1 rfl rfl rfl) (EX.to (ex_v (i := 4) (j := 2) B1 rfl rfl rfl) (by first | exact ek_tI _ | rfl))) (fun _ _ => rdl_dat) trivial) (fun _ _ => trivial) (fun _ _ _ => (List.Perm.swap _ _ _)) (fun _ x13 t tl2 hx hf => by (obtain ⟨y, hy, rfl⟩ := Option.map_eq_some_iff.mp hf; obtain ⟨t15, h15, hy⟩ := bnd hy; obtain ⟨t16, h16, hy⟩ := bnd hy; obtain rfl := som hy; exact ⟨true, _, fun X2 hX => by (have B2 := Bd.fam (W' := ["_law_found", "_law_goal"]) (G' := []) B1 hX (by (try rw [hsc']); decide +kernel); exact ⟨.nil, fun _ => ⟨_, rfl, (ex_dget (kd := kTI) (enc := PyData.int) (w := t15) inj_kTI h16 B2 rdd_dat (ex_idxL (enc := (eD kTI PyData.int)) h15 (rdl_own 0 rfl) (ex_v (i := 2) (j := 0) B2 rfl rfl rfl) (ex_neg ex_int)) (EX.to (ex_v (i := 6) (j := 1) B2 rfl rfl rfl) (by first | exact ek_tI _ | rfl)))⟩, fun h => Bool.noConfusion h⟩)⟩))))) ax_nil)) ax_nil)))⟩, fun h => Bool.noConfusion h⟩)⟩))))) ax_nil)) frb_od) rfl) ?_
    obtain rfl := som hm
    exact sx_nil fun σ H a => ⟨(), (a.weak ⟨.inl rfl, .inl rfl, .inl rfl, .inr rfl, .inl rfl, .inl rfl, .inl rfl, trivial⟩)⟩
  · skip
    refine sx_frz (j := 0) (i := 2) rfl rfl ?_
    obtain rfl := som hm
    exact sx_ret (ex_v (i := 2) (j := 2) B rfl rfl rfl) (fun F H v e o c => R.rt F H v e o c)
theorem cal_l_counts {P : Program} {w : World} {K : PySem.W.Frag} {mg : Str → Option Value} {base : Heap} {f : Addr} {fd : FuncData} (Fn : Fun K "_law_counts" "_law_counts" s_l_counts f fd) (hmg : mg "_law_counts" = some (.ref f)) (hb : Binds K fd ["_law_ways_here", "_law_length"] []) (g_dict : mg "dict" = none) (g_range : mg "range" = none) (g_sum : mg "sum" = none) : Cal P w K mg base 1 "_law_counts" s_l_counts ["_law_ways_here", "_law_length"] (sp_l_counts K) := by
  obtain ⟨sts_, hst_⟩ : ∃ z_, defBody s_l_counts = z_ := ⟨_, rfl⟩
  exact cal_ZQ (V := V_l_counts) (Gs := G_l_counts) (nl := 5) hst_ Fn sc_l_counts (by decide +kernel) (by decide +kernel) hmg hb (fun _ => rfl) rfl fun _ _ _ _ _ _ _ a b F0 os D B T hm R => body_l_counts rfl hst_ B T g_dict g_range g_sum a.1 a.2 b F0 os D hm R
abbrev s_l_first : Stmt := top 39
def N_l_first : List Str := ["_law_ways_here", "_law_counts_here", "_law_last", "_law_found", "_law_left", "_law_step", "_law_way"]
def V_l_first : List Str := ["_law_ways_here", "_law_counts_here", "_law_last", "_law_found", "_law_left", "_law_step"]
def G_l_first : List Str := ["range", "len"]
theorem sc_l_first : FnScope N_l_first ["_law_ways_here", "_law_counts_here"] (defScope s_l_first) := ⟨rfl, rfl, rfl, by decide +kernel, rfl, by decide +kernel, by decide +kernel⟩
abbrev sp_l_first (K : PySem.W.Frag) : Sp := spZ (α := ((List ((List Int) × (List (Int × (List Int))))) × (List (List ((List Int) × Int))))) (β := (Option (List Int))) (fun a => [(dat (Kd.pd kTI (eM (eL (eP PyData.int (eT PyData.int))) a.1))), (dat (PyData.list (List.map (eD kTI PyData.int) a.2)))]) (fun a => []) (fun a => m_l_first a.1 a.2) (fun a b => (dat ((eO (eT PyData.int)) b))) (fun a b => [])
set_option maxHeartbeats 4000000 in
theorem body_l_first {X : Cx} (hsc : X.env.scope = defScope s_l_first) {sts_ : List Stmt} (hst_ : defBody s_l_first = sts_) (B : Bd X N_l_first V_l_first G_l_first 0) (T : Bt X V_l_first) (g_range : X.mg "range" = none) (g_len : X.mg "len" = none) (ways_here : (List ((List Int) × (List (Int × (List Int)))))) (counts_here : (List (List ((List Int) × Int)))) (b : (Option (List Int))) (F0 : Hp) (os : Os) (D : Ends) (hm : m_l_first ways_here counts_here = some b) (R : RetZ F0 (os) (dat ((eO (eT PyData.int)) b)) D) :
    SX X [sl (dat (Kd.pd kTI (eM (eL (eP PyData.int (eT PyData.int))) ways_here))), sl (dat (PyData.list (List.map (eD kTI PyData.int) counts_here))), un, un, un, un, un] (os) F0 sts_ D := by
  subst hst_
  unfold m_l_first at hm
  refine sx_mk2 (i := 2) (j := 3) (vi := 2) (gi := 3) _ hsc B T rfl rfl rfl rfl (by intro env he; cases env; cases he; first | rfl | kernel_rfl) (aq_x (φ := (dat (PyData.tuple (List.map PyData.int ([] : (List Int)))))) (ex_tup (ds := []) ax_nil) (aq_x (φ := (dat (PyData.tuple (List.map PyData.int ([] : (List Int)))))) (ex_tup (ds := []) ax_nil) aq_nil)) (fun v0 v1 os_ hr_ => ?_) (by rintro φs os_ ⟨_, rfl, _, rfl, rfl, rfl⟩; exact ⟨_, _, rfl⟩)
  obtain ⟨_, e0, _, e1, e8, e9⟩ := hr_
  cases e0; cases e1; cases e8; cases e9
  obtain ⟨t1, h1, hm⟩ := bnd hm
  obtain ⟨t2, h2, hm⟩ := bnd hm
  refine sx_if (tx_cmp op_eq r2_eqI (nomark _) (ex_dget (kd := kTI) (enc := PyData.int) (w := t1) inj_kTI h2 B rdd_dat (ex_idxL (enc := (eD kTI PyData.int)) h1 rdl_dat (ex_v (i := 1) (j := 1) B rfl rfl rfl) (ex_neg ex_int)) (EX.to (ex_v (i := 2) (j := 2) B rfl rfl rfl) (by first | exact ek_tI _ | rfl))) ex_int) (fun hk => ?_) (fun hk => ?_)
  · have hm := ifT hm hk
    obtain rfl := som hm
    exact sx_ret ex_none (fun F H v e o c => R.rt F H v e o c)
  · have hm := ifF hm hk
    refine sx_fall ?_ rfl
    obtain ⟨t3, h3, hm⟩ := bnd hm
    obtain ⟨f6, h17, hm⟩ := bnd hm
    refine sx_for (c := anyOs) _ (fun (s4 : ((List Int) × (List Int))) (_ : Unit) => [sl (dat (Kd.pd kTI (eM (eL (eP PyData.int (eT PyData.int))) ways_here))), sl (dat (PyData.list (List.map (eD kTI PyData.int) counts_here))), sl (dat (PyData.tuple (List.map PyData.int s4.1))), sl (dat (PyData.tuple (List.map PyData.int s4.2))), un, un, un]) (fun (s4 : ((List Int) × (List Int))) (_ : Unit) => os) B T (fun left5 => gx_name (i := 4) (vi := 4) (φ := (dat (PyData.int left5))) B T rfl rfl) (([] : (List Int)), ([] : (List Int))) () f6 h17 (ix_rngD (gi := 0) B rfl g_range h3 (ex_sub (EX.to (ex_fn (j := 1) B rfl g_len (by decide +kernel) call_len_seq (rc_lenL (ds := List.map (eD kTI PyData.int) counts_here) rdl_dat) (ax_cons (ex_v (i := 1) (j := 1) B rfl rfl rfl) ax_nil)) (by rw [List.length_map])) ex_int) (ex_neg ex_int) (ex_neg ex_int)) ⟨.inl rfl, .inl rfl, .inl rfl, .inl rfl, .inl rfl, .inl rfl, .inl rfl, trivial⟩ (fun _ _ => trivial) (fun F8 e7 s4 _ left5 z18 hx hm => ?_) (fun _ => ?_)
    · clear h17
      obtain ⟨t9, h9, hm⟩ := bnd hm
      obtain ⟨t14, h14, hm⟩ := bnd hm
      obtain ⟨t15, h15, hm⟩ := bnd hm
      refine sx_unp (gx_pair B (gx_name (i := 5) (vi := 5) B T rfl rfl) (gx_name (i := 2) (vi := 2) B T rfl rfl)) (ex_idxL (enc := (eP PyData.int (eT PyData.int))) h15 rdl_dat (EN.ex (en_lc (lc_mk1 (j := 6) (vp := fun way10 => (dat (PyData.tuple [(PyData.int way10.1), (PyData.tuple (List.map PyData.int way10.2))]))) (c := anyOs) (enc := (eP PyData.int (eT PyData.int))) (fun (_ : Unit) (way10 : (Int × (List Int))) => ((fun (way10 : (Int × (List Int))) => ((idx counts_here left5).bind fun t12 => (dGet t12 way10.2).bind fun t13 => if (decide (0 < t13)) = true then some (some way10) else some none)) way10).map fun y => (y, ())) (fun (_ : Unit) (tl1 : Os) => tl1) () (t14) () B rfl rfl (by rw [B.hN, hsc]; decide +kernel) (by rw [hsc]; decide +kernel) (by decide) (lcG_ok h14) (ix_list (enc := (eP PyData.int (eT PyData.int))) (c := anyOs) (ex_dget (kd := kTI) (enc := (eL (eP PyData.int (eT PyData.int)))) (w := ways_here) inj_kTI h9 B rdd_dat (ex_v (i := 0) (j := 0) B rfl rfl rfl) (EX.to (ex_v (i := 2) (j := 2) B rfl rfl rfl) (by first | exact ek_tI _ | rfl))) (fun _ _ => rdl_dat) trivial) (fun _ _ => trivial) (fun _ _ _ => List.Perm.refl _) (fun _ way10 t tl1 hx hf => by (obtain ⟨y, hy, rfl⟩ := Option.map_eq_some_iff.mp hf; obtain ⟨t12, h12, hy⟩ := bnd hy; obtain ⟨t13, h13, hy⟩ := bnd hy; cases hc : (decide (0 < t13)) with | true => (have hy := ifT hy hc; obtain rfl := som hy; exact ⟨true, _, fun X1 hX => by (have B1 := Bd.fam (W' := ["_law_counts_here", "_law_left", "_law_way"]) (G' := []) B hX (by (try rw [hsc]); decide +kernel); exact ⟨.one (TX.to (tx_cmp op_gt r2_gt (nomark _) (ex_dget (kd := kTI) (enc := PyData.int) (w := t12) inj_kTI h13 B1 rdd_dat (ex_idxL (enc := (eD kTI PyData.int)) h12 rdl_dat (ex_v (i := 1) (j := 0) B1 rfl rfl rfl) (ex_v (i := 4) (j := 1) B1 rfl rfl rfl)) (EX.to (ex_ixT rdt_dat (by rfl) (ex_v (i := 6) (j := 2) B1 rfl rfl rfl) ex_int) (by first | exact ek_tI _ | rfl))) ex_int) hc), fun _ => ⟨_, rfl, (ex_v (i := 6) (j := 2) B1 rfl rfl rfl)⟩, fun h => Bool.noConfusion h⟩)⟩) | false => (have hy := ifF hy hc; obtain rfl := som hy; exact ⟨false, _, fun X1 hX => by (have B1 := Bd.fam (W' := ["_law_counts_here", "_law_left", "_law_way"]) (G' := []) B hX (by (try rw [hsc]); decide +kernel); exact ⟨.one (TX.to (tx_cmp op_gt r2_gt (nomark _) (ex_dget (kd := kTI) (enc := PyData.int) (w := t12) inj_kTI h13 B1 rdd_dat (ex_idxL (enc := (eD kTI PyData.int)) h12 rdl_dat (ex_v (i := 1) (j := 0) B1 rfl rfl rfl) (ex_v (i := 4) (j := 1) B1 rfl rfl rfl)) (EX.to (ex_ixT rdt_dat (by rfl) (ex_v (i := 6) (j := 2) B1 rfl rfl rfl) ex_int) (by first | exact ek_tI _ | rfl))) ex_int) hc), fun h => Bool.noConfusion h, fun _ => ⟨rfl, rfl⟩⟩)⟩)))))) ex_int) ?_
      obtain ⟨t16, h16, hm⟩ := bnd hm
      refine sx_asg (i := 3) (vi := 3) (φ := (dat (PyData.tuple (List.map PyData.int t16)))) B T rfl rfl (ex_catT (enc := PyData.int) h16 (ex_v (i := 3) (j := 3) B rfl rfl rfl) (ex_tup (ds := [(PyData.int t15.1)]) (hl := len_ok (n := 1) rfl) (ax_cons (ex_v (i := 5) (j := 5) B rfl rfl rfl) ax_nil))) ?_
      obtain rfl := som hm
      exact sx_nil fun σ H a => ⟨(), (a.weak ⟨.inl rfl, .inl rfl, .inl rfl, .inl rfl, .inr rfl, .inr rfl, .inl rfl, trivial⟩)⟩
    · skip
      obtain rfl := som hm
      exact sx_ret (ex_v (i := 3) (j := 3) B rfl rfl rfl) (fun F H v e o c => R.rt F H v e o c)
theorem cal_l_first {P : Program} {w : World} {K : PySem.W.Frag} {mg : Str → Option Value} {base : Heap} {f : Addr} {fd : FuncData} (Fn : Fun K "_law_first" "_law_first" s_l_first f fd) (hmg : mg "_law_first" = some (.ref f)) (hb : Binds K fd ["_law_ways_here", "_law_counts_here"] []) (g_range : mg "range" = none) (g_len : mg "len" = none) : Cal P w K mg base 1 "_law_first" s_l_first ["_law_ways_here", "_law_counts_here"] (sp_l_first K) := by
  obtain ⟨sts_, hst_⟩ : ∃ z_, defBody s_l_first = z_ := ⟨_, rfl⟩
  exact cal_ZQ (V := V_l_first) (Gs := G_l_first) (nl := 5) hst_ Fn sc_l_first (by decide +kernel) (by decide +kernel) hmg hb (fun _ => rfl) rfl fun _ _ _ _ _ _ _ a b F0 os D B T hm R => body_l_first rfl hst_ B T g_range g_len a.1 a.2 b F0 os D hm R
abbrev s_l_number : Stmt := top 40
def N_l_number : List Str := ["_law_found", "_law_due"]
def V_l_number : List Str := ["_law_found", "_law_due"]
def G_l_number : List Str := ["isinstance", "int", "bool"]
theorem sc_l_number : FnScope N_l_number ["_law_found", "_law_due"] (defScope s_l_number) := ⟨rfl, rfl, rfl, by decide +kernel, rfl, by decide +kernel, by decide +kernel⟩
abbrev sp_l_number (K : PySem.W.Frag) : Sp := spZ (α := (Int × Int)) (β := Bool) (fun a => [(dat (PyData.int a.1)), (dat (PyData.int a.2))]) (fun a => []) (fun a => m_l_number a.1 a.2) (fun a b => (dat (PyData.bool b))) (fun a b => [])
set_option maxHeartbeats 4000000 in
theorem body_l_number {X : Cx} (hsc : X.env.scope = defScope s_l_number) {sts_ : List Stmt} (hst_ : defBody s_l_number = sts_) (B : Bd X N_l_number V_l_number G_l_number 0) (T : Bt X V_l_number) (g_isinstance : X.mg "isinstance" = none) (g_int : X.mg "int" = none) (g_bool : X.mg "bool" = none) (found : Int) (due : Int) (b : Bool) (F0 : Hp) (os : Os) (D : Ends) (hm : m_l_number found due = some b) (R : RetZ F0 (os) (dat (PyData.bool b)) D) :
    SX X [sl (dat (PyData.int found)), sl (dat (PyData.int due))] (os) F0 sts_ D := by
  subst hst_
  unfold m_l_number at hm
  obtain rfl := som hm
  exact sx_ret (ex_and (ex_fn (j := 0) B rfl g_isinstance (by decide +kernel) call_isi (rc_isi (d := (PyData.int found)) (T := "int") (show kitB "int" "int" = some true by decide +kernel)) (ax_cons (ex_v (i := 0) (j := 0) B rfl rfl rfl) (ax_cons (ex_tyname (T := "int") (gi := 1) B rfl g_int (by decide +kernel)) ax_nil))) (fun _ => (ex_and (ex_not (ex_fn (j := 0) B rfl g_isinstance (by decide +kernel) call_isi (rc_isi (d := (PyData.int found)) (T := "bool") (show kitB "int" "bool" = some false by decide +kernel)) (ax_cons (ex_v (i := 0) (j := 0) B rfl rfl rfl) (ax_cons (ex_tyname (T := "bool") (gi := 2) B rfl g_bool (by decide +kernel)) ax_nil)))) (fun _ => (ex_one (ex_cmp op_eq r2_eqI (nomark _) (ex_v (i := 0) (j := 0) B rfl rfl rfl) (ex_v (i := 1) (j := 1) B rfl rfl rfl)))) (fun _ => rfl) rfl)) (fun _ => rfl) rfl) (fun F H v e o c => R.rt F H v e o c)
theorem cal_l_number {P : Program} {w : World} {K : PySem.W.Frag} {mg : Str → Option Value} {base : Heap} {f : Addr} {fd : FuncData} (Fn : Fun K "_law_number" "_law_number" s_l_number f fd) (hmg : mg "_law_number" = some (.ref f)) (hb : Binds K fd ["_law_found", "_law_due"] []) (g_isinstance : mg "isinstance" = none) (g_int : mg "int" = none) (g_bool : mg "bool" = none) : Cal P w K mg base 1 "_law_number" s_l_number ["_law_found", "_law_due"] (sp_l_number K) := by
  obtain ⟨sts_, hst_⟩ : ∃ z_, defBody s_l_number = z_ := ⟨_, rfl⟩
  exact cal_ZQ (V := V_l_number) (Gs := G_l_number) (nl := 0) hst_ Fn sc_l_number (by decide +kernel) (by decide +kernel) hmg hb (fun _ => rfl) rfl fun _ _ _ _ _ _ _ a b F0 os D B T hm R => body_l_number rfl hst_ B T g_isinstance g_int g_bool a.1 a.2 b F0 os D hm R
abbrev s_l_without : Stmt := top 41
def N_l_without : List Str := ["_law_letters", "_law_told_here", "_law_length", "_law_due", "_law_first_here", "_law_kept", "_law_passed", "_law_found"]
def V_l_without : List Str := ["_law_letters", "_law_told_here", "_law_length", "_law_due", "_law_first_here", "_law_kept", "_law_passed", "_law_found"]
def G_l_without : List Str := ["repr", "list", "_law_number", "how_many_without", "first_without", "_law_is"]
theorem sc_l_without : FnScope N_l_without ["_law_letters", "_law_told_here", "_law_length", "_law_due", "_law_first_here"] (defScope s_l_without) := ⟨rfl, rfl, rfl, by decide +kernel, rfl, by decide +kernel, by decide +kernel⟩
theorem kw_how_many_without_0_length_told_letters : KwOk "how_many_without" s_p_how_many_without ["letters", "told", "length"] ["length", "told", "letters"] 0 [2, 1, 0] := fun _ _ _ _ _ _ us ws h1 h2 => match us, ws, h1, h2 with | [], [_, _, _], _, _ => rfl
theorem kw_first_without_0_length_told_letters : KwOk "first_without" s_p_first_without ["letters", "told", "length"] ["length", "told", "letters"] 0 [2, 1, 0] := fun _ _ _ _ _ _ us ws h1 h2 => match us, ws, h1, h2 with | [], [_, _, _], _, _ => rfl
abbrev sp_l_without (K : PySem.W.Frag) : Sp := spZ (α := (Int × (List (List Int)) × Int × Int × (Option (List Int)))) (β := Bool) (fun a => [(dat (PyData.int a.1)), (dat (PyData.list (List.map (eT PyData.int) a.2.1))), (dat (PyData.int a.2.2.1)), (dat (PyData.int a.2.2.2.1)), (dat ((eO (eT PyData.int)) a.2.2.2.2))]) (fun a => []) (fun a => m_l_without a.1 a.2.1 a.2.2.1 a.2.2.2.1 a.2.2.2.2) (fun a b => (dat (PyData.bool b))) (fun a b => [])
set_option maxHeartbeats 4000000 in
theorem body_l_without {X : Cx} (hsc : X.env.scope = defScope s_l_without) {sts_ : List Stmt} (hst_ : defBody s_l_without = sts_) (B : Bd X N_l_without V_l_without G_l_without 5) (T : Bt X V_l_without) (g_repr : X.mg "repr" = none) (g_list : X.mg "list" = none) (c_l_number : Cal X.prog X.w X.K X.mg X.base 1 "_law_number" s_l_number ["_law_found", "_law_due"] (sp_l_number X.K)) (c_p_how_many_withoutO : Cal X.prog X.w X.K X.mg X.base 5 "how_many_without" s_p_how_many_withoutO ["letters", "told", "length"] (sp_p_how_many_withoutO X.K)) (c_p_first_withoutO : Cal X.prog X.w X.K X.mg X.base 5 "first_without" s_p_first_withoutO ["letters", "told", "length"] (sp_p_first_withoutO X.K)) (c_p_how_many_without : Cal X.prog X.w X.K X.mg X.base 5 "how_many_without" s_p_how_many_without ["letters", "told", "length"] (sp_p_how_many_without X.K)) (c_p_first_without : Cal X.prog X.w X.K X.mg X.base 5 "first_without" s_p_first_without ["letters", "told", "length"] (sp_p_first_without X.K)) (c_l_isN : Cal X.prog X.w X.K X.mg X.base 1 "_law_is" s_l_isN ["_law_found", "_law_due"] (sp_l_isN X.K)) (c_l_is : Cal X.prog X.w X.K X.mg X.base 1 "_law_is" s_l_is ["_law_found", "_law_due"] (sp_l_is X.K)) (letters : Int) (told_here : (List (List Int))) (length : Int) (due : Int) (first_here : (Option (List Int))) (b : Bool) (F0 : Hp) (os : Os) (D : Ends) (hm : m_l_without letters told_here length due first_here = some b) (R : RetZ F0 (os) (dat (PyData.bool b)) D) :
    SX X [sl (dat (PyData.int letters)), sl (dat (PyData.list (List.map (eT PyData.int) told_here))), sl (dat (PyData.int length)), sl (dat (PyData.int due)), sl (dat ((eO (eT PyData.int)) first_here)), un, un, un] (os) F0 sts_ D := by
  subst hst_
  unfold m_l_without at hm
  cases hq36 : first_here with
  | none =>
    rw [hq36] at hm
    obtain ⟨t1, h1, hm⟩ := bnd hm
    refine sx_par2 (i := 5) (j := 6) _ hsc B rfl rfl (by decide) (by decide +kernel) (by decide +kernel) (by intro env he; cases env; cases he; first | rfl | kernel_rfl) (aq_x (φ := (dat (PyData.str t1))) (ex_fn (j := 0) B rfl g_repr (by decide +kernel) (call_repr B.gd B.room) (rc_repr h1) (ax_cons (ex_v (i := 1) (j := 1) B rfl rfl rfl) ax_nil)) (aq_n (n := ol (List.map (eT PyData.int) told_here)) (en_ty (j := 1) B rfl g_list (by decide +kernel) call_list_of (rc_lstL (ds := List.map (eT PyData.int) told_here) rdl_dat) (ax_cons (ex_v (i := 1) (j := 1) B rfl rfl rfl) ax_nil)) (fun q_passed2 => aq_nil))) (fun v0 v1 os_ hr_ => ?_) (by rintro φs os_ ⟨_, rfl, q_passed2, _, rfl, rfl, rfl⟩; exact ⟨_, _, rfl⟩)
    obtain ⟨_, e0, q_passed2, _, e1, e8, e9⟩ := hr_
    cases e0; cases e1; cases e8; cases e9
    obtain ⟨t3, h3, hm⟩ := bnd hm
    obtain ⟨t4, h4, hm⟩ := bnd hm
    refine sx_if (tx_not (tx_val (ex_call (a := (t3.1, due)) (b := t4) (gi := 2) (rest := (q_passed2, ol (List.map (eT PyData.int) t3.2)) :: os) B rfl c_l_number (by decide) h4 (ax_cons (ex_call (a := (letters, q_passed2, told_here, length)) (b := t3) (gi := 3) (rest := os) B rfl c_p_how_many_withoutO (by decide) h3 (ax_cons (ex_v (i := 0) (j := 0) B rfl rfl rfl) (ax_cons (ex_v (i := 6) (j := 6) B rfl rfl rfl) (ax_cons (ex_v (i := 2) (j := 2) B rfl rfl rfl) ax_nil)))) (ax_cons (ex_v (i := 3) (j := 3) B rfl rfl rfl) ax_nil))) (by intro _; rfl))) (fun hk => ?_) (fun hk => ?_)
    · have hm := ifT hm hk
      obtain rfl := som hm
      exact sx_ret ex_bool (fun F H v e o c => R.rt F H v e (o.drop) c)
    · have hm := ifF hm hk
      refine sx_fall ?_ rfl
      obtain ⟨t5, h5, hm⟩ := bnd hm
      refine sx_asg (i := 7) (vi := 7) (φ := (dat ((eO (eT PyData.int)) t5.1))) B T rfl rfl (ex_call (a := (letters, q_passed2, t3.2, length)) (b := t5) (gi := 4) (rest := os) B rfl c_p_first_withoutO (by decide) h5 (ax_cons (ex_v (i := 0) (j := 0) B rfl rfl rfl) (ax_cons (ex_v (i := 6) (j := 6) B rfl rfl rfl) (ax_cons (ex_v (i := 2) (j := 2) B rfl rfl rfl) ax_nil)))) ?_
      cases hq16 : t5.1 with
      | none =>
        rw [hq16] at hm
        refine sx_if (WX.tx (wx_or (WX.tx (wx_and (tx_cmp op_isN (r2_isN (d := PyData.none) (t := true) rfl) (nomark _) (ex_v (i := 4) (j := 4) B rfl rfl rfl) ex_none) (fun _ => (wx_and1 (tx_cmp op_notN (r2_notN (d := PyData.none) (t := false) rfl) (nomark _) (ex_v (i := 7) (j := 7) B rfl rfl rfl) ex_none))) (fun _ => rfl) rfl)) (fun _ => (wx_or1 (WX.tx (wx_and (l := false) (tx_cmp op_notN (r2_notN (d := PyData.none) (t := false) rfl) (nomark _) (ex_v (i := 4) (j := 4) B rfl rfl rfl) ex_none) (fun hk => Bool.noConfusion hk) (fun _ => rfl) rfl)))) (fun _ => rfl) rfl)) (fun hk => ?_) (fun hk => ?_)
        · have hm := ifT hm hk
          obtain rfl := som hm
          exact sx_ret ex_bool (fun F H v e o c => R.rt F H v e (o.drop) c)
        · have hm := ifF hm hk
          refine sx_fall ?_ rfl
          obtain ⟨t6, h6, hm⟩ := bnd hm
          refine sx_if (tx_cmp op_ne r2_neS (nomark _) (ex_fn (j := 0) B rfl g_repr (by decide +kernel) (call_repr B.gd B.room) (rc_reprX (rdx_own (ds := List.map (eT PyData.int) t5.2) 0 rfl) h6) (ax_cons (ex_v (i := 6) (j := 6) B rfl rfl rfl) ax_nil)) (ex_v (i := 5) (j := 5) B rfl rfl rfl)) (fun hk => ?_) (fun hk => ?_)
          · have hm := ifT hm hk
            obtain rfl := som hm
            exact sx_ret ex_bool (fun F H v e o c => R.rt F H v e (o.drop) c)
          · have hm := ifF hm hk
            refine sx_fall ?_ rfl
            obtain ⟨t7, h7, hm⟩ := bnd hm
            refine sx_expr (ex_app (enc := (eT PyData.int)) (j := 0) (xs0 := t5.2) (xs := t5.2) (y := ([1])) h7 (ex_v (i := 6) (j := 6) B rfl rfl rfl) rfl (ex_tup (ds := [(PyData.int 1)]) (hl := len_ok (n := 1) rfl) (ax_cons ex_int ax_nil)) rfl) ?_
            obtain ⟨t8, h8, hm⟩ := bnd hm
            obtain ⟨t9, h9, hm⟩ := bnd hm
            refine sx_if (tx_not (tx_val (ex_call (a := (t8, due)) (b := t9) (gi := 2) (rest := (q_passed2, ol (List.map (eT PyData.int) t7)) :: os) B rfl c_l_number (by decide) h9 (ax_cons (ex_callk0 (a := (letters, told_here, length)) (b := t8) (gi := 3) (rest := (q_passed2, ol (List.map (eT PyData.int) t7)) :: os) B rfl c_p_how_many_without (by decide) kw_how_many_without_0_length_told_letters (by decide) h8 (kx_cons (ex_v (i := 2) (j := 2) B rfl rfl rfl) (kx_cons (EN.ex (en_ty (j := 1) B rfl g_list (by decide +kernel) call_list_of (rc_lstL (ds := List.map (eT PyData.int) told_here) rdl_dat) (ax_cons (ex_v (i := 1) (j := 1) B rfl rfl rfl) ax_nil))) (kx_cons (ex_v (i := 0) (j := 0) B rfl rfl rfl) kx_nil))) rfl) (ax_cons (ex_v (i := 3) (j := 3) B rfl rfl rfl) ax_nil))) (by intro _; rfl))) (fun hk => ?_) (fun hk => ?_)
            · have hm := ifT hm hk
              obtain rfl := som hm
              exact sx_ret ex_bool (fun F H v e o c => R.rt F H v e (o.drop) c)
            · have hm := ifF hm hk
              refine sx_fall ?_ rfl
              obtain ⟨t10, h10, hm⟩ := bnd hm
              obtain rfl := som hm
              exact sx_ret (ex_eqR (e := (eO (eT PyData.int))) (x := t10) (y := (none : (Option (List Int)))) B (eqv_opt (eqv_tup eqv_int) non_tup) (sh_opt (sh_tup sh_int)) (by decide) rdx_dat rdx_dat (ex_callk0 (a := (letters, told_here, length)) (b := t10) (gi := 4) (rest := (q_passed2, ol (List.map (eT PyData.int) t7)) :: os) B rfl c_p_first_without (by decide) kw_first_without_0_length_told_letters (by decide) h10 (kx_cons (ex_v (i := 2) (j := 2) B rfl rfl rfl) (kx_cons (EN.ex (en_ty (j := 1) B rfl g_list (by decide +kernel) call_list_of (rc_lstL (ds := List.map (eT PyData.int) told_here) rdl_dat) (ax_cons (ex_v (i := 1) (j := 1) B rfl rfl rfl) ax_nil))) (kx_cons (ex_v (i := 0) (j := 0) B rfl rfl rfl) kx_nil))) rfl) (ex_v (i := 4) (j := 4) B rfl rfl rfl)) (fun F H v e o c => R.rt F H v e (o.drop) c)
      | some found11 =>
        rw [hq16] at hm
        refine sx_if (WX.tx (wx_or (WX.tx (wx_and (tx_cmp op_isN (r2_isN (d := PyData.none) (t := true) rfl) (nomark _) (ex_v (i := 4) (j := 4) B rfl rfl rfl) ex_none) (fun _ => (wx_and1 (tx_cmp op_notN (r2_notN (d := (PyData.tuple (List.map PyData.int found11))) (t := true) rfl) (nomark _) (ex_v (i := 7) (j := 7) B rfl rfl rfl) ex_none))) (fun _ => rfl) rfl)) (fun _ => (wx_or1 (WX.tx (wx_and (l := false) (tx_cmp op_notN (r2_notN (d := PyData.none) (t := false) rfl) (nomark _) (ex_v (i := 4) (j := 4) B rfl rfl rfl) ex_none) (fun hk => Bool.noConfusion hk) (fun _ => rfl) rfl)))) (fun _ => rfl) rfl)) (fun hk => ?_) (fun hk => ?_)
        · have hm := ifT hm hk
          obtain rfl := som hm
          exact sx_ret ex_bool (fun F H v e o c => R.rt F H v e (o.drop) c)
        · have hm := ifF hm hk
          refine sx_fall ?_ rfl
          obtain ⟨t12, h12, hm⟩ := bnd hm
          refine sx_if (tx_cmp op_ne r2_neS (nomark _) (ex_fn (j := 0) B rfl g_repr (by decide +kernel) (call_repr B.gd B.room) (rc_reprX (rdx_own (ds := List.map (eT PyData.int) t5.2) 0 rfl) h12) (ax_cons (ex_v (i := 6) (j := 6) B rfl rfl rfl) ax_nil)) (ex_v (i := 5) (j := 5) B rfl rfl rfl)) (fun hk => ?_) (fun hk => ?_)
          · have hm := ifT hm hk
            obtain rfl := som hm
            exact sx_ret ex_bool (fun F H v e o c => R.rt F H v e (o.drop) c)
          · have hm := ifF hm hk
            refine sx_fall ?_ rfl
            obtain ⟨t13, h13, hm⟩ := bnd hm
            refine sx_expr (ex_app (enc := (eT PyData.int)) (j := 0) (xs0 := t5.2) (xs := t5.2) (y := ([1])) h13 (ex_v (i := 6) (j := 6) B rfl rfl rfl) rfl (ex_tup (ds := [(PyData.int 1)]) (hl := len_ok (n := 1) rfl) (ax_cons ex_int ax_nil)) rfl) ?_
            obtain ⟨t14, h14, hm⟩ := bnd hm
            obtain ⟨t15, h15, hm⟩ := bnd hm
            refine sx_if (tx_not (tx_val (ex_call (a := (t14, due)) (b := t15) (gi := 2) (rest := (q_passed2, ol (List.map (eT PyData.int) t13)) :: os) B rfl c_l_number (by decide) h15 (ax_cons (ex_callk0 (a := (letters, told_here, length)) (b := t14) (gi := 3) (rest := (q_passed2, ol (List.map (eT PyData.int) t13)) :: os) B rfl c_p_how_many_without (by decide) kw_how_many_without_0_length_told_letters (by decide) h14 (kx_cons (ex_v (i := 2) (j := 2) B rfl rfl rfl) (kx_cons (EN.ex (en_ty (j := 1) B rfl g_list (by decide +kernel) call_list_of (rc_lstL (ds := List.map (eT PyData.int) told_here) rdl_dat) (ax_cons (ex_v (i := 1) (j := 1) B rfl rfl rfl) ax_nil))) (kx_cons (ex_v (i := 0) (j := 0) B rfl rfl rfl) kx_nil))) rfl) (ax_cons (ex_v (i := 3) (j := 3) B rfl rfl rfl) ax_nil))) (by intro _; rfl))) (fun hk => ?_) (fun hk => ?_)
            · have hm := ifT hm hk
              obtain rfl := som hm
              exact sx_ret ex_bool (fun F H v e o c => R.rt F H v e (o.drop) c)
            · have hm := ifF hm hk
              refine sx_fall ?_ rfl
              obtain ⟨t16, h16, hm⟩ := bnd hm
              obtain rfl := som hm
              exact sx_ret (ex_eqR (e := (eO (eT PyData.int))) (x := t16) (y := (none : (Option (List Int)))) B (eqv_opt (eqv_tup eqv_int) non_tup) (sh_opt (sh_tup sh_int)) (by decide) rdx_dat rdx_dat (ex_callk0 (a := (letters, told_here, length)) (b := t16) (gi := 4) (rest := (q_passed2, ol (List.map (eT PyData.int) t13)) :: os) B rfl c_p_first_without (by decide) kw_first_without_0_length_told_letters (by decide) h16 (kx_cons (ex_v (i := 2) (j := 2) B rfl rfl rfl) (kx_cons (EN.ex (en_ty (j := 1) B rfl g_list (by decide +kernel) call_list_of (rc_lstL (ds := List.map (eT PyData.int) told_here) rdl_dat) (ax_cons (ex_v (i := 1) (j := 1) B rfl rfl rfl) ax_nil))) (kx_cons (ex_v (i := 0) (j := 0) B rfl rfl rfl) kx_nil))) rfl) (ex_v (i := 4) (j := 4) B rfl rfl rfl)) (fun F H v e o c => R.rt F H v e (o.drop) c)
  | some first_here17 =>
    rw [hq36] at hm
    obtain ⟨t18, h18, hm⟩ := bnd hm
    refine sx_par2 (i := 5) (j := 6) _ hsc B rfl rfl (by decide) (by decide +kernel) (by decide +kernel) (by intro env he; cases env; cases he; first | rfl | kernel_rfl) (aq_x (φ := (dat (PyData.str t18))) (ex_fn (j := 0) B rfl g_repr (by decide +kernel) (call_repr B.gd B.room) (rc_repr h18) (ax_cons (ex_v (i := 1) (j := 1) B rfl rfl rfl) ax_nil)) (aq_n (n := ol (List.map (eT PyData.int) told_here)) (en_ty (j := 1) B rfl g_list (by decide +kernel) call_list_of (rc_lstL (ds := List.map (eT PyData.int) told_here) rdl_dat) (ax_cons (ex_v (i := 1) (j := 1) B rfl rfl rfl) ax_nil)) (fun q_passed19 => aq_nil))) (fun v0 v1 os_ hr_ => ?_) (by rintro φs os_ ⟨_, rfl, q_passed19, _, rfl, rfl, rfl⟩; exact ⟨_, _, rfl⟩)
    obtain ⟨_, e0, q_passed19, _, e1, e8, e9⟩ := hr_
    cases e0; cases e1; cases e8; cases e9
    obtain ⟨t20, h20, hm⟩ := bnd hm
    obtain ⟨t21, h21, hm⟩ := bnd hm
    refine sx_if (tx_not (tx_val (ex_call (a := (t20.1, due)) (b := t21) (gi := 2) (rest := (q_passed19, ol (List.map (eT PyData.int) t20.2)) :: os) B rfl c_l_number (by decide) h21 (ax_cons (ex_call (a := (letters, q_passed19, told_here, length)) (b := t20) (gi := 3) (rest := os) B rfl c_p_how_many_withoutO (by decide) h20 (ax_cons (ex_v (i := 0) (j := 0) B rfl rfl rfl) (ax_cons (ex_v (i := 6) (j := 6) B rfl rfl rfl) (ax_cons (ex_v (i := 2) (j := 2) B rfl rfl rfl) ax_nil)))) (ax_cons (ex_v (i := 3) (j := 3) B rfl rfl rfl) ax_nil))) (by intro _; rfl))) (fun hk => ?_) (fun hk => ?_)
    · have hm := ifT hm hk
      obtain rfl := som hm
      exact sx_ret ex_bool (fun F H v e o c => R.rt F H v e (o.drop) c)
    · have hm := ifF hm hk
      refine sx_fall ?_ rfl
      obtain ⟨t22, h22, hm⟩ := bnd hm
      refine sx_asg (i := 7) (vi := 7) (φ := (dat ((eO (eT PyData.int)) t22.1))) B T rfl rfl (ex_call (a := (letters, q_passed19, t20.2, length)) (b := t22) (gi := 4) (rest := os) B rfl c_p_first_withoutO (by decide) h22 (ax_cons (ex_v (i := 0) (j := 0) B rfl rfl rfl) (ax_cons (ex_v (i := 6) (j := 6) B rfl rfl rfl) (ax_cons (ex_v (i := 2) (j := 2) B rfl rfl rfl) ax_nil)))) ?_
      cases hq36 : t22.1 with
      | none =>
        rw [hq36] at hm
        refine sx_if (WX.tx (wx_or (WX.tx (wx_and (l := false) (tx_cmp op_isN (r2_isN (d := (PyData.tuple (List.map PyData.int first_here17))) (t := false) rfl) (nomark _) (ex_v (i := 4) (j := 4) B rfl rfl rfl) ex_none) (fun hk => Bool.noConfusion hk) (fun _ => rfl) rfl)) (fun _ => (wx_or1 (WX.tx (wx_and (tx_cmp op_notN (r2_notN (d := (PyData.tuple (List.map PyData.int first_here17))) (t := true) rfl) (nomark _) (ex_v (i := 4) (j := 4) B rfl rfl rfl) ex_none) (fun _ => (wx_and1 (tx_not (tx_val (ex_call (a := ((), first_here17)) (b := false) (gi := 5) (rest := (q_passed19, ol (List.map (eT PyData.int) t22.2)) :: os) B rfl c_l_isN (by decide) rfl (ax_cons (ex_v (i := 7) (j := 7) B rfl rfl rfl) (ax_cons (ex_v (i := 4) (j := 4) B rfl rfl rfl) ax_nil))) (by intro _; rfl))))) (fun _ => rfl) rfl)))) (fun _ => rfl) rfl)) (fun hk => ?_) (fun hk => ?_)
        · have hm := ifT hm hk
          obtain rfl := som hm
          exact sx_ret ex_bool (fun F H v e o c => R.rt F H v e (o.drop) c)
        · have hm := ifF hm hk
          refine sx_fall ?_ rfl
          obtain ⟨t23, h23, hm⟩ := bnd hm
          refine sx_if (tx_cmp op_ne r2_neS (nomark _) (ex_fn (j := 0) B rfl g_repr (by decide +kernel) (call_repr B.gd B.room) (rc_reprX (rdx_own (ds := List.map (eT PyData.int) t22.2) 0 rfl) h23) (ax_cons (ex_v (i := 6) (j := 6) B rfl rfl rfl) ax_nil)) (ex_v (i := 5) (j := 5) B rfl rfl rfl)) (fun hk => ?_) (fun hk => ?_)
          · have hm := ifT hm hk
            obtain rfl := som hm
            exact sx_ret ex_bool (fun F H v e o c => R.rt F H v e (o.drop) c)
          · have hm := ifF hm hk
            refine sx_fall ?_ rfl
            obtain ⟨t24, h24, hm⟩ := bnd hm
            refine sx_expr (ex_app (enc := (eT PyData.int)) (j := 0) (xs0 := t22.2) (xs := t22.2) (y := ([1])) h24 (ex_v (i := 6) (j := 6) B rfl rfl rfl) rfl (ex_tup (ds := [(PyData.int 1)]) (hl := len_ok (n := 1) rfl) (ax_cons ex_int ax_nil)) rfl) ?_
            obtain ⟨t25, h25, hm⟩ := bnd hm
            obtain ⟨t26, h26, hm⟩ := bnd hm
            refine sx_if (tx_not (tx_val (ex_call (a := (t25, due)) (b := t26) (gi := 2) (rest := (q_passed19, ol (List.map (eT PyData.int) t24)) :: os) B rfl c_l_number (by decide) h26 (ax_cons (ex_callk0 (a := (letters, told_here, length)) (b := t25) (gi := 3) (rest := (q_passed19, ol (List.map (eT PyData.int) t24)) :: os) B rfl c_p_how_many_without (by decide) kw_how_many_without_0_length_told_letters (by decide) h25 (kx_cons (ex_v (i := 2) (j := 2) B rfl rfl rfl) (kx_cons (EN.ex (en_ty (j := 1) B rfl g_list (by decide +kernel) call_list_of (rc_lstL (ds := List.map (eT PyData.int) told_here) rdl_dat) (ax_cons (ex_v (i := 1) (j := 1) B rfl rfl rfl) ax_nil))) (kx_cons (ex_v (i := 0) (j := 0) B rfl rfl rfl) kx_nil))) rfl) (ax_cons (ex_v (i := 3) (j := 3) B rfl rfl rfl) ax_nil))) (by intro _; rfl))) (fun hk => ?_) (fun hk => ?_)
            · have hm := ifT hm hk
              obtain rfl := som hm
              exact sx_ret ex_bool (fun F H v e o c => R.rt F H v e (o.drop) c)
            · have hm := ifF hm hk
              refine sx_fall ?_ rfl
              obtain ⟨t27, h27, hm⟩ := bnd hm
              obtain rfl := som hm
              exact sx_ret (ex_eqR (e := (eO (eT PyData.int))) (x := t27) (y := (some first_here17)) B (eqv_opt (eqv_tup eqv_int) non_tup) (sh_opt (sh_tup sh_int)) (by decide) rdx_dat rdx_dat (ex_callk0 (a := (letters, told_here, length)) (b := t27) (gi := 4) (rest := (q_passed19, ol (List.map (eT PyData.int) t24)) :: os) B rfl c_p_first_without (by decide) kw_first_without_0_length_told_letters (by decide) h27 (kx_cons (ex_v (i := 2) (j := 2) B rfl rfl rfl) (kx_cons (EN.ex (en_ty (j := 1) B rfl g_list (by decide +kernel) call_list_of (rc_lstL (ds := List.map (eT PyData.int) told_here) rdl_dat) (ax_cons (ex_v (i := 1) (j := 1) B rfl rfl rfl) ax_nil))) (kx_cons (ex_v (i := 0) (j := 0) B rfl rfl rfl) kx_nil))) rfl) (ex_v (i := 4) (j := 4) B rfl rfl rfl)) (fun F H v e o c => R.rt F H v e (o.drop) c)
      | some found28 =>
        rw [hq36] at hm
        obtain ⟨t31, h31, hm⟩ := bnd hm
        refine sx_if (WX.tx (wx_or (l := t31) (os2 := (q_passed19, ol (List.map (eT PyData.int) t22.2)) :: os) (WX.tx (wx_and (l := false) (tx_cmp op_isN (r2_isN (d := (PyData.tuple (List.map PyData.int first_here17))) (t := false) rfl) (nomark _) (ex_v (i := 4) (j := 4) B rfl rfl rfl) ex_none) (fun hk => Bool.noConfusion hk) (fun _ => rfl) rfl)) (fun hk => by (have hm := ifF h31 hk; obtain ⟨t30, h30, hm⟩ := bnd hm; obtain rfl := som hm; exact (wx_or1 (WX.tx (wx_and (l := t30) (os2 := (q_passed19, ol (List.map (eT PyData.int) t22.2)) :: os) (tx_cmp op_notN (r2_notN (d := (PyData.tuple (List.map PyData.int first_here17))) (t := true) rfl) (nomark _) (ex_v (i := 4) (j := 4) B rfl rfl rfl) ex_none) (fun hk => by (have hm := ifT h30 hk; obtain ⟨t29, h29, hm⟩ := bnd hm; obtain rfl := som hm; exact (wx_and1 (tx_not (tx_val (ex_call (a := (found28, first_here17)) (b := t29) (gi := 5) (rest := (q_passed19, ol (List.map (eT PyData.int) t22.2)) :: os) B rfl c_l_is (by decide) h29 (ax_cons (ex_v (i := 7) (j := 7) B rfl rfl rfl) (ax_cons (ex_v (i := 4) (j := 4) B rfl rfl rfl) ax_nil))) (by intro _; rfl)))))) (fun hk => by (have hm := ifF h30 hk; obtain rfl := som hm; rfl)) (and_fix (fun hk => by (have hm := ifF h30 hk; obtain rfl := som hm; rfl)))))))) (fun hk => by (have hm := ifT h31 hk; obtain rfl := som hm; rfl)) (or_fix (fun hk => by (have hm := ifT h31 hk; obtain rfl := som hm; rfl))))) (fun hk => ?_) (fun hk => ?_)
        · have hm := ifT hm hk
          obtain rfl := som hm
          exact sx_ret ex_bool (fun F H v e o c => R.rt F H v e (o.drop) c)
        · have hm := ifF hm hk
          refine sx_fall ?_ rfl
          obtain ⟨t32, h32, hm⟩ := bnd hm
          refine sx_if (tx_cmp op_ne r2_neS (nomark _) (ex_fn (j := 0) B rfl g_repr (by decide +kernel) (call_repr B.gd B.room) (rc_reprX (rdx_own (ds := List.map (eT PyData.int) t22.2) 0 rfl) h32) (ax_cons (ex_v (i := 6) (j := 6) B rfl rfl rfl) ax_nil)) (ex_v (i := 5) (j := 5) B rfl rfl rfl)) (fun hk => ?_) (fun hk => ?_)
          · have hm := ifT hm hk
            obtain rfl := som hm
            exact sx_ret ex_bool (fun F H v e o c => R.rt F H v e (o.drop) c)
          · have hm := ifF hm hk
            refine sx_fall ?_ rfl
            obtain ⟨t33, h33, hm⟩ := bnd hm
            refine sx_expr (ex_app (enc := (eT PyData.int)) (j := 0) (xs0 := t22.2) (xs := t22.2) (y := ([1])) h33 (ex_v (i := 6) (j := 6) B rfl rfl rfl) rfl (ex_tup (ds := [(PyData.int 1)]) (hl := len_ok (n := 1) rfl) (ax_cons ex_int ax_nil)) rfl) ?_
            obtain ⟨t34, h34, hm⟩ := bnd hm
            obtain ⟨t35, h35, hm⟩ := bnd hm
            refine sx_if (tx_not (tx_val (ex_call (a := (t34, due)) (b := t35) (gi := 2) (rest := (q_passed19, ol (List.map (eT PyData.int) t33)) :: os) B rfl c_l_number (by decide) h35 (ax_cons (ex_callk0 (a := (letters, told_here, length)) (b := t34) (gi := 3) (rest := (q_passed19, ol (List.map (eT PyData.int) t33)) :: os) B rfl c_p_how_many_without (by decide) kw_how_many_without_0_length_told_letters (by decide) h34 (kx_cons (ex_v (i := 2) (j := 2) B rfl rfl rfl) (kx_cons (EN.ex (en_ty (j := 1) B rfl g_list (by decide +kernel) call_list_of (rc_lstL (ds := List.map (eT PyData.int) told_here) rdl_dat) (ax_cons (ex_v (i := 1) (j := 1) B rfl rfl rfl) ax_nil))) (kx_cons (ex_v (i := 0) (j := 0) B rfl rfl rfl) kx_nil))) rfl) (ax_cons (ex_v (i := 3) (j := 3) B rfl rfl rfl) ax_nil))) (by intro _; rfl))) (fun hk => ?_) (fun hk => ?_)
            · have hm := ifT hm hk
              obtain rfl := som hm
              exact sx_ret ex_bool (fun F H v e o c => R.rt F H v e (o.drop) c)
            · have hm := ifF hm hk
              refine sx_fall ?_ rfl
              obtain ⟨t36, h36, hm⟩ := bnd hm
              obtain rfl := som hm
              exact sx_ret (ex_eqR (e := (eO (eT PyData.int))) (x := t36) (y := (some first_here17)) B (eqv_opt (eqv_tup eqv_int) non_tup) (sh_opt (sh_tup sh_int)) (by decide) rdx_dat rdx_dat (ex_callk0 (a := (letters, told_here, length)) (b := t36) (gi := 4) (rest := (q_passed19, ol (List.map (eT PyData.int) t33)) :: os) B rfl c_p_first_without (by decide) kw_first_without_0_length_told_letters (by decide) h36 (kx_cons (ex_v (i := 2) (j := 2) B rfl rfl rfl) (kx_cons (EN.ex (en_ty (j := 1) B rfl g_list (by decide +kernel) call_list_of (rc_lstL (ds := List.map (eT PyData.int) told_here) rdl_dat) (ax_cons (ex_v (i := 1) (j := 1) B rfl rfl rfl) ax_nil))) (kx_cons (ex_v (i := 0) (j := 0) B rfl rfl rfl) kx_nil))) rfl) (ex_v (i := 4) (j := 4) B rfl rfl rfl)) (fun F H v e o c => R.rt F H v e (o.drop) c)
theorem cal_l_without {P : Program} {w : World} {K : PySem.W.Frag} {mg : Str → Option Value} {base : Heap} {f : Addr} {fd : FuncData} (Fn : Fun K "_law_without" "_law_without" s_l_without f fd) (hmg : mg "_law_without" = some (.ref f)) (hb : Binds K fd ["_law_letters", "_law_told_here", "_law_length", "_law_due", "_law_first_here"] []) (g_repr : mg "repr" = none) (g_list : mg "list" = none) (c_l_number : Cal P w K mg base 1 "_law_number" s_l_number ["_law_found", "_law_due"] (sp_l_number K)) (c_p_how_many_withoutO : Cal P w K mg base 5 "how_many_without" s_p_how_many_withoutO ["letters", "told", "length"] (sp_p_how_many_withoutO K)) (c_p_first_withoutO : Cal P w K mg base 5 "first_without" s_p_first_withoutO ["letters", "told", "length"] (sp_p_first_withoutO K)) (c_p_how_many_without : Cal P w K mg base 5 "how_many_without" s_p_how_many_without ["letters", "told", "length"] (sp_p_how_many_without K)) (c_p_first_without : Cal P w K mg base 5 "first_without" s_p_first_without ["letters", "told", "length"] (sp_p_first_without K)) (c_l_isN : Cal P w K mg base 1 "_law_is" s_l_isN ["_law_found", "_law_due"] (sp_l_isN K)) (c_l_is : Cal P w K mg base 1 "_law_is" s_l_is ["_law_found", "_law_due"] (sp_l_is K)) : Cal P w K mg base 6 "_law_without" s_l_without ["_law_letters", "_law_told_here", "_law_length", "_law_due", "_law_first_here"] (sp_l_without K) := by
  obtain ⟨sts_, hst_⟩ : ∃ z_, defBody s_l_without = z_ := ⟨_, rfl⟩
  exact cal_ZQ (V := V_l_without) (Gs := G_l_without) (nl := 3) hst_ Fn sc_l_without (by decide +kernel) (by decide +kernel) hmg hb (fun _ => rfl) rfl fun _ _ _ _ _ _ _ a b F0 os D B T hm R => body_l_without rfl hst_ B T g_repr g_list c_l_number c_p_how_many_withoutO c_p_first_withoutO c_p_how_many_without c_p_first_without c_l_isN c_l_is a.1 a.2.1 a.2.2.1 a.2.2.2.1 a.2.2.2.2 b F0 os D hm R
abbrev s_l_short : Stmt := top 42
def N_l_short : List Str := ["_law_letters", "_law_told_here", "_law_length", "_law_walks"]
def V_l_short : List Str := ["_law_letters", "_law_told_here", "_law_length", "_law_walks"]
def G_l_short : List Str := ["_law_all", "_law_without", "len", "int"]
theorem sc_l_short : FnScope N_l_short ["_law_letters", "_law_told_here", "_law_length"] (defScope s_l_short) := ⟨rfl, rfl, rfl, by decide +kernel, rfl, by decide +kernel, by decide +kernel⟩
abbrev sp_l_short (K : PySem.W.Frag) : Sp := spZ (α := (Int × (List (List Int)) × Int)) (β := Bool) (fun a => [(dat (PyData.int a.1)), (dat (PyData.list (List.map (eT PyData.int) a.2.1))), (dat (PyData.int a.2.2))]) (fun a => []) (fun a => m_l_short a.1 a.2.1 a.2.2) (fun a b => (dat (PyData.bool b))) (fun a b => [])
set_option maxHeartbeats 4000000 in
theorem body_l_short {X : Cx} (hsc : X.env.scope = defScope s_l_short) {sts_ : List Stmt} (hst_ : defBody s_l_short = sts_) (B : Bd X N_l_short V_l_short G_l_short 6) (T : Bt X V_l_short) (c_l_all : Cal X.prog X.w X.K X.mg X.base 2 "_law_all" s_l_all ["_law_letters", "_law_told_here", "_law_length"] (sp_l_all X.K)) (c_l_without : Cal X.prog X.w X.K X.mg X.base 6 "_law_without" s_l_without ["_law_letters", "_law_told_here", "_law_length", "_law_due", "_law_first_here"] (sp_l_without X.K)) (g_len : X.mg "len" = none) (g_int : X.mg "int" = none) (letters : Int) (told_here : (List (List Int))) (length : Int) (b : Bool) (F0 : Hp) (os : Os) (D : Ends) (hm : m_l_short letters told_here length = some b) (R : RetZ F0 (os) (dat (PyData.bool b)) D) :
    SX X [sl (dat (PyData.int letters)), sl (dat (PyData.list (List.map (eT PyData.int) told_here))), sl (dat (PyData.int length)), un] (os) F0 sts_ D := by
  subst hst_
  unfold m_l_short at hm
  obtain ⟨t1, h1, hm⟩ := bnd hm
  refine sx_asg (i := 3) (vi := 3) (φ := (dat (PyData.list (List.map (eT PyData.int) t1)))) B T rfl rfl (ex_call (a := (letters, told_here, length)) (b := t1) (gi := 0) (rest := os) B rfl c_l_all (by decide) h1 (ax_cons (ex_v (i := 0) (j := 0) B rfl rfl rfl) (ax_cons (ex_v (i := 1) (j := 1) B rfl rfl rfl) (ax_cons (ex_v (i := 2) (j := 2) B rfl rfl rfl) ax_nil)))) ?_
  obtain ⟨t2, h2, hm⟩ := bnd hm
  obtain ⟨t3, h3, hm⟩ := bnd hm
  obtain ⟨t4, h4, hm⟩ := bnd hm
  obtain ⟨t5, h5, hm⟩ := bnd hm
  obtain rfl := som hm
  exact sx_ret (ex_call (a := (letters, told_here, length, (t1.length : Int), t4)) (b := t5) (gi := 1) (rest := os) B rfl c_l_without (by decide) h5 (ax_cons (ex_v (i := 0) (j := 0) B rfl rfl rfl) (ax_cons (ex_v (i := 1) (j := 1) B rfl rfl rfl) (ax_cons (ex_v (i := 2) (j := 2) B rfl rfl rfl) (ax_cons (EX.to (ex_fn (j := 2) B rfl g_len (by decide +kernel) call_len_seq (rc_lenL (ds := List.map (eT PyData.int) t1) rdl_dat) (ax_cons (ex_v (i := 3) (j := 3) B rfl rfl rfl) ax_nil)) (by rw [List.length_map])) (ax_cons (ex_idxL (enc := (eO (eT PyData.int))) h4 rdl_dat (EN.ex (en_lst (ds := [((eO (eT PyData.int)) none), ((eO (eT PyData.int)) (some t3))]) (hl := len_ok (n := 2) rfl) (ax_cons ex_none (ax_cons (ex_idxL (enc := (eT PyData.int)) h3 rdl_dat (EN.ex (en_cat (enc := (eT PyData.int)) h2 (ex_v (i := 3) (j := 3) B rfl rfl rfl) (EN.ex (en_lst (ds := [(PyData.tuple (List.map PyData.int ([] : (List Int))))]) (hl := len_ok (n := 1) rfl) (ax_cons (ex_tup (ds := []) ax_nil) ax_nil))))) ex_int) ax_nil)))) (ex_ty (j := 3) B rfl g_int (by decide +kernel) call_int1 rc_intB (ax_cons (ex_neR (e := (eL (eT PyData.int))) (x := t1) (y := ([] : (List (List Int)))) B (eqv_list (eqv_tup eqv_int)) (sh_list (sh_tup sh_int)) (by decide) rdx_dat rdx_dat (ex_v (i := 3) (j := 3) B rfl rfl rfl) (EN.ex (en_lst (ds := []) ax_nil))) ax_nil))) ax_nil)))))) (fun F H v e o c => R.rt F H v e o c)
theorem cal_l_short {P : Program} {w : World} {K : PySem.W.Frag} {mg : Str → Option Value} {base : Heap} {f : Addr} {fd : FuncData} (Fn : Fun K "_law_short" "_law_short" s_l_short f fd) (hmg : mg "_law_short" = some (.ref f)) (hb : Binds K fd ["_law_letters", "_law_told_here", "_law_length"] []) (c_l_all : Cal P w K mg base 2 "_law_all" s_l_all ["_law_letters", "_law_told_here", "_law_length"] (sp_l_all K)) (c_l_without : Cal P w K mg base 6 "_law_without" s_l_without ["_law_letters", "_law_told_here", "_law_length", "_law_due", "_law_first_here"] (sp_l_without K)) (g_len : mg "len" = none) (g_int : mg "int" = none) : Cal P w K mg base 7 "_law_short" s_l_short ["_law_letters", "_law_told_here", "_law_length"] (sp_l_short K) := by
  obtain ⟨sts_, hst_⟩ : ∃ z_, defBody s_l_short = z_ := ⟨_, rfl⟩
  exact cal_ZQ (V := V_l_short) (Gs := G_l_short) (nl := 1) hst_ Fn sc_l_short (by decide +kernel) (by decide +kernel) hmg hb (fun _ => rfl) rfl fun _ _ _ _ _ _ _ a b F0 os D B T hm R => body_l_short rfl hst_ B T c_l_all c_l_without g_len g_int a.1 a.2.1 a.2.2 b F0 os D hm R
abbrev s_l_great : Stmt := top 43
def N_l_great : List Str := ["_law_well_here", "_law_letters", "_law_told_here", "_law_ways_here", "_law_length", "_law_counts_here"]
def V_l_great : List Str := ["_law_well_here", "_law_letters", "_law_told_here", "_law_ways_here", "_law_length", "_law_counts_here"]
def G_l_great : List Str := ["_law_ways", "_law_take", "int", "_law_counts", "_law_without", "_law_first"]
theorem sc_l_great : FnScope N_l_great ["_law_well_here", "_law_letters", "_law_told_here"] (defScope s_l_great) := ⟨rfl, rfl, rfl, by decide +kernel, rfl, by decide +kernel, by decide +kernel⟩
abbrev sp_l_great (K : PySem.W.Frag) : Sp := spZ (α := (Addr × (List Int) × Int × (List (List Int)))) (β := (Bool × (List Int))) (fun a => [own a.1, (dat (PyData.int a.2.2.1)), (dat (PyData.list (List.map (eT PyData.int) a.2.2.2)))]) (fun a => (a.1, ol (List.map PyData.int a.2.1)) :: []) (fun a => m_l_great a.2.1 a.2.2.1 a.2.2.2) (fun a b => (dat (PyData.bool b.1))) (fun a b => (a.1, ol (List.map PyData.int b.2)) :: [])
set_option maxHeartbeats 4000000 in
theorem body_l_great {X : Cx} (hsc : X.env.scope = defScope s_l_great) {sts_ : List Stmt} (hst_ : defBody s_l_great = sts_) (B : Bd X N_l_great V_l_great G_l_great 6) (T : Bt X V_l_great) (c_l_ways : Cal X.prog X.w X.K X.mg X.base 2 "_law_ways" s_l_ways ["_law_letters", "_law_told_here"] (sp_l_ways X.K)) (c_l_take : Cal X.prog X.w X.K X.mg X.base 1 "_law_take" s_l_take ["_law_well_here", "_law_many"] (sp_l_take X.K)) (g_int : X.mg "int" = none) (c_l_counts : Cal X.prog X.w X.K X.mg X.base 1 "_law_counts" s_l_counts ["_law_ways_here", "_law_length"] (sp_l_counts X.K)) (c_l_without : Cal X.prog X.w X.K X.mg X.base 6 "_law_without" s_l_without ["_law_letters", "_law_told_here", "_law_length", "_law_due", "_law_first_here"] (sp_l_without X.K)) (c_l_first : Cal X.prog X.w X.K X.mg X.base 1 "_law_first" s_l_first ["_law_ways_here", "_law_counts_here"] (sp_l_first X.K)) (q_well_here : Addr) (w_well_here : (List Int)) (letters : Int) (told_here : (List (List Int))) (b : (Bool × (List Int))) (F0 : Hp) (os : Os) (D : Ends) (hm : m_l_great w_well_here letters told_here = some b) (R : RetZ F0 ((q_well_here, ol (List.map PyData.int b.2)) :: os) (dat (PyData.bool b.1)) D) :
    SX X [sl (own q_well_here), sl (dat (PyData.int letters)), sl (dat (PyData.list (List.map (eT PyData.int) told_here))), un, un, un] ((q_well_here, ol (List.map PyData.int w_well_here)) :: os) F0 sts_ D := by
  subst hst_
  unfold m_l_great at hm
  obtain ⟨t1, h1, hm⟩ := bnd hm
  obtain ⟨t2, h2, hm⟩ := bnd hm
  obtain ⟨t3, h3, hm⟩ := bnd hm
  obtain ⟨t4, h4, hm⟩ := bnd hm
  refine sx_par2 (i := 3) (j := 4) _ hsc B rfl rfl (by decide) (by decide +kernel) (by decide +kernel) (by intro env he; cases env; cases he; first | rfl | kernel_rfl) (aq_x (φ := (dat (Kd.pd kTI (eM (eL (eP PyData.int (eT PyData.int))) t1)))) (ex_call (a := (letters, told_here)) (b := t1) (gi := 0) (rest := (q_well_here, ol (List.map PyData.int w_well_here)) :: os) B rfl c_l_ways (by decide) h1 (ax_cons (ex_v (i := 1) (j := 1) B rfl rfl rfl) (ax_cons (ex_v (i := 2) (j := 2) B rfl rfl rfl) ax_nil))) (aq_x (φ := (dat (PyData.int t4))) (ex_idxL (enc := PyData.int) h4 rdl_dat (EN.ex (en_lst (ds := [(PyData.int t2.1), (PyData.int 100)]) (hl := len_ok (n := 2) rfl) (ax_cons (ex_call (a := (q_well_here, w_well_here, 101)) (b := t2) (gi := 1) (rest := os) B rfl c_l_take (by decide) h2 (ax_cons (ex_v (i := 0) (j := 0) B rfl rfl rfl) (ax_cons ex_int ax_nil))) (ax_cons ex_int ax_nil)))) (ex_ty (j := 2) B rfl g_int (by decide +kernel) call_int1 rc_intB (ax_cons (ex_cmp op_eq r2_eqI (nomark _) (ex_call (a := (q_well_here, t2.2, 4)) (b := t3) (gi := 1) (rest := os) B rfl c_l_take (by decide) h3 (ax_cons (ex_v (i := 0) (j := 0) B rfl rfl rfl) (ax_cons ex_int ax_nil))) ex_int) ax_nil))) aq_nil)) (fun v0 v1 os_ hr_ => ?_) (by rintro φs os_ ⟨_, rfl, _, rfl, rfl, rfl⟩; exact ⟨_, _, rfl⟩)
  obtain ⟨_, e0, _, e1, e8, e9⟩ := hr_
  cases e0; cases e1; cases e8; cases e9
  obtain ⟨t5, h5, hm⟩ := bnd hm
  refine sx_asg (i := 5) (vi := 5) (φ := (dat (PyData.list (List.map (eD kTI PyData.int) t5)))) B T rfl rfl (ex_call (a := (t1, t4)) (b := t5) (gi := 3) (rest := (q_well_here, ol (List.map PyData.int t3.2)) :: os) B rfl c_l_counts (by decide) h5 (ax_cons (ex_v (i := 3) (j := 3) B rfl rfl rfl) (ax_cons (ex_v (i := 4) (j := 4) B rfl rfl rfl) ax_nil))) ?_
  obtain ⟨t6, h6, hm⟩ := bnd hm
  obtain ⟨t7, h7, hm⟩ := bnd hm
  obtain ⟨t8, h8, hm⟩ := bnd hm
  obtain ⟨t9, h9, hm⟩ := bnd hm
  obtain rfl := som hm
  exact sx_ret (ex_call (a := (letters, told_here, t4, t7, t8)) (b := t9) (gi := 4) (rest := (q_well_here, ol (List.map PyData.int t3.2)) :: os) B rfl c_l_without (by decide) h9 (ax_cons (ex_v (i := 1) (j := 1) B rfl rfl rfl) (ax_cons (ex_v (i := 2) (j := 2) B rfl rfl rfl) (ax_cons (ex_v (i := 4) (j := 4) B rfl rfl rfl) (ax_cons (ex_dget (kd := kTI) (enc := PyData.int) (w := t6) inj_kTI h7 B rdd_dat (ex_idxL (enc := (eD kTI PyData.int)) h6 rdl_dat (ex_v (i := 5) (j := 5) B rfl rfl rfl) (ex_neg ex_int)) (EX.to (ex_tup (ds := []) ax_nil) (by first | exact ek_tI _ | rfl))) (ax_cons (ex_call (a := (t1, t5)) (b := t8) (gi := 5) (rest := (q_well_here, ol (List.map PyData.int t3.2)) :: os) B rfl c_l_first (by decide) h8 (ax_cons (ex_v (i := 3) (j := 3) B rfl rfl rfl) (ax_cons (ex_v (i := 5) (j := 5) B rfl rfl rfl) ax_nil))) ax_nil)))))) (fun F H v e o c => R.rt F H v e o c)
theorem cal_l_great {P : Program} {w : World} {K : PySem.W.Frag} {mg : Str → Option Value} {base : Heap} {f : Addr} {fd : FuncData} (Fn : Fun K "_law_great" "_law_great" s_l_great f fd) (hmg : mg "_law_great" = some (.ref f)) (hb : Binds K fd ["_law_well_here", "_law_letters", "_law_told_here"] []) (c_l_ways : Cal P w K mg base 2 "_law_ways" s_l_ways ["_law_letters", "_law_told_here"] (sp_l_ways K)) (c_l_take : Cal P w K mg base 1 "_law_take" s_l_take ["_law_well_here", "_law_many"] (sp_l_take K)) (g_int : mg "int" = none) (c_l_counts : Cal P w K mg base 1 "_law_counts" s_l_counts ["_law_ways_here", "_law_length"] (sp_l_counts K)) (c_l_without : Cal P w K mg base 6 "_law_without" s_l_without ["_law_letters", "_law_told_here", "_law_length", "_law_due", "_law_first_here"] (sp_l_without K)) (c_l_first : Cal P w K mg base 1 "_law_first" s_l_first ["_law_ways_here", "_law_counts_here"] (sp_l_first K)) : Cal P w K mg base 7 "_law_great" s_l_great ["_law_well_here", "_law_letters", "_law_told_here"] (sp_l_great K) := by
  obtain ⟨sts_, hst_⟩ : ∃ z_, defBody s_l_great = z_ := ⟨_, rfl⟩
  exact cal_ZQ (V := V_l_great) (Gs := G_l_great) (nl := 3) hst_ Fn sc_l_great (by decide +kernel) (by decide +kernel) hmg hb (fun _ => rfl) rfl fun _ _ _ _ _ _ _ a b F0 os D B T hm R => body_l_great rfl hst_ B T c_l_ways c_l_take g_int c_l_counts c_l_without c_l_first a.1 a.2.1 a.2.2.1 a.2.2.2 b F0 os D hm R
abbrev s_l_ends : Stmt := top 44
def N_l_ends : List Str := ["_law_letters", "_law_first_here", "_law_last", "_law_length", "_law_same", "_law_opposite", "_law_other", "_law_all_ones", "_law_turn"]
def V_l_ends : List Str := ["_law_letters", "_law_first_here", "_law_last", "_law_length", "_law_same", "_law_opposite", "_law_other", "_law_all_ones", "_law_turn"]
def G_l_ends : List Str := ["range"]
theorem sc_l_ends : FnScope N_l_ends ["_law_letters", "_law_first_here", "_law_last", "_law_length"] (defScope s_l_ends) := ⟨rfl, rfl, rfl, by decide +kernel, rfl, by decide +kernel, by decide +kernel⟩
abbrev sp_l_ends (K : PySem.W.Frag) : Sp := spZ (α := (Int × Int × Int × Int)) (β := Int) (fun a => [(dat (PyData.int a.1)), (dat (PyData.int a.2.1)), (dat (PyData.int a.2.2.1)), (dat (PyData.int a.2.2.2))]) (fun a => []) (fun a => m_l_ends a.1 a.2.1 a.2.2.1 a.2.2.2) (fun a b => (dat (PyData.int b))) (fun a b => [])
set_option maxHeartbeats 4000000 in
theorem body_l_ends {X : Cx} (hsc : X.env.scope = defScope s_l_ends) {sts_ : List Stmt} (hst_ : defBody s_l_ends = sts_) (B : Bd X N_l_ends V_l_ends G_l_ends 0) (T : Bt X V_l_ends) (g_range : X.mg "range" = none) (letters : Int) (first_here : Int) (last : Int) (length : Int) (b : Int) (F0 : Hp) (os : Os) (D : Ends) (hm : m_l_ends letters first_here last length = some b) (R : RetZ F0 (os) (dat (PyData.int b)) D) :
    SX X [sl (dat (PyData.int letters)), sl (dat (PyData.int first_here)), sl (dat (PyData.int last)), sl (dat (PyData.int length)), un, un, un, un, un] (os) F0 sts_ D := by
  subst hst_
  unfold m_l_ends at hm
  refine sx_mk4 (i1 := 4) (w1 := 4) (i2 := 5) (w2 := 5) (i3 := 6) (w3 := 6) (i4 := 7) (w4 := 7) _ hsc B T rfl rfl rfl rfl rfl rfl rfl rfl (by intro env he; cases env; cases he; first | rfl | kernel_rfl) (aq_x (φ := (dat (PyData.int 1))) ex_int (aq_x (φ := (dat (PyData.int 0))) ex_int (aq_x (φ := (dat (PyData.int 0))) ex_int (aq_x (φ := (dat (PyData.int 1))) ex_int aq_nil)))) (fun v0 v1 v2 v3 os_ hr_ => ?_) (by rintro φs os_ ⟨_, rfl, _, rfl, _, rfl, _, rfl, rfl, rfl⟩; exact ⟨_, _, _, _, rfl⟩)
  obtain ⟨_, e0, _, e1, _, e2, _, e3, e8, e9⟩ := hr_
  cases e0; cases e1; cases e2; cases e3; cases e8; cases e9
  obtain ⟨t1, h1, hm⟩ := bnd hm
  obtain ⟨f4, h8, hm⟩ := bnd hm
  refine sx_for (c := anyOs) _ (fun (s2 : (Int × Int × Int × Int)) (_ : Unit) => [sl (dat (PyData.int letters)), sl (dat (PyData.int first_here)), sl (dat (PyData.int last)), sl (dat (PyData.int length)), sl (dat (PyData.int s2.1)), sl (dat (PyData.int s2.2.1)), sl (dat (PyData.int s2.2.2.1)), sl (dat (PyData.int s2.2.2.2)), un]) (fun (s2 : (Int × Int × Int × Int)) (_ : Unit) => os) B T (fun turn3 => gx_name (i := 8) (vi := 8) (φ := (dat (PyData.int turn3))) B T rfl rfl) (1, 0, 0, 1) () f4 h8 (ix_rng1 (gi := 0) B rfl g_range h1 (ex_sub (ex_v (i := 3) (j := 3) B rfl rfl rfl) ex_int)) ⟨.inl rfl, .inl rfl, .inl rfl, .inl rfl, .inl rfl, .inl rfl, .inl rfl, .inl rfl, .inl rfl, trivial⟩ (fun _ _ => trivial) (fun F6 e5 s2 _ turn3 z9 hx hm => ?_) (fun _ => ?_)
  · clear h8
    refine sx_par3 (i := 4) (j := 5) (l := 6) _ hsc B rfl rfl rfl (by decide) (by decide) (by decide) (by decide +kernel) (by decide +kernel) (by decide +kernel) (by intro env he; cases env; cases he; first | rfl | kernel_rfl) (aq_x (φ := (dat (PyData.int (s2.2.2.2 - s2.2.1)))) (ex_sub (ex_v (i := 7) (j := 7) B rfl rfl rfl) (ex_v (i := 5) (j := 5) B rfl rfl rfl)) (aq_x (φ := (dat (PyData.int (s2.2.2.2 - s2.1)))) (ex_sub (ex_v (i := 7) (j := 7) B rfl rfl rfl) (ex_v (i := 4) (j := 4) B rfl rfl rfl)) (aq_x (φ := (dat (PyData.int (s2.2.2.2 - s2.2.2.1)))) (ex_sub (ex_v (i := 7) (j := 7) B rfl rfl rfl) (ex_v (i := 6) (j := 6) B rfl rfl rfl)) aq_nil))) (fun v0 v1 v2 os_ hr_ => ?_) (by rintro φs os_ ⟨_, rfl, _, rfl, _, rfl, rfl, rfl⟩; exact ⟨_, _, _, rfl⟩)
    obtain ⟨_, e0, _, e1, _, e2, e8, e9⟩ := hr_
    cases e0; cases e1; cases e2; cases e8; cases e9
    obtain ⟨t7, h7, hm⟩ := bnd hm
    refine sx_asg (i := 7) (vi := 7) (φ := (dat (PyData.int t7))) B T rfl rfl (ex_mul h7 (ex_v (i := 7) (j := 7) B rfl rfl rfl) (ex_sub (ex_mulL (by decide) ex_int (ex_v (i := 0) (j := 0) B rfl rfl rfl)) ex_int)) ?_
    obtain rfl := som hm
    exact sx_nil fun σ H a => ⟨(), (a.weak ⟨.inl rfl, .inl rfl, .inl rfl, .inl rfl, .inl rfl, .inl rfl, .inl rfl, .inl rfl, .inr rfl, trivial⟩)⟩
  · skip
    refine sx_if (tx_cmp op_eq r2_eqI (nomark _) (ex_v (i := 2) (j := 2) B rfl rfl rfl) (ex_v (i := 1) (j := 1) B rfl rfl rfl)) (fun hk => ?_) (fun hk => ?_)
    · have hm := ifT hm hk
      obtain rfl := som hm
      exact sx_ret (ex_v (i := 4) (j := 4) B rfl rfl rfl) (fun F H v e o c => R.rt F H v e o c)
    · have hm := ifF hm hk
      refine sx_fall ?_ rfl
      obtain rfl := som hm
      exact sx_ret (ex_if (tx_cmp op_eq r2_eqI (nomark _) (ex_v (i := 2) (j := 2) B rfl rfl rfl) (ex_neg (ex_v (i := 1) (j := 1) B rfl rfl rfl))) (fun hk => EX.to (ex_v (i := 5) (j := 5) B rfl rfl rfl) (by rw [if_pos hk] <;> rfl)) (fun hk => EX.to (ex_v (i := 6) (j := 6) B rfl rfl rfl) (by first | (rw [if_neg (by rw [hk]; exact Bool.false_ne_true)] <;> rfl) | (rw [if_neg (ne_true_of_eq_false hk)] <;> rfl)))) (fun F H v e o c => R.rt F H v e o c)
theorem cal_l_ends {P : Program} {w : World} {K : PySem.W.Frag} {mg : Str → Option Value} {base : Heap} {f : Addr} {fd : FuncData} (Fn : Fun K "_law_ends" "_law_ends" s_l_ends f fd) (hmg : mg "_law_ends" = some (.ref f)) (hb : Binds K fd ["_law_letters", "_law_first_here", "_law_last", "_law_length"] []) (g_range : mg "range" = none) : Cal P w K mg base 1 "_law_ends" s_l_ends ["_law_letters", "_law_first_here", "_law_last", "_law_length"] (sp_l_ends K) := by
  obtain ⟨sts_, hst_⟩ : ∃ z_, defBody s_l_ends = z_ := ⟨_, rfl⟩
  exact cal_ZQ (V := V_l_ends) (Gs := G_l_ends) (nl := 5) hst_ Fn sc_l_ends (by decide +kernel) (by decide +kernel) hmg hb (fun _ => rfl) rfl fun _ _ _ _ _ _ _ a b F0 os D B T hm R => body_l_ends rfl hst_ B T g_range a.1 a.2.1 a.2.2.1 a.2.2.2 b F0 os D hm R
abbrev s_l_between : Stmt := top 45
def N_l_between : List Str := ["_law_well_here", "_law_letters", "_law_steps_here", "_law_length", "_law_first_here", "_law_last", "_law_end_here", "_law_due", "_law_short_here", "_law_walk"]
def V_l_between : List Str := ["_law_well_here", "_law_letters", "_law_steps_here", "_law_length", "_law_first_here", "_law_last", "_law_end_here", "_law_due", "_law_short_here"]
def G_l_between : List Str := ["_law_steps", "_law_take", "len", "_law_ends", "_law_number", "between", "_law_all"]
theorem sc_l_between : FnScope N_l_between ["_law_well_here", "_law_letters"] (defScope s_l_between) := ⟨rfl, rfl, rfl, by decide +kernel, rfl, by decide +kernel, by decide +kernel⟩
theorem kw_between_0_length_last_first_letters : KwOk "between" s_p_between ["letters", "first", "last", "length"] ["length", "last", "first", "letters"] 0 [3, 2, 1, 0] := fun _ _ _ _ _ _ us ws h1 h2 => match us, ws, h1, h2 with | [], [_, _, _, _], _, _ => rfl
abbrev sp_l_between (K : PySem.W.Frag) : Sp := spZ (α := (Addr × (List Int) × Int)) (β := (Bool × (List Int))) (fun a => [own a.1, (dat (PyData.int a.2.2))]) (fun a => (a.1, ol (List.map PyData.int a.2.1)) :: []) (fun a => m_l_between a.2.1 a.2.2) (fun a b => (dat (PyData.bool b.1))) (fun a b => (a.1, ol (List.map PyData.int b.2)) :: [])
set_option maxHeartbeats 4000000 in
theorem body_l_between {X : Cx} (hsc : X.env.scope = defScope s_l_between) {sts_ : List Stmt} (hst_ : defBody s_l_between = sts_) (B : Bd X N_l_between V_l_between G_l_between 4) (T : Bt X V_l_between) (c_l_steps : Cal X.prog X.w X.K X.mg X.base 1 "_law_steps" s_l_steps ["_law_letters"] (sp_l_steps X.K)) (c_l_take : Cal X.prog X.w X.K X.mg X.base 1 "_law_take" s_l_take ["_law_well_here", "_law_many"] (sp_l_take X.K)) (g_len : X.mg "len" = none) (c_l_ends : Cal X.prog X.w X.K X.mg X.base 1 "_law_ends" s_l_ends ["_law_letters", "_law_first_here", "_law_last", "_law_length"] (sp_l_ends X.K)) (c_l_number : Cal X.prog X.w X.K X.mg X.base 1 "_law_number" s_l_number ["_law_found", "_law_due"] (sp_l_number X.K)) (c_p_between : Cal X.prog X.w X.K X.mg X.base 4 "between" s_p_between ["letters", "first", "last", "length"] (sp_p_between X.K)) (c_l_all : Cal X.prog X.w X.K X.mg X.base 2 "_law_all" s_l_all ["_law_letters", "_law_told_here", "_law_length"] (sp_l_all X.K)) (q_well_here : Addr) (w_well_here : (List Int)) (letters : Int) (b : (Bool × (List Int))) (F0 : Hp) (os : Os) (D : Ends) (hm : m_l_between w_well_here letters = some b) (R : RetZ F0 ((q_well_here, ol (List.map PyData.int b.2)) :: os) (dat (PyData.bool b.1)) D) :
    SX X [sl (own q_well_here), sl (dat (PyData.int letters)), un, un, un, un, un, un, un, un] ((q_well_here, ol (List.map PyData.int w_well_here)) :: os) F0 sts_ D := by
  subst hst_
  unfold m_l_between at hm
  obtain ⟨t1, h1, hm⟩ := bnd hm
  obtain ⟨t2, h2, hm⟩ := bnd hm
  obtain ⟨t3, h3, hm⟩ := bnd hm
  obtain ⟨t4, h4, hm⟩ := bnd hm
  obtain ⟨t5, h5, hm⟩ := bnd hm
  refine sx_par2 (i := 2) (j := 3) _ hsc B rfl rfl (by decide) (by decide +kernel) (by decide +kernel) (by intro env he; cases env; cases he; first | rfl | kernel_rfl) (aq_x (φ := (dat (PyData.list (List.map PyData.int t1)))) (ex_call (a := letters) (b := t1) (gi := 0) (rest := (q_well_here, ol (List.map PyData.int w_well_here)) :: os) B rfl c_l_steps (by decide) h1 (ax_cons (ex_v (i := 1) (j := 1) B rfl rfl rfl) ax_nil)) (aq_x (φ := (dat (PyData.int t5))) (ex_idxL (enc := PyData.int) h5 rdl_dat (EN.ex (en_lst (ds := [(PyData.int (1 + t2.1)), (PyData.int (1 + t3.1))]) (hl := len_ok (n := 2) rfl) (ax_cons (ex_add ex_int (ex_call (a := (q_well_here, w_well_here, 4)) (b := t2) (gi := 1) (rest := os) B rfl c_l_take (by decide) h2 (ax_cons (ex_v (i := 0) (j := 0) B rfl rfl rfl) (ax_cons ex_int ax_nil)))) (ax_cons (ex_add ex_int (ex_call (a := (q_well_here, t2.2, 100)) (b := t3) (gi := 1) (rest := os) B rfl c_l_take (by decide) h3 (ax_cons (ex_v (i := 0) (j := 0) B rfl rfl rfl) (ax_cons ex_int ax_nil)))) ax_nil)))) (ex_call (a := (q_well_here, t3.2, 2)) (b := t4) (gi := 1) (rest := os) B rfl c_l_take (by decide) h4 (ax_cons (ex_v (i := 0) (j := 0) B rfl rfl rfl) (ax_cons ex_int ax_nil)))) aq_nil)) (fun v0 v1 os_ hr_ => ?_) (by rintro φs os_ ⟨_, rfl, _, rfl, rfl, rfl⟩; exact ⟨_, _, rfl⟩)
  obtain ⟨_, e0, _, e1, e8, e9⟩ := hr_
  cases e0; cases e1; cases e8; cases e9
  obtain ⟨t6, h6, hm⟩ := bnd hm
  obtain ⟨t7, h7, hm⟩ := bnd hm
  obtain ⟨t8, h8, hm⟩ := bnd hm
  obtain ⟨t9, h9, hm⟩ := bnd hm
  refine sx_mk2 (i := 4) (j := 5) (vi := 4) (gi := 5) _ hsc B T rfl rfl rfl rfl (by intro env he; cases env; cases he; first | rfl | kernel_rfl) (aq_x (φ := (dat (PyData.int t7))) (ex_idxL (enc := PyData.int) h7 rdl_dat (ex_v (i := 2) (j := 2) B rfl rfl rfl) (ex_call (a := (q_well_here, t4.2, (t1.length : Int))) (b := t6) (gi := 1) (rest := os) B rfl c_l_take (by decide) h6 (ax_cons (ex_v (i := 0) (j := 0) B rfl rfl rfl) (ax_cons (EX.to (ex_fn (j := 2) B rfl g_len (by decide +kernel) call_len_seq (rc_lenL (ds := List.map PyData.int t1) rdl_dat) (ax_cons (ex_v (i := 2) (j := 2) B rfl rfl rfl) ax_nil)) (by rw [List.length_map])) ax_nil)))) (aq_x (φ := (dat (PyData.int t9))) (ex_idxL (enc := PyData.int) h9 rdl_dat (ex_v (i := 2) (j := 2) B rfl rfl rfl) (ex_call (a := (q_well_here, t6.2, (t1.length : Int))) (b := t8) (gi := 1) (rest := os) B rfl c_l_take (by decide) h8 (ax_cons (ex_v (i := 0) (j := 0) B rfl rfl rfl) (ax_cons (EX.to (ex_fn (j := 2) B rfl g_len (by decide +kernel) call_len_seq (rc_lenL (ds := List.map PyData.int t1) rdl_dat) (ax_cons (ex_v (i := 2) (j := 2) B rfl rfl rfl) ax_nil)) (by rw [List.length_map])) ax_nil)))) aq_nil)) (fun v0 v1 os_ hr_ => ?_) (by rintro φs os_ ⟨_, rfl, _, rfl, rfl, rfl⟩; exact ⟨_, _, rfl⟩)
  obtain ⟨_, e0, _, e1, e8, e9⟩ := hr_
  cases e0; cases e1; cases e8; cases e9
  obtain ⟨f12o, h20, hm⟩ := bnd hm
  refine sx_forR (c := anyOs) _ (fun (s10 : Unit) (_ : Unit) => [sl (own q_well_here), sl (dat (PyData.int letters)), sl (dat (PyData.list (List.map PyData.int t1))), sl (dat (PyData.int t5)), sl (dat (PyData.int t7)), sl (dat (PyData.int t9)), un, un, un, un]) (fun (s10 : Unit) (_ : Unit) => (q_well_here, ol (List.map PyData.int t8.2)) :: os) (fun (r : (Bool × (List Int))) v H => ∃ F, Same F0 F ∧ Ow F ((q_well_here, ol (List.map PyData.int r.2)) :: os) H ∧ Cl (dat (PyData.bool r.1)) F v) B T (fun end_here11 => gx_name (i := 6) (vi := 6) (φ := (dat (PyData.int end_here11))) B T rfl rfl) () () f12o h20 (ix_list (enc := PyData.int) (c := anyOs) (EN.ex (en_lst (ds := [(PyData.int t9), (PyData.int t7), (PyData.int (-t7))]) (hl := len_ok (n := 3) rfl) (ax_cons (ex_v (i := 5) (j := 5) B rfl rfl rfl) (ax_cons (ex_v (i := 4) (j := 4) B rfl rfl rfl) (ax_cons (ex_neg (ex_v (i := 4) (j := 4) B rfl rfl rfl)) ax_nil))))) (fun _ _ => rdl_dat) trivial) ⟨.inl rfl, .inl rfl, .inl rfl, .inl rfl, .inl rfl, .inl rfl, .inl rfl, .inl rfl, .inl rfl, .inl rfl, trivial⟩ (fun _ _ => trivial) (fun F14 e13 s10 _ end_here11 z31 hx hm2 => ?_) (fun f12 _ ho => ?_) (fun r30 v H ho hr => ?_)
  · clear hm h20
    have hm := hm2
    obtain ⟨t15, h15, hm⟩ := bnd hm
    refine sx_asg (i := 7) (vi := 7) (φ := (dat (PyData.int t15))) B T rfl rfl (ex_call (a := (letters, t7, end_here11, t5)) (b := t15) (gi := 3) (rest := (q_well_here, ol (List.map PyData.int t8.2)) :: os) B rfl c_l_ends (by decide) h15 (ax_cons (ex_v (i := 1) (j := 1) B rfl rfl rfl) (ax_cons (ex_v (i := 4) (j := 4) B rfl rfl rfl) (ax_cons (ex_v (i := 6) (j := 6) B rfl rfl rfl) (ax_cons (ex_v (i := 3) (j := 3) B rfl rfl rfl) ax_nil))))) ?_
    obtain ⟨t16, h16, hm⟩ := bnd hm
    obtain ⟨t17, h17, hm⟩ := bnd hm
    refine sx_if (tx_not (tx_val (ex_call (a := (t16, t15)) (b := t17) (gi := 4) (rest := (q_well_here, ol (List.map PyData.int t8.2)) :: os) B rfl c_l_number (by decide) h17 (ax_cons (ex_call (a := (letters, t7, end_here11, t5)) (b := t16) (gi := 5) (rest := (q_well_here, ol (List.map PyData.int t8.2)) :: os) B rfl c_p_between (by decide) h16 (ax_cons (ex_v (i := 1) (j := 1) B rfl rfl rfl) (ax_cons (ex_v (i := 4) (j := 4) B rfl rfl rfl) (ax_cons (ex_v (i := 6) (j := 6) B rfl rfl rfl) (ax_cons (ex_v (i := 3) (j := 3) B rfl rfl rfl) ax_nil))))) (ax_cons (ex_v (i := 7) (j := 7) B rfl rfl rfl) ax_nil))) (by intro _; rfl))) (fun hk => ?_) (fun hk => ?_)
    · have hm := ifT hm hk
      exact sx_ret ex_bool (fun F H v e o c => ⟨_, (som hm).symm, F, (e13.trans e), o, c⟩)
    · have hm := ifF hm hk
      refine sx_fall ?_ rfl
      obtain ⟨t18, h18, hm⟩ := bnd hm
      obtain ⟨t19, h19, hm⟩ := bnd hm
      refine sx_if (tx_not (tx_val (ex_call (a := (t18, t15)) (b := t19) (gi := 4) (rest := (q_well_here, ol (List.map PyData.int t8.2)) :: os) B rfl c_l_number (by decide) h19 (ax_cons (ex_callk0 (a := (letters, end_here11, t7, t5)) (b := t18) (gi := 5) (rest := (q_well_here, ol (List.map PyData.int t8.2)) :: os) B rfl c_p_between (by decide) kw_between_0_length_last_first_letters (by decide) h18 (kx_cons (ex_v (i := 3) (j := 3) B rfl rfl rfl) (kx_cons (ex_v (i := 4) (j := 4) B rfl rfl rfl) (kx_cons (ex_v (i := 6) (j := 6) B rfl rfl rfl) (kx_cons (ex_v (i := 1) (j := 1) B rfl rfl rfl) kx_nil)))) rfl) (ax_cons (ex_v (i := 7) (j := 7) B rfl rfl rfl) ax_nil))) (by intro _; rfl))) (fun hk => ?_) (fun hk => ?_)
      · have hm := ifT hm hk
        exact sx_ret ex_bool (fun F H v e o c => ⟨_, (som hm).symm, F, (e13.trans e), o, c⟩)
      · have hm := ifF hm hk
        refine sx_fall ?_ rfl
        exact sx_nil fun σ H a => ⟨_, (), (som hm).symm, (a.weak ⟨.inl rfl, .inl rfl, .inl rfl, .inl rfl, .inl rfl, .inl rfl, .inr rfl, .inr rfl, .inl rfl, .inl rfl, trivial⟩)⟩
  · cases ho
    have hm := elimR hm
    obtain ⟨t21, h21, hm⟩ := bnd hm
    refine sx_asg (i := 8) (vi := 8) (φ := (dat (PyData.list (List.map (eT PyData.int) t21)))) B T rfl rfl (ex_call (a := (letters, ([] : (List (List Int))), 3)) (b := t21) (gi := 6) (rest := (q_well_here, ol (List.map PyData.int t8.2)) :: os) B rfl c_l_all (by decide) h21 (ax_cons (ex_v (i := 1) (j := 1) B rfl rfl rfl) (ax_cons (EN.ex (en_lst (ds := []) ax_nil)) (ax_cons ex_int ax_nil)))) ?_
    obtain ⟨t27, h27, hm⟩ := bnd hm
    refine sx_asg (i := 7) (vi := 7) (φ := (dat (PyData.int (t27.length : Int)))) B T rfl rfl (EX.to (ex_fn (j := 2) B rfl g_len (by decide +kernel) call_len_seq (rc_lenL (ds := List.map (eT PyData.int) t27) rdl_dat) (ax_cons (EN.ex (en_lc (lc_mk1 (j := 9) (vp := fun walk22 => (dat (PyData.tuple (List.map PyData.int walk22)))) (c := anyOs) (enc := (eT PyData.int)) (fun (_ : Unit) (walk22 : (List Int)) => ((fun (walk22 : (List Int)) => ((idx walk22 0).bind fun t24 => (if (decide (t24 = t7)) = true then ((idx walk22 2).bind fun t25 => some (decide (t25 = t9))) else some false).bind fun t26 => if t26 = true then some (some walk22) else some none)) walk22).map fun y => (y, ())) (fun (_ : Unit) (tl1 : Os) => (q_well_here, ol (List.map PyData.int t8.2)) :: tl1) () (t27) () B rfl rfl (by rw [B.hN, hsc]; decide +kernel) (by rw [hsc]; decide +kernel) (by decide) (lcG_ok h27) (ix_list (enc := (eT PyData.int)) (c := anyOs) (ex_v (i := 8) (j := 8) B rfl rfl rfl) (fun _ _ => rdl_dat) trivial) (fun _ _ => trivial) (fun _ _ _ => (List.Perm.swap _ _ _)) (fun _ walk22 t tl1 hx hf => by (obtain ⟨y, hy, rfl⟩ := Option.map_eq_some_iff.mp hf; obtain ⟨t24, h24, hy⟩ := bnd hy; obtain ⟨t26, h26, hy⟩ := bnd hy; cases hc : t26 with | true => (have hy := ifT hy hc; obtain rfl := som hy; exact ⟨true, _, fun X1 hX => by (have B1 := Bd.fam (W' := ["_law_first_here", "_law_last", "_law_walk"]) (G' := []) B hX (by (try rw [hsc]); decide +kernel); exact ⟨.one (TX.to (WX.tx (wx_and (l := t26) (os2 := (q_well_here, ol (List.map PyData.int t8.2)) :: tl1) (tx_cmp op_eq r2_eqI (nomark _) (ex_idxT (enc := PyData.int) h24 rdt_dat (ex_v (i := 9) (j := 2) B1 rfl rfl rfl) ex_int) (ex_v (i := 4) (j := 0) B1 rfl rfl rfl)) (fun hk => by (have hm := ifT h26 hk; obtain ⟨t25, h25, hm⟩ := bnd hm; obtain rfl := som hm; exact (wx_and1 (tx_cmp op_eq r2_eqI (nomark _) (ex_idxT (enc := PyData.int) h25 rdt_dat (ex_v (i := 9) (j := 2) B1 rfl rfl rfl) ex_int) (ex_v (i := 5) (j := 1) B1 rfl rfl rfl))))) (fun hk => by (have hm := ifF h26 hk; obtain rfl := som hm; rfl)) (and_fix (fun hk => by (have hm := ifF h26 hk; obtain rfl := som hm; rfl))))) hc), fun _ => ⟨_, rfl, (ex_v (i := 9) (j := 2) B1 rfl rfl rfl)⟩, fun h => Bool.noConfusion h⟩)⟩) | false => (have hy := ifF hy hc; obtain rfl := som hy; exact ⟨false, _, fun X1 hX => by (have B1 := Bd.fam (W' := ["_law_first_here", "_law_last", "_law_walk"]) (G' := []) B hX (by (try rw [hsc]); decide +kernel); exact ⟨.one (TX.to (WX.tx (wx_and (l := t26) (os2 := (q_well_here, ol (List.map PyData.int t8.2)) :: tl1) (tx_cmp op_eq r2_eqI (nomark _) (ex_idxT (enc := PyData.int) h24 rdt_dat (ex_v (i := 9) (j := 2) B1 rfl rfl rfl) ex_int) (ex_v (i := 4) (j := 0) B1 rfl rfl rfl)) (fun hk => by (have hm := ifT h26 hk; obtain ⟨t25, h25, hm⟩ := bnd hm; obtain rfl := som hm; exact (wx_and1 (tx_cmp op_eq r2_eqI (nomark _) (ex_idxT (enc := PyData.int) h25 rdt_dat (ex_v (i := 9) (j := 2) B1 rfl rfl rfl) ex_int) (ex_v (i := 5) (j := 1) B1 rfl rfl rfl))))) (fun hk => by (have hm := ifF h26 hk; obtain rfl := som hm; rfl)) (and_fix (fun hk => by (have hm := ifF h26 hk; obtain rfl := som hm; rfl))))) hc), fun h => Bool.noConfusion h, fun _ => ⟨rfl, rfl⟩⟩)⟩)))))) ax_nil)) (by rw [List.length_map])) ?_
    obtain ⟨t28, h28, hm⟩ := bnd hm
    obtain ⟨t29, h29, hm⟩ := bnd hm
    obtain rfl := som hm
    exact sx_ret (ex_call (a := (t28, (t27.length : Int))) (b := t29) (gi := 4) (rest := (q_well_here, ol (List.map PyData.int t8.2)) :: os) B rfl c_l_number (by decide) h29 (ax_cons (ex_call (a := (letters, t7, t9, 3)) (b := t28) (gi := 5) (rest := (q_well_here, ol (List.map PyData.int t8.2)) :: os) B rfl c_p_between (by decide) h28 (ax_cons (ex_v (i := 1) (j := 1) B rfl rfl rfl) (ax_cons (ex_v (i := 4) (j := 4) B rfl rfl rfl) (ax_cons (ex_v (i := 5) (j := 5) B rfl rfl rfl) (ax_cons ex_int ax_nil))))) (ax_cons (ex_v (i := 7) (j := 7) B rfl rfl rfl) ax_nil))) (fun F H v e o c => R.rt F H v e o c)
  · cases ho
    have hm := elimL hm
    obtain rfl := som hm
    obtain ⟨F, e, o, c⟩ := hr
    exact R.rt F H v e o c
theorem cal_l_between {P : Program} {w : World} {K : PySem.W.Frag} {mg : Str → Option Value} {base : Heap} {f : Addr} {fd : FuncData} (Fn : Fun K "_law_between" "_law_between" s_l_between f fd) (hmg : mg "_law_between" = some (.ref f)) (hb : Binds K fd ["_law_well_here", "_law_letters"] []) (c_l_steps : Cal P w K mg base 1 "_law_steps" s_l_steps ["_law_letters"] (sp_l_steps K)) (c_l_take : Cal P w K mg base 1 "_law_take" s_l_take ["_law_well_here", "_law_many"] (sp_l_take K)) (g_len : mg "len" = none) (c_l_ends : Cal P w K mg base 1 "_law_ends" s_l_ends ["_law_letters", "_law_first_here", "_law_last", "_law_length"] (sp_l_ends K)) (c_l_number : Cal P w K mg base 1 "_law_number" s_l_number ["_law_found", "_law_due"] (sp_l_number K)) (c_p_between : Cal P w K mg base 4 "between" s_p_between ["letters", "first", "last", "length"] (sp_p_between K)) (c_l_all : Cal P w K mg base 2 "_law_all" s_l_all ["_law_letters", "_law_told_here", "_law_length"] (sp_l_all K)) : Cal P w K mg base 5 "_law_between" s_l_between ["_law_well_here", "_law_letters"] (sp_l_between K) := by
  obtain ⟨sts_, hst_⟩ : ∃ z_, defBody s_l_between = z_ := ⟨_, rfl⟩
  exact cal_ZQ (V := V_l_between) (Gs := G_l_between) (nl := 8) hst_ Fn sc_l_between (by decide +kernel) (by decide +kernel) hmg hb (fun _ => rfl) rfl fun _ _ _ _ _ _ _ a b F0 os D B T hm R => body_l_between rfl hst_ B T c_l_steps c_l_take g_len c_l_ends c_l_number c_p_between c_l_all a.1 a.2.1 a.2.2 b F0 os D hm R
abbrev s_l_right : Stmt := top 46
def N_l_right : List Str := ["_law_well_here", "_law_letters", "_law_told_here", "_law_length"]
def V_l_right : List Str := ["_law_well_here", "_law_letters", "_law_told_here", "_law_length"]
def G_l_right : List Str := ["_law_take", "_law_told", "_law_short", "_law_great", "_law_between"]
theorem sc_l_right : FnScope N_l_right ["_law_well_here"] (defScope s_l_right) := ⟨rfl, rfl, rfl, by decide +kernel, rfl, by decide +kernel, by decide +kernel⟩
abbrev sp_l_right (K : PySem.W.Frag) : Sp := spZ (α := (Addr × (List Int))) (β := (Bool × (List Int))) (fun a => [own a.1]) (fun a => (a.1, ol (List.map PyData.int a.2)) :: []) (fun a => m_l_right a.2) (fun a b => (dat (PyData.bool b.1))) (fun a b => (a.1, ol (List.map PyData.int b.2)) :: [])
set_option maxHeartbeats 4000000 in
theorem body_l_right {X : Cx} (hsc : X.env.scope = defScope s_l_right) {sts_ : List Stmt} (hst_ : defBody s_l_right = sts_) (B : Bd X N_l_right V_l_right G_l_right 7) (T : Bt X V_l_right) (c_l_take : Cal X.prog X.w X.K X.mg X.base 1 "_law_take" s_l_take ["_law_well_here", "_law_many"] (sp_l_take X.K)) (c_l_told : Cal X.prog X.w X.K X.mg X.base 3 "_law_told" s_l_told ["_law_well_here", "_law_letters"] (sp_l_told X.K)) (c_l_short : Cal X.prog X.w X.K X.mg X.base 7 "_law_short" s_l_short ["_law_letters", "_law_told_here", "_law_length"] (sp_l_short X.K)) (c_l_great : Cal X.prog X.w X.K X.mg X.base 7 "_law_great" s_l_great ["_law_well_here", "_law_letters", "_law_told_here"] (sp_l_great X.K)) (c_l_between : Cal X.prog X.w X.K X.mg X.base 5 "_law_between" s_l_between ["_law_well_here", "_law_letters"] (sp_l_between X.K)) (q_well_here : Addr) (w_well_here : (List Int)) (b : (Bool × (List Int))) (F0 : Hp) (os : Os) (D : Ends) (hm : m_l_right w_well_here = some b) (R : RetZ F0 ((q_well_here, ol (List.map PyData.int b.2)) :: os) (dat (PyData.bool b.1)) D) :
    SX X [sl (own q_well_here), un, un, un] ((q_well_here, ol (List.map PyData.int w_well_here)) :: os) F0 sts_ D := by
  subst hst_
  unfold m_l_right at hm
  obtain ⟨t1, h1, hm⟩ := bnd hm
  refine sx_asg (i := 1) (vi := 1) (φ := (dat (PyData.int (1 + t1.1)))) B T rfl rfl (ex_add ex_int (ex_call (a := (q_well_here, w_well_here, 4)) (b := t1) (gi := 0) (rest := os) B rfl c_l_take (by decide) h1 (ax_cons (ex_v (i := 0) (j := 0) B rfl rfl rfl) (ax_cons ex_int ax_nil)))) ?_
  obtain ⟨t2, h2, hm⟩ := bnd hm
  obtain ⟨t3, h3, hm⟩ := bnd hm
  obtain ⟨t4, h4, hm⟩ := bnd hm
  refine sx_par2 (i := 2) (j := 3) _ hsc B rfl rfl (by decide) (by decide +kernel) (by decide +kernel) (by intro env he; cases env; cases he; first | rfl | kernel_rfl) (aq_x (φ := (dat (PyData.list (List.map (eT PyData.int) t2.1)))) (ex_call (a := (q_well_here, t1.2, (1 + t1.1))) (b := t2) (gi := 1) (rest := os) B rfl c_l_told (by decide) h2 (ax_cons (ex_v (i := 0) (j := 0) B rfl rfl rfl) (ax_cons (ex_v (i := 1) (j := 1) B rfl rfl rfl) ax_nil))) (aq_x (φ := (dat (PyData.int t4.1))) (ex_call (a := (q_well_here, t2.2, t3)) (b := t4) (gi := 0) (rest := os) B rfl c_l_take (by decide) h4 (ax_cons (ex_v (i := 0) (j := 0) B rfl rfl rfl) (ax_cons (ex_idxL (enc := PyData.int) h3 rdl_dat (EN.ex (en_lst (ds := [(PyData.int 8), (PyData.int 6), (PyData.int 4), (PyData.int 4)]) (hl := len_ok (n := 4) rfl) (ax_cons ex_int (ax_cons ex_int (ax_cons ex_int (ax_cons ex_int ax_nil)))))) (ex_sub (ex_v (i := 1) (j := 1) B rfl rfl rfl) ex_int)) ax_nil))) aq_nil)) (fun v0 v1 os_ hr_ => ?_) (by rintro φs os_ ⟨_, rfl, _, rfl, rfl, rfl⟩; exact ⟨_, _, rfl⟩)
  obtain ⟨_, e0, _, e1, e8, e9⟩ := hr_
  cases e0; cases e1; cases e8; cases e9
  obtain ⟨t5, h5, hm⟩ := bnd hm
  obtain ⟨t8, h8, hm⟩ := bnd hm
  refine sx_if (WX.tx (wx_or (l := t8.1) (os2 := (q_well_here, ol (List.map PyData.int t8.2)) :: os) (tx_not (tx_val (ex_call (a := ((1 + t1.1), t2.1, t4.1)) (b := t5) (gi := 2) (rest := (q_well_here, ol (List.map PyData.int t4.2)) :: os) B rfl c_l_short (by decide) h5 (ax_cons (ex_v (i := 1) (j := 1) B rfl rfl rfl) (ax_cons (ex_v (i := 2) (j := 2) B rfl rfl rfl) (ax_cons (ex_v (i := 3) (j := 3) B rfl rfl rfl) ax_nil)))) (by intro _; rfl))) (fun hk => by (have hm := ifF h8 hk; obtain ⟨t6, h6, hm⟩ := bnd hm; obtain ⟨t7, h7, hm⟩ := bnd hm; obtain rfl := som hm; exact (wx_or1 (tx_not (tx_val (ex_call (a := ((1 + t1.1), ([] : (List (List Int))), t6.1)) (b := t7) (gi := 2) (rest := (q_well_here, ol (List.map PyData.int t6.2)) :: os) B rfl c_l_short (by decide) h7 (ax_cons (ex_v (i := 1) (j := 1) B rfl rfl rfl) (ax_cons (EN.ex (en_lst (ds := []) ax_nil)) (ax_cons (ex_call (a := (q_well_here, t4.2, 3)) (b := t6) (gi := 0) (rest := os) B rfl c_l_take (by decide) h6 (ax_cons (ex_v (i := 0) (j := 0) B rfl rfl rfl) (ax_cons ex_int ax_nil))) ax_nil)))) (by intro _; rfl)))))) (fun hk => by (have hm := ifT h8 hk; obtain rfl := som hm; rfl)) (or_fix (fun hk => by (have hm := ifT h8 hk; obtain rfl := som hm; rfl))))) (fun hk => ?_) (fun hk => ?_)
  · have hm := ifT hm hk
    obtain rfl := som hm
    exact sx_ret ex_bool (fun F H v e o c => R.rt F H v e o c)
  · have hm := ifF hm hk
    refine sx_fall ?_ rfl
    obtain ⟨t9, h9, hm⟩ := bnd hm
    obtain ⟨t11, h11, hm⟩ := bnd hm
    refine sx_if (WX.tx (wx_or (l := t11) (os2 := (q_well_here, ol (List.map PyData.int t8.2)) :: os) (tx_not (tx_val (ex_call (a := ((1 + t1.1), t2.1, 1)) (b := t9) (gi := 2) (rest := (q_well_here, ol (List.map PyData.int t8.2)) :: os) B rfl c_l_short (by decide) h9 (ax_cons (ex_v (i := 1) (j := 1) B rfl rfl rfl) (ax_cons (ex_v (i := 2) (j := 2) B rfl rfl rfl) (ax_cons ex_int ax_nil)))) (by intro _; rfl))) (fun hk => by (have hm := ifF h11 hk; obtain ⟨t10, h10, hm⟩ := bnd hm; obtain rfl := som hm; exact (wx_or1 (tx_not (tx_val (ex_call (a := ((1 + t1.1), t2.1, 0)) (b := t10) (gi := 2) (rest := (q_well_here, ol (List.map PyData.int t8.2)) :: os) B rfl c_l_short (by decide) h10 (ax_cons (ex_v (i := 1) (j := 1) B rfl rfl rfl) (ax_cons (ex_v (i := 2) (j := 2) B rfl rfl rfl) (ax_cons ex_int ax_nil)))) (by intro _; rfl)))))) (fun hk => by (have hm := ifT h11 hk; obtain rfl := som hm; rfl)) (or_fix (fun hk => by (have hm := ifT h11 hk; obtain rfl := som hm; rfl))))) (fun hk => ?_) (fun hk => ?_)
    · have hm := ifT hm hk
      obtain rfl := som hm
      exact sx_ret ex_bool (fun F H v e o c => R.rt F H v e o c)
    · have hm := ifF hm hk
      refine sx_fall ?_ rfl
      obtain ⟨t12, h12, hm⟩ := bnd hm
      obtain ⟨t14, h14, hm⟩ := bnd hm
      obtain rfl := som hm
      exact sx_ret (ex_and (l := t14.1) (os2 := (q_well_here, ol (List.map PyData.int t14.2)) :: os) (ex_call (a := (q_well_here, t8.2, (1 + t1.1), t2.1)) (b := t12) (gi := 3) (rest := os) B rfl c_l_great (by decide) h12 (ax_cons (ex_v (i := 0) (j := 0) B rfl rfl rfl) (ax_cons (ex_v (i := 1) (j := 1) B rfl rfl rfl) (ax_cons (ex_v (i := 2) (j := 2) B rfl rfl rfl) ax_nil)))) (fun hk => by (have hm := ifT h14 hk; obtain ⟨t13, h13, hm⟩ := bnd hm; obtain rfl := som hm; exact (ex_one (ex_call (a := (q_well_here, t12.2, (1 + t1.1))) (b := t13) (gi := 4) (rest := os) B rfl c_l_between (by decide) h13 (ax_cons (ex_v (i := 0) (j := 0) B rfl rfl rfl) (ax_cons (ex_v (i := 1) (j := 1) B rfl rfl rfl) ax_nil)))))) (fun hk => by (have hm := ifF h14 hk; obtain rfl := som hm; rfl)) (and_fix (fun hk => by (have hm := ifF h14 hk; obtain rfl := som hm; rfl)))) (fun F H v e o c => R.rt F H v e o c)
theorem cal_l_right {P : Program} {w : World} {K : PySem.W.Frag} {mg : Str → Option Value} {base : Heap} {f : Addr} {fd : FuncData} (Fn : Fun K "_law_right" "_law_right" s_l_right f fd) (hmg : mg "_law_right" = some (.ref f)) (hb : Binds K fd ["_law_well_here"] []) (c_l_take : Cal P w K mg base 1 "_law_take" s_l_take ["_law_well_here", "_law_many"] (sp_l_take K)) (c_l_told : Cal P w K mg base 3 "_law_told" s_l_told ["_law_well_here", "_law_letters"] (sp_l_told K)) (c_l_short : Cal P w K mg base 7 "_law_short" s_l_short ["_law_letters", "_law_told_here", "_law_length"] (sp_l_short K)) (c_l_great : Cal P w K mg base 7 "_law_great" s_l_great ["_law_well_here", "_law_letters", "_law_told_here"] (sp_l_great K)) (c_l_between : Cal P w K mg base 5 "_law_between" s_l_between ["_law_well_here", "_law_letters"] (sp_l_between K)) : Cal P w K mg base 8 "_law_right" s_l_right ["_law_well_here"] (sp_l_right K) := by
  obtain ⟨sts_, hst_⟩ : ∃ z_, defBody s_l_right = z_ := ⟨_, rfl⟩
  exact cal_ZQ (V := V_l_right) (Gs := G_l_right) (nl := 3) hst_ Fn sc_l_right (by decide +kernel) (by decide +kernel) hmg hb (fun _ => rfl) rfl fun _ _ _ _ _ _ _ a b F0 os D B T hm R => body_l_right rfl hst_ B T c_l_take c_l_told c_l_short c_l_great c_l_between a.1 a.2 b F0 os D hm R
abbrev s_l_law : Stmt := top 47
def N_l_law : List Str := ["_law_script", "_law_k"]
def V_l_law : List Str := ["_law_script", "_law_k"]
def G_l_law : List Str := ["range", "max", "min", "len", "_law_right", "_law_well"]
theorem sc_l_law : FnScope N_l_law ["_law_script"] (defScope s_l_law) := ⟨rfl, rfl, rfl, by decide +kernel, rfl, by decide +kernel, by decide +kernel⟩
abbrev sp_l_law (K : PySem.W.Frag) : Sp := spZ (α := (List Int)) (β := Bool) (fun a => [(scr K a)]) (fun a => []) (fun a => m_l_law a) (fun a b => (dat (PyData.bool b))) (fun a b => [])
set_option maxHeartbeats 4000000 in
theorem body_l_law {X : Cx} (hsc : X.env.scope = defScope s_l_law) {sts_ : List Stmt} (hst_ : defBody s_l_law = sts_) (B : Bd X N_l_law V_l_law G_l_law 8) (T : Bt X V_l_law) (g_range : X.mg "range" = none) (g_max : X.mg "max" = none) (g_min : X.mg "min" = none) (g_len : X.mg "len" = none) (c_l_right : Cal X.prog X.w X.K X.mg X.base 8 "_law_right" s_l_right ["_law_well_here"] (sp_l_right X.K)) (c_l_well : Cal X.prog X.w X.K X.mg X.base 1 "_law_well" s_l_well ["_law_script", "_law_k"] (sp_l_well X.K)) (script : (List Int)) (b : Bool) (F0 : Hp) (os : Os) (D : Ends) (hm : m_l_law script = some b) (R : RetZ F0 (os) (dat (PyData.bool b)) D) :
    SX X [sl (scr X.K script), un] (os) F0 sts_ D := by
  subst hst_
  unfold m_l_law at hm
  obtain ⟨t1, h1, hm⟩ := bnd hm
  obtain ⟨f4o, h9, hm⟩ := bnd hm
  refine sx_forR (c := anyOs) _ (fun (s2 : Unit) (_ : Unit) => [sl (scr X.K script), un]) (fun (s2 : Unit) (_ : Unit) => os) (fun (r : Bool) v H => ∃ F, Same F0 F ∧ Ow F (os) H ∧ Cl (dat (PyData.bool r)) F v) B T (fun k_3 => gx_name (i := 1) (vi := 1) (φ := (dat (PyData.int k_3))) B T rfl rfl) () () f4o h9 (ix_rng1 (gi := 0) B rfl g_range h1 (ex_fn (j := 1) B rfl g_max (by decide +kernel) (call_max2 B.calm) rc_max (ax_cons ex_int (ax_cons (ex_fn (j := 2) B rfl g_min (by decide +kernel) (call_min2 B.calm) rc_min (ax_cons ex_int (ax_cons (EX.to (ex_fn (j := 3) B rfl g_len (by decide +kernel) call_len_seq (rc_lenL (ds := List.map PyData.int script) rdl_scr) (ax_cons (ex_v (i := 0) (j := 0) B rfl rfl rfl) ax_nil)) (by rw [List.length_map])) ax_nil))) ax_nil)))) ⟨.inl rfl, .inl rfl, trivial⟩ (fun _ _ => trivial) (fun F6 e5 s2 _ k_3 z11 hx hm2 => ?_) (fun f4 _ ho => ?_) (fun r10 v H ho hr => ?_)
  · clear hm h9
    have hm := hm2
    obtain ⟨t7, h7, hm⟩ := bnd hm
    obtain ⟨t8, h8, hm⟩ := bnd hm
    refine sx_if (tx_not (tx_val (ex_calln (a := fun q => (q, t7)) (b := t8) (gi := 4) (rest := os) B rfl c_l_right (by decide) (fun _ => h8) (en_call (a := (script, k_3)) (b := t7) (gi := 5) (rest := os) B rfl c_l_well (by decide) h7 (ax_cons (ex_v (i := 0) (j := 0) B rfl rfl rfl) (ax_cons (ex_v (i := 1) (j := 1) B rfl rfl rfl) ax_nil))) (fun _ => rfl) (fun _ => rfl) (fun _ => rfl)) (by intro _; rfl))) (fun hk => ?_) (fun hk => ?_)
    · have hm := ifT hm hk
      exact sx_ret ex_bool (fun F H v e o c => ⟨_, (som hm).symm, F, (e5.trans e), o, c⟩)
    · have hm := ifF hm hk
      refine sx_fall ?_ rfl
      exact sx_nil fun σ H a => ⟨_, (), (som hm).symm, (a.weak ⟨.inl rfl, .inr rfl, trivial⟩)⟩
  · cases ho
    have hm := elimR hm
    obtain rfl := som hm
    exact sx_ret ex_bool (fun F H v e o c => R.rt F H v e o c)
  · cases ho
    have hm := elimL hm
    obtain rfl := som hm
    obtain ⟨F, e, o, c⟩ := hr
    exact R.rt F H v e o c
theorem cal_l_law {P : Program} {w : World} {K : PySem.W.Frag} {mg : Str → Option Value} {base : Heap} {f : Addr} {fd : FuncData} (Fn : Fun K "law" "law" s_l_law f fd) (hmg : mg "law" = some (.ref f)) (hb : Binds K fd ["_law_script"] []) (g_range : mg "range" = none) (g_max : mg "max" = none) (g_min : mg "min" = none) (g_len : mg "len" = none) (c_l_right : Cal P w K mg base 8 "_law_right" s_l_right ["_law_well_here"] (sp_l_right K)) (c_l_well : Cal P w K mg base 1 "_law_well" s_l_well ["_law_script", "_law_k"] (sp_l_well K)) : Cal P w K mg base 9 "law" s_l_law ["_law_script"] (sp_l_law K) := by
  obtain ⟨sts_, hst_⟩ : ∃ z_, defBody s_l_law = z_ := ⟨_, rfl⟩
  exact cal_ZQ (V := V_l_law) (Gs := G_l_law) (nl := 1) hst_ Fn sc_l_law (by decide +kernel) (by decide +kernel) hmg hb (fun _ => rfl) rfl fun _ _ _ _ _ _ _ a b F0 os D B T hm R => body_l_law rfl hst_ B T g_range g_max g_min g_len c_l_right c_l_well a b F0 os D hm R
end L06
namespace Z
open PySem PySem.Spec L2
theorem log2_small {n k : Nat} (h : n < 2 ^ k) (hk : 0 < k) : n.log2 < k := by
  by_cases h0 : n = 0
  · subst h0
    simpa using hk
  · exact (Nat.log2_lt h0).mpr h
theorem log2_int {i : Int} {k : Nat} (h0 : 0 ≤ i) (h : i < 2 ^ k) (hk : 0 < k) : i.natAbs.log2 < k := by
  refine log2_small ?_ hk
  have e : ((2 ^ k : Nat) : Int) = (2 : Int) ^ k := by norm_cast
  omega
theorem idx_of {α : Type} {xs : List α} {i : Int} {v : α} (h0 : 0 ≤ i) (h : xs[i.toNat]? = some v) : idx xs i = some v := by
  have hl := (List.getElem?_eq_some_iff.mp h).1
  unfold idx atI ixN
  rw [if_pos h0, if_pos (by omega)]
  exact h
theorem idx_last {α : Type} {xs : List α} {v : α} (h : xs[xs.length - 1]? = some v) : idx xs (-1) = some v := by
  have hl := (List.getElem?_eq_some_iff.mp h).1
  unfold idx atI ixN
  rw [if_neg (by omega), if_pos (by omega)]
  have e : ((-1 : Int) + (xs.length : Int)).toNat = xs.length - 1 := by omega
  show xs[((-1 : Int) + (xs.length : Int)).toNat]? = _
  rw [e]
  exact h
theorem rngO_ok {a b : Int} (h : -(2 ^ 62) ≤ a ∧ a < 2 ^ 62 ∧ -(2 ^ 62) ≤ b ∧ b < 2 ^ 62) : rngO a b = some (range' a b) := if_pos h
theorem mem_rng {a b x : Int} (h : x ∈ range' a b) : a ≤ x ∧ x < b := by
  unfold range' at h
  obtain ⟨i, hi, rfl⟩ := List.mem_map.mp h
  have := List.mem_range.mp hi
  omega
theorem lpR_go {α R S : Type} {f : S → α → Option (Step R S)} (P : S → Prop) : ∀ {xs : List α}, (∀ x ∈ xs, ∀ s, P s → ∃ s', f s x = some (.go s') ∧ P s') → ∀ {s0 : S}, P s0 → ∃ s', lpR f xs s0 = some (.inr s') ∧ P s'
  | [], _, s0, h0 => ⟨s0, rfl, h0⟩
  | x :: xs, h, s0, h0 => by
    obtain ⟨s1, e, h1⟩ := h x List.mem_cons_self s0 h0
    obtain ⟨s2, e2, h2⟩ := lpR_go P (fun y hy => h y (List.mem_cons_of_mem _ hy)) h1
    refine ⟨s2, ?_, h2⟩
    unfold lpR
    rw [e]
    exact e2
theorem lp_goN {α S : Type} {f : S → α → Option S} : ∀ {xs : List α} (P : Nat → S → Prop), (∀ (i : Nat) (x : α) (s : S), xs[i]? = some x → P i s → ∃ s', f s x = some s' ∧ P (i + 1) s') → ∀ {s0 : S}, P 0 s0 → ∃ s', lp f xs s0 = some s' ∧ P xs.length s'
  | [], P, _, s0, h0 => ⟨s0, rfl, h0⟩
  | x :: xs, P, h, s0, h0 => by
    obtain ⟨s1, e, h1⟩ := h 0 x s0 rfl h0
    obtain ⟨s2, e2, h2⟩ := lp_goN (xs := xs) (fun i => P (i + 1)) (fun i y s hy hs => h (i + 1) y s (by simpa using hy) hs) h1
    refine ⟨s2, ?_, h2⟩
    unfold lp
    rw [e]
    exact e2
/-- three cells, of which so many draws were made at most -/
def SpOk (n : Nat) (w : List Int) : Prop := ∃ a b c : Int, w = [a, b, c] ∧ 0 ≤ a ∧ 0 ≤ b ∧ b < 2 ^ 101 ∧ 0 ≤ c ∧ c ≤ n
theorem SpOk.mono {n m : Nat} {w : List Int} (h : SpOk n w) (hm : n ≤ m) : SpOk m w := by
  obtain ⟨a, b, c, e, h1, h2, h3, h4, h5⟩ := h
  exact ⟨a, b, c, e, h1, h2, h3, h4, by omega⟩
end Z
namespace Z
open PySem PySem.Spec L2
/-- a step put on a pile -/
def psh : List Int → Int → List Int
  | [], x => [x]
  | y :: t, x => if y = -x then t else x :: y :: t
/-- no two opposite steps beside one another -/
def Gd : List Int → Prop
  | x :: y :: t => y ≠ -x ∧ Gd (y :: t)
  | _ => True
def fl (s w : List Int) : List Int := w.foldl psh s
def red (w : List Int) : List Int := (fl [] w).reverse
def iv (w : List Int) : List Int := w.reverse.map fun x => -x
theorem gd_tail {x : Int} : ∀ {t : List Int}, Gd (x :: t) → Gd t
  | [], _ => trivial
  | _ :: _, h => h.2
theorem gd_suf : ∀ {a b : List Int}, Gd (a ++ b) → Gd b
  | [], _, h => h
  | _ :: a, _, h => gd_suf (a := a) (gd_tail h)
theorem gd_join {x y : Int} {t : List Int} (hxy : x ≠ -y) (h2 : Gd (x :: t)) : ∀ {a : List Int}, Gd (a ++ [y]) → Gd (a ++ y :: x :: t)
  | [], _ => ⟨hxy, h2⟩
  | [_], h => ⟨h.1, hxy, h2⟩
  | _ :: b :: a, h => ⟨h.1, gd_join (a := b :: a) hxy h2 h.2⟩
theorem gd_rev : ∀ {w : List Int}, Gd w → Gd w.reverse
  | [], _ => trivial
  | [_], _ => trivial
  | x :: y :: t, h => by
    have ih := gd_rev (w := y :: t) h.2
    rw [List.reverse_cons] at ih
    rw [List.reverse_cons, List.reverse_cons, List.append_assoc]
    have := h.1
    exact gd_join (t := []) (by omega) trivial ih
theorem fl_of_gd : ∀ {w s : List Int}, Gd (w.reverse ++ s) → fl s w = w.reverse ++ s
  | [], _, _ => rfl
  | x :: w, s, h => by
    rw [List.reverse_cons, List.append_assoc] at h
    have e : psh s x = x :: s := by
      have hs := gd_suf h
      cases s with
      | nil => rfl
      | cons y t => exact if_neg hs.1
    show fl (psh s x) w = _
    have h' : Gd (w.reverse ++ (x :: s)) := h
    rw [e, fl_of_gd (w := w) h', List.reverse_cons, List.append_assoc]
    rfl
theorem red_of {w : List Int} (h : Gd w) : red w = w := by
  unfold red
  rw [fl_of_gd (s := []) (by rw [List.append_nil]; exact gd_rev h), List.append_nil, List.reverse_reverse]
theorem psh_len (s : List Int) (x : Int) : (psh s x).length ≤ s.length + 1 := by
  cases s with
  | nil => exact Nat.le_refl _
  | cons y t =>
    by_cases hy : y = -x
    · rw [show psh (y :: t) x = t from if_pos hy, List.length_cons]
      omega
    · rw [show psh (y :: t) x = x :: y :: t from if_neg hy, List.length_cons, List.length_cons]
      exact Nat.le_refl _
theorem cut_to {α : Type} (xs : List α) {i : Int} (h : 0 ≤ i) : cut xs none (some i) = xs.take i.toNat := by
  obtain ⟨n, rfl⟩ := Int.eq_ofNat_of_zero_le h
  unfold cut
  show (xs.drop 0).take (HT.sIx xs.length xs.length (some (n : Int)) - 0) = _
  rw [HT.sIx_nat, Nat.sub_zero, List.drop_zero, Int.toNat_natCast]
  by_cases hn : n ≤ xs.length
  · rw [Nat.min_eq_left hn]
  · rw [Nat.min_eq_right (by omega), List.take_length, List.take_of_length_le (by omega)]
theorem cut_from {α : Type} (xs : List α) {i : Int} (h : 0 ≤ i) : cut xs (some i) none = xs.drop i.toNat := by
  obtain ⟨n, rfl⟩ := Int.eq_ofNat_of_zero_le h
  unfold cut
  show (xs.drop (HT.sIx xs.length 0 (some (n : Int)))).take (xs.length - HT.sIx xs.length 0 (some (n : Int))) = _
  rw [HT.sIx_nat, Int.toNat_natCast]
  by_cases hn : n ≤ xs.length
  · rw [Nat.min_eq_left hn, List.take_of_length_le (by rw [List.length_drop]; omega)]
  · rw [Nat.min_eq_right (by omega), List.drop_length, List.take_nil, List.drop_of_length_le (by omega)]
def straightM (walk : List Int) : Option (List Int) :=
  ((lp (fun (s1 : (List Int)) (step2 : Int) => ((if (decide (0 < (s1.length : Int))) = true then ((idx s1 (-1)).bind fun t6 => some (decide (t6 = (-step2)))) else some false).bind fun t7 => ((if t7 = true then ((popO s1).bind fun t8 => some t8.2) else ((appO s1 step2).bind fun t9 => some t9) : Option (List Int)).bind fun s10 => some s10))) walk ([])).bind fun f3 => some f3)
theorem last_rev {α : Type} (y : α) (t : List α) : idx (y :: t).reverse (-1) = some y := by
  refine idx_last ?_
  rw [List.length_reverse, List.reverse_cons, List.length_cons, Nat.add_sub_cancel, List.getElem?_append_right (by rw [List.length_reverse]; exact Nat.le_refl _), List.length_reverse, Nat.sub_self]
  rfl
theorem pop_rev {α : Type} (y : α) (t : List α) : popO (y :: t).reverse = some (y, t.reverse) := by
  unfold popO
  rw [List.reverse_cons, List.getLast?_append]
  simp
theorem app_ok {α : Type} {s : List α} {x : α} (h : s.length < sizeLine) : appO s x = some (s ++ [x]) := if_pos h
theorem straight_lp : ∀ (w t : List Int), t.length + w.length ≤ sizeLine → lp (fun (s1 : (List Int)) (step2 : Int) => ((if (decide (0 < (s1.length : Int))) = true then ((idx s1 (-1)).bind fun t6 => some (decide (t6 = (-step2)))) else some false).bind fun t7 => ((if t7 = true then ((popO s1).bind fun t8 => some t8.2) else ((appO s1 step2).bind fun t9 => some t9) : Option (List Int)).bind fun s10 => some s10))) w t.reverse = some (fl t w).reverse
  | [], _, _ => rfl
  | x :: w, t, h => by
    rw [List.length_cons] at h
    have h2 := psh_len t x
    have ih := straight_lp w (psh t x) (by omega)
    unfold lp
    refine Eq.trans (congrArg (fun z => Option.bind z _) (?_ : _ = some (psh t x).reverse)) ih
    cases t with
    | nil =>
      have : appO ([] : List Int) x = some [x] := app_ok (by decide)
      simp [this, psh]
    | cons y t =>
      have hpos : decide (0 < ((y :: t).reverse.length : Int)) = true := by
        rw [List.length_reverse, List.length_cons]
        exact decide_eq_true (by omega)
      rw [hpos, if_pos rfl, last_rev]
      by_cases hy : y = -x
      · have e : psh (y :: t) x = t := if_pos hy
        simp only [Option.bind_some, hy, decide_true, if_true]
        rw [← hy, pop_rev, e]
        rfl
      · have e : psh (y :: t) x = x :: y :: t := if_neg hy
        simp only [Option.bind_some, hy, decide_false, Bool.false_eq_true, if_false]
        rw [app_ok (by rw [List.length_reverse]; omega), e]
        simp
theorem straight_ok {w : List Int} (h : w.length ≤ sizeLine) : straightM w = some (red w) := by
  unfold straightM
  rw [show ([] : List Int) = ([] : List Int).reverse from rfl, straight_lp w [] (by simpa using h)]
  rfl
theorem lcT_some {α β : Type} (f : α → β) {xs : List α} (h : xs.length < sizeLine) : lcT f xs = some (xs.map f) := if_pos h
theorem mapO_some {α β : Type} {f : α → Option β} {g : α → β} : ∀ {xs : List α}, (∀ x ∈ xs, f x = some (g x)) → mapO f xs = some (xs.map g)
  | [], _ => rfl
  | x :: xs, h => by
    unfold mapO
    rw [h x List.mem_cons_self, mapO_some (xs := xs) fun y hy => h y (List.mem_cons_of_mem _ hy)]
    rfl
theorem lcO_some {α β : Type} {f : α → Option β} (g : α → β) {xs : List α} (hl : xs.length < sizeLine) (h : ∀ x ∈ xs, f x = some (g x)) : lcO f xs = some (xs.map g) := by
  unfold lcO
  rw [if_pos hl, mapO_some h]
theorem cat_ok {α : Type} {xs ys : List α} (h : xs.length + ys.length ≤ sizeLine) : catO xs ys = some (xs ++ ys) := if_pos h
def kk : List Int → List Int → Nat
  | x :: u, y :: v => if x = -y then kk u v + 1 else 0
  | _, _ => 0
end Z
namespace Z
open PySem PySem.Spec L2
def wellM (script : (List Int)) (k_ : Int) : Option (List Int) :=
  ((if (decide (k_ < (script.length : Int))) = true then ((idx script k_).bind fun t1 => some t1) else some ((11 * k_) + 6) : Option Int).bind fun s2 => ((lcT (fun (one3 : Int) => (one3 % 1000000000000000000000000103)) script).bind fun t5 => ((some ((((((absI s2) * 8929) + (61 * t5.sum)) + (2 * k_)) + (if (decide (s2 < 0)) = true then 1 else 0)) % 10000000000000000000000000000033)).bind fun seed6 => some [(maxI 0 (s2 - 1000000000000000000)), seed6, 0])))
def takeM (w_well_here : (List Int)) (many : Int) : Option (Int × (List Int)) :=
  ((idx w_well_here 0).bind fun t1 => (if (decide (0 < t1)) = true then ((idx w_well_here 0).bind fun t2 => (modO t2 many).bind fun t3 => ((idx w_well_here 0).bind fun t4 => (fdivO t4 many).bind fun t5 => (setO w_well_here 0 t5).bind fun t6 => some (t3, t6))) else ((idx w_well_here 2).bind fun t7 => (setO w_well_here 2 (t7 + 1)).bind fun t8 => ((idx t8 1).bind fun t9 => (idx t8 2).bind fun t10 => (powO (t9 + (314159 * t10)) 3).bind fun t11 => (idx t8 2).bind fun t12 => (some ((t11 + (2718281 * t12)) % 1000000000000000000000000000000073)).bind fun mixed13 => ((mulO mixed13 (mixed13 + 40503)).bind fun t15 => (modO ((t15 % 10000000000000000000000000000000193) / 10007) many).bind fun t16 => some (t16, t8))))))
/-- three cells, of which so many draws were made at most -/
def WeOk (n : Nat) (w : List Int) : Prop := ∃ a b c : Int, w = [a, b, c] ∧ 0 ≤ a ∧ 0 ≤ b ∧ b < 2 ^ 104 ∧ 0 ≤ c ∧ c ≤ n
theorem WeOk.mono {n m : Nat} {w : List Int} (h : WeOk n w) (hm : n ≤ m) : WeOk m w := by
  obtain ⟨a, b, c, e, h1, h2, h3, h4, h5⟩ := h
  exact ⟨a, b, c, e, h1, h2, h3, h4, by omega⟩
theorem well_ok {ns : List Int} {k : Int} (hl : ns.length < sizeLine) (h0 : 0 ≤ k) : ∃ w, wellM ns k = some w ∧ WeOk 0 w := by
  unfold wellM
  have h1 : ∃ s, (if (decide (k < (ns.length : Int))) = true then ((idx ns k).bind fun t1 => some t1) else some ((11 * k) + 6) : Option Int) = some s := by
    by_cases hk : k < (ns.length : Int)
    · rw [if_pos (decide_eq_true hk)]
      have hk2 : k.toNat < ns.length := by omega
      exact ⟨ns[k.toNat], by rw [idx_of h0 (List.getElem?_eq_getElem hk2)]; rfl⟩
    · rw [if_neg (by simpa using hk)]
      exact ⟨_, rfl⟩
  obtain ⟨s, e⟩ := h1
  rw [e]
  simp only [Option.bind_some, lcT_some _ hl]
  refine ⟨_, rfl, _, _, _, rfl, ?_, Int.emod_nonneg _ (by decide), ?_, Int.le_refl 0, Int.le_refl 0⟩
  · unfold maxI
    split <;> omega
  · exact Int.lt_trans (Int.emod_lt_of_pos _ (by decide)) (by decide)
theorem pow_three {i : Int} (h0 : 0 ≤ i) (h : i < 2 ^ 200) : powO i 3 = some (i ^ 3) := by
  unfold powO
  rw [if_pos]
  · rfl
  refine ⟨by decide, ?_⟩
  have hb : Builtin.Int.intBits i ≤ 200 := by
    unfold Builtin.Int.intBits
    split
    · omega
    · have := log2_int h0 h (by decide)
      omega
  omega
theorem take_big {n : Nat} (hn : n < 2 ^ 60) {w : List Int} (h : WeOk n w) {many : Int} (h0 : 0 < many) (hbl : many.natAbs.log2 < 9000) : ∃ v w', takeM w many = some (v, w') ∧ 0 ≤ v ∧ v < many ∧ WeOk (n + 1) w' := by
  obtain ⟨a, b, c, rfl, ha, hb0, hb1, hc0, hc1⟩ := h
  unfold takeM
  have i0 : idx [a, b, c] 0 = some a := rfl
  have i2 : idx [a, b, c] 2 = some c := rfl
  have j1 : idx [a, b, c + 1] 1 = some b := rfl
  have j2 : idx [a, b, c + 1] 2 = some (c + 1) := rfl
  have m0 : setO [a, b, c] 2 (c + 1) = some [a, b, c + 1] := rfl
  have m1 : modO a many = some (a % many) := if_pos h0
  have m2 : fdivO a many = some (a / many) := if_pos ⟨h0, hbl⟩
  have m3 : setO [a, b, c] 0 (a / many) = some [a / many, b, c] := rfl
  have m4 : powO (b + (314159 * (c + 1))) 3 = some ((b + (314159 * (c + 1))) ^ 3) := pow_three (by omega) (by omega)
  simp only [i0, i2, j1, j2, m0, m1, m2, m3, m4, Option.bind_some]
  by_cases hp : 0 < a
  · rw [if_pos (decide_eq_true hp)]
    exact ⟨a % many, [a / many, b, c], rfl, Int.emod_nonneg _ (by omega), Int.emod_lt_of_pos _ h0, _, _, _, rfl, Int.ediv_nonneg ha (by omega), hb0, hb1, hc0, by omega⟩
  · rw [if_neg (by simpa using hp)]
    generalize (b + (314159 * (c + 1))) ^ 3 = t11
    have q0 : 0 ≤ (t11 + (2718281 * (c + 1))) % 1000000000000000000000000000000073 := Int.emod_nonneg _ (by decide)
    have q1 : (t11 + (2718281 * (c + 1))) % 1000000000000000000000000000000073 < 1000000000000000000000000000000073 := Int.emod_lt_of_pos _ (by decide)
    generalize (t11 + (2718281 * (c + 1))) % 1000000000000000000000000000000073 = x at q0 q1
    have m5 : mulO x (x + 40503) = some (x * (x + 40503)) := by
      refine if_pos ?_
      have e1 : x.natAbs.log2 < 110 := log2_int q0 (by omega) (by decide)
      have e2 : (x + 40503).natAbs.log2 < 111 := log2_int (by omega) (by omega) (by decide)
      omega
    have m6 : modO (((x * (x + 40503)) % 10000000000000000000000000000000193) / 10007) many = some (((x * (x + 40503)) % 10000000000000000000000000000000193) / 10007 % many) := if_pos h0
    simp only [m5, m6, Option.bind_some]
    exact ⟨_, _, rfl, Int.emod_nonneg _ (by omega), Int.emod_lt_of_pos _ h0, _, _, _, rfl, ha, hb0, hb1, by omega, by omega⟩
theorem take_ok {n : Nat} (hn : n < 2 ^ 60) {w : List Int} (h : WeOk n w) {many : Int} (h0 : 0 < many) (hb : many < 2 ^ 64) : ∃ v w', takeM w many = some (v, w') ∧ 0 ≤ v ∧ v < many ∧ WeOk (n + 1) w' :=
  take_big hn h h0 (Nat.lt_trans (log2_int (by omega) hb (by decide)) (by decide))
theorem lpR_mix {α R S : Type} {f : S → α → Option (Step R S)} (Rr : R → Prop) : ∀ {xs : List α} (P : Nat → S → Prop), (∀ (i : Nat) (x : α) (s : S), xs[i]? = some x → P i s → (∃ s', f s x = some (.go s') ∧ P (i + 1) s') ∨ ∃ r, f s x = some (.ret r) ∧ Rr r) → ∀ {s0 : S}, P 0 s0 →
    (∃ s', lpR f xs s0 = some (.inr s') ∧ P xs.length s') ∨ ∃ r, lpR f xs s0 = some (.inl r) ∧ Rr r
  | [], P, _, s0, h0 => .inl ⟨s0, rfl, h0⟩
  | x :: xs, P, h, s0, h0 => by
    rcases h 0 x s0 rfl h0 with ⟨s1, e, h1⟩ | ⟨r, e, hr⟩
    · rcases lpR_mix Rr (xs := xs) (fun i => P (i + 1)) (fun i y s hy hs => h (i + 1) y s (by simpa using hy) hs) h1 with ⟨s2, e2, h2⟩ | ⟨r, e2, hr⟩
      · exact .inl ⟨s2, by unfold lpR; rw [e]; exact e2, h2⟩
      · exact .inr ⟨r, by unfold lpR; rw [e]; exact e2, hr⟩
    · exact .inr ⟨r, by unfold lpR; rw [e]; rfl, hr⟩
theorem rng_len (a b : Int) : (range' a b).length = (b - a).toNat := by
  unfold range'
  rw [List.length_map, List.length_range]
def Sok (L x : Int) : Prop := x ≠ 0 ∧ -L ≤ x ∧ x ≤ L
theorem Sok.mono {L M x : Int} (h : Sok L x) (hm : L ≤ M) : Sok M x := ⟨h.1, by have := h.2.1; omega, by have := h.2.2; omega⟩
theorem Sok.neg {L x : Int} (h : Sok L x) : Sok L (-x) := ⟨by have := h.1; omega, by have := h.2.2; omega, by have := h.2.1; omega⟩
end Z
namespace Z
open PySem PySem.Spec L2
theorem bindS {α β : Type} {m : Option α} {k : α → Option β} {a : α} {r : Option β} (h : m = some a) (h2 : k a = r) : m.bind k = r := by
  rw [h]
  exact h2
/-- three cells, of which so many draws were made at most -/
def WeC (n : Nat) (w : List Int) : Prop := ∃ a b c : Int, w = [a, b, c] ∧ 0 ≤ a ∧ 0 ≤ b ∧ b < 2 ^ 140 ∧ 0 ≤ c ∧ c ≤ n
theorem WeC.mono {n m : Nat} {w : List Int} (h : WeC n w) (hm : n ≤ m) : WeC m w := by
  obtain ⟨a, b, c, e, h1, h2, h3, h4, h5⟩ := h
  exact ⟨a, b, c, e, h1, h2, h3, h4, by omega⟩
theorem listText_le (ts : List Str) : (listText ts).length ≤ piled ts + 2 := by
  cases ts with
  | nil => decide
  | cons t r =>
    have h := textFrom_length_pos r 1 (("[" : Str) ++ (if (0 : Nat) > 0 then ", " else "" : String) ++ t) (Nat.succ_pos 0)
    have e : ((("[" : Str) ++ (if (0 : Nat) > 0 then ", " else "" : String) ++ t)).length = 1 + t.length := by
      rw [strLen_append, strLen_append]; rfl
    have hX : (listText (t :: r)).length = (textFrom 0 "[" (t :: r)).length + 1 := by
      show (textFrom 0 "[" (t :: r) ++ "]").length = _
      rw [strLen_append]; rfl
    have hY : (textFrom 0 "[" (t :: r)).length = (textFrom 1 (("[" : Str) ++ (if (0 : Nat) > 0 then ", " else "" : String) ++ t) r).length := rfl
    rw [hX, hY, h, e, piled_cons]; omega
theorem tupleText_le (ts : List Str) : (tupleText ts).length ≤ piled ts + 3 := by
  unfold tupleText
  rw [strLen_append, strLen_append]
  have e1 : ((("(" : String) : Str)).length = 1 := rfl
  have e3 : (((if ts.length == 1 then ",)" else ")" : String) : Str)).length ≤ 2 := by split <;> decide
  rw [e1]
  by_cases h : ts = []
  · subst h
    have : (Str.join ", " ([] : List Str)).length = 0 := rfl
    omega
  · have := join_length_add ts h
    omega
/-- what a datum needs so that its text can be asked for: no deeper than k, no longer than n -/
def Txt (k n : Nat) (d : PyData) : Prop := d.showable = true ∧ d.hasDict = false ∧ d.depth ≤ k ∧ d.shown.length ≤ n
theorem Txt.mono {k n k' n' : Nat} {d : PyData} (h : Txt k n d) (hk : k ≤ k') (hn : n ≤ n') : Txt k' n' d := ⟨h.1, h.2.1, Nat.le_trans h.2.2.1 hk, Nat.le_trans h.2.2.2 hn⟩
theorem Txt.repr {k n : Nat} {d : PyData} (h : Txt k n d) (hk : k ≤ 60) (hn : n ≤ sizeLine) : reprO d = some d.shown := if_pos ⟨h.1, h.2.1, Nat.le_trans h.2.2.1 hk, by
  unfold shortO
  rw [decide_eq_true (Nat.le_trans h.2.2.2 hn), Bool.or_true]⟩
theorem txt_int {i : Int} {k : Nat} (hk : 0 < k) (hk2 : k ≤ 1900) (h : i.natAbs < 2 ^ k) : Txt 0 (k + 1) (.int i) := by
  have hl := log2_small h hk
  refine ⟨by simp only [PyData.showable]; exact decide_eq_true (by omega), by simp only [PyData.hasDict], by simp only [PyData.depth]; omega, ?_⟩
  simp only [PyData.shown]
  have := int_text_length_le hk hl
  show (Str.ofString (toString i)).length ≤ k + 1
  rw [ofString_length]
  exact this
theorem txt_all {k n : Nat} : ∀ {ds : List PyData}, (∀ d ∈ ds, Txt k n d) → PyData.showableAll ds = true ∧ PyData.hasDictAll ds = false ∧ PyData.depthAll ds ≤ k ∧ piled (PyData.shownAll ds) ≤ ds.length * (n + 2)
  | [], _ => ⟨by simp only [PyData.showableAll], by simp only [PyData.hasDictAll], by simp only [PyData.depthAll]; omega, by simp [PyData.shownAll, piled]⟩
  | d :: ds, h => by
    obtain ⟨a1, a2, a3, a4⟩ := h d List.mem_cons_self
    obtain ⟨b1, b2, b3, b4⟩ := txt_all fun x hx => h x (List.mem_cons_of_mem _ hx)
    refine ⟨by simp only [PyData.showableAll, a1, b1, Bool.and_self], by simp only [PyData.hasDictAll, a2, b2, Bool.or_self], by simp only [PyData.depthAll]; omega, ?_⟩
    simp only [PyData.shownAll]
    rw [piled_cons, List.length_cons, Nat.add_mul]
    omega
theorem txt_list {k n : Nat} {ds : List PyData} (h : ∀ d ∈ ds, Txt k n d) : Txt (k + 1) (ds.length * (n + 2) + 2) (.list ds) := by
  obtain ⟨b1, b2, b3, b4⟩ := txt_all h
  refine ⟨by simp only [PyData.showable, b1], by simp only [PyData.hasDict, b2], by simp only [PyData.depth]; omega, ?_⟩
  simp only [PyData.shown]
  have := listText_le (PyData.shownAll ds)
  omega
theorem txt_tup {k n : Nat} {ds : List PyData} (h : ∀ d ∈ ds, Txt k n d) : Txt (k + 1) (ds.length * (n + 2) + 3) (.tuple ds) := by
  obtain ⟨b1, b2, b3, b4⟩ := txt_all h
  refine ⟨by simp only [PyData.showable, b1], by simp only [PyData.hasDict, b2], by simp only [PyData.depth]; omega, ?_⟩
  simp only [PyData.shown]
  have := tupleText_le (PyData.shownAll ds)
  omega
end Z
namespace Z
open PySem PySem.Spec L2
def Q_steps_of (letters : Int) : Option (List Int) :=
  ((rngO 1 (letters + 1)).bind fun t1 => ((lp (fun (s2 : (List Int)) (letter3 : Int) => ((catO (α := Int) s2 ([letter3, (-letter3)])).bind fun t7 => some t7)) t1 ([] : (List Int))).bind fun f4 => some f4))
def Q_is_integer (value : Int) : Option Bool :=
  some (true && true)
def Q_is_letters (value : Int) : Option Bool :=
  ((Q_is_integer value).bind fun t1 => some (t1 && (decide (1 ≤ value) && decide (value ≤ 4))))
def Q_need_number (number : Int) (low : Int) (high : Unit) : Option Unit :=
  (if ((decide (number < low)) || false) = true then none else some ())
theorem sizeL : sizeLine = 16777216 := by decide
/-- three cells, of which so many draws were made at most -/
def Pot (n : Nat) (w : List Int) : Prop := ∃ a b c : Int, w = [a, b, c] ∧ 0 ≤ a ∧ 0 ≤ b ∧ b < 2 ^ 100 ∧ 0 ≤ c ∧ c ≤ n
theorem Pot.mono {n m : Nat} {w : List Int} (h : Pot n w) (hm : n ≤ m) : Pot m w := by
  obtain ⟨a, b, c, e, h1, h2, h3, h4, h5⟩ := h
  exact ⟨a, b, c, e, h1, h2, h3, h4, by omega⟩
def stL (L : Int) : List Int := (range' 1 (L + 1)).flatMap fun l => [l, -l]
theorem four {P : Int → Prop} {L : Int} (h1 : 1 ≤ L) (h4 : L ≤ 4) (a : P 1) (b : P 2) (c : P 3) (d : P 4) : P L := by
  have : L = 1 ∨ L = 2 ∨ L = 3 ∨ L = 4 := by omega
  rcases this with rfl | rfl | rfl | rfl <;> assumption
theorem mem_stL {L s : Int} : s ∈ stL L ↔ Sok L s := by
  unfold stL Sok
  rw [List.mem_flatMap]
  constructor
  · rintro ⟨l, hl, hs⟩
    have := mem_rng hl
    simp only [List.mem_cons, List.not_mem_nil, or_false] at hs
    omega
  · intro h
    refine ⟨(s.natAbs : Int), ?_, ?_⟩
    · unfold range'
      refine List.mem_map.mpr ⟨s.natAbs - 1, List.mem_range.mpr (by omega), by omega⟩
    · simp only [List.mem_cons, List.not_mem_nil, or_false]
      omega
theorem nodup_le {α : Type} [DecidableEq α] : ∀ (l k : List α), l.Nodup → (∀ x ∈ l, x ∈ k) → l.length ≤ k.length
  | [], _, _, _ => Nat.zero_le _
  | x :: l, k, h, hs => by
    have hx := hs x List.mem_cons_self
    have h2 := List.nodup_cons.mp h
    have := nodup_le l (k.erase x) h2.2 (fun y hy => (List.mem_erase_of_ne (fun e => h2.1 (by rw [← e]; exact hy))).mpr (hs y (List.mem_cons_of_mem _ hy)))
    rw [List.length_erase_of_mem hx] at this
    have := List.length_pos_of_mem hx
    rw [List.length_cons]
    omega
section
variable {κ β : Type} [DecidableEq κ]
theorem dGet_nil (k : κ) : dGet ([] : List (κ × β)) k = none := rfl
theorem dGet_cons (p : κ × β) (d : List (κ × β)) (k : κ) : dGet (p :: d) k = if p.1 = k then some p.2 else dGet d k := by
  unfold dGet
  rw [List.find?_cons]
  by_cases h : p.1 = k
  · simp [h]
  · simp [h]
theorem dGet_mem : ∀ {d : List (κ × β)} {k : κ} {v : β}, dGet d k = some v → (k, v) ∈ d
  | [], _, _, h => by cases h
  | p :: d, k, v, h => by
    rw [dGet_cons] at h
    by_cases e : p.1 = k
    · rw [if_pos e] at h
      cases h
      subst e
      exact List.mem_cons_self
    · rw [if_neg e] at h
      exact List.mem_cons_of_mem _ (dGet_mem h)
theorem mem_dGet : ∀ {d : List (κ × β)} {k : κ} {v : β}, (d.map Prod.fst).Nodup → (k, v) ∈ d → dGet d k = some v
  | [], _, _, _, h => by cases h
  | p :: d, k, v, hn, h => by
    rw [dGet_cons]
    rw [List.map_cons, List.nodup_cons] at hn
    rcases List.mem_cons.mp h with h | h
    · subst h
      rw [if_pos rfl]
    · rw [if_neg (fun e => hn.1 (by rw [e]; exact List.mem_map.mpr ⟨_, h, rfl⟩))]
      exact mem_dGet hn.2 h
theorem dGet_key_mem {d : List (κ × β)} {k : κ} : (dGet d k).isSome = true ↔ k ∈ d.map Prod.fst := by
  constructor
  · intro h
    obtain ⟨v, hv⟩ := Option.isSome_iff_exists.mp h
    exact List.mem_map.mpr ⟨_, dGet_mem hv, rfl⟩
  · intro h
    induction d with
    | nil => cases h
    | cons p d ih =>
      rw [dGet_cons]
      by_cases e : p.1 = k
      · rw [if_pos e]; rfl
      · rw [if_neg e]
        rw [List.map_cons] at h
        rcases List.mem_cons.mp h with h | h
        · exact absurd h.symm e
        · exact ih h
theorem dGet_set (k : κ) (v : β) (k' : κ) : ∀ d : List (κ × β), dGet (d.map fun kv => if kv.1 = k then (kv.1, v) else kv) k' = if k = k' then (dGet d k).map (fun _ => v) else dGet d k'
  | [] => by by_cases h : k = k' <;> simp [h, dGet_nil]
  | p :: d => by
    rw [List.map_cons, dGet_cons, dGet_set k v k' d, dGet_cons, dGet_cons]
    by_cases h1 : p.1 = k
    · by_cases h2 : k = k'
      · subst h2; simp [h1]
      · have h3 : ¬ p.1 = k' := fun e => h2 (h1.symm.trans e)
        simp [h1, h2]
    · by_cases h2 : k = k'
      · subst h2; simp [h1]
      · simp [h1, h2]
theorem dGet_snoc (k : κ) (v : β) (k' : κ) : ∀ d : List (κ × β), dGet (d ++ [(k, v)]) k' = (dGet d k').or (if k = k' then some v else none)
  | [] => by rw [List.nil_append, dGet_cons]; rfl
  | p :: d => by
    rw [List.cons_append, dGet_cons, dGet_cons, dGet_snoc k v k' d]
    by_cases h : p.1 = k' <;> simp [h]
theorem any_key (d : List (κ × β)) (k : κ) : (d.any fun kv => decide (kv.1 = k)) = (dGet d k).isSome := by
  induction d with
  | nil => rfl
  | cons p d ih =>
    rw [List.any_cons, dGet_cons, ih]
    by_cases h : p.1 = k <;> simp [h]
theorem dGet_put (d : List (κ × β)) (k : κ) (v : β) (k' : κ) : dGet (dPut d k v) k' = if k = k' then some v else dGet d k' := by
  unfold dPut
  rw [any_key]
  by_cases h : (dGet d k).isSome = true
  · rw [if_pos h, dGet_set]
    obtain ⟨w, hw⟩ := Option.isSome_iff_exists.mp h
    rw [hw]
    rfl
  · rw [if_neg h, dGet_snoc]
    by_cases e : k = k'
    · subst e
      have : dGet d k = none := by simpa using h
      simp [this]
    · simp [e]
theorem dPut_keys (d : List (κ × β)) (k : κ) (v : β) : (dPut d k v).map Prod.fst = if (dGet d k).isSome = true then d.map Prod.fst else d.map Prod.fst ++ [k] := by
  unfold dPut
  rw [any_key]
  by_cases h : (dGet d k).isSome = true
  · rw [if_pos h, if_pos h, List.map_map]
    refine List.map_congr_left fun p _ => ?_
    show (if p.1 = k then (p.1, v) else p).1 = p.1
    split <;> rfl
  · rw [if_neg h, if_neg h, List.map_append]
    rfl
theorem dPut_nd {d : List (κ × β)} (h : (d.map Prod.fst).Nodup) (k : κ) (v : β) : ((dPut d k v).map Prod.fst).Nodup := by
  rw [dPut_keys]
  split
  · exact h
  · rename_i hn
    rw [List.nodup_append]
    refine ⟨h, by simp, fun a ha b hb => ?_⟩
    rw [List.mem_singleton.mp hb]
    exact fun e => hn (dGet_key_mem.mpr (e ▸ ha))
theorem putO_ok {d : List (κ × β)} {k : κ} {v : β} (h : d.length < sizeLine) : dPutO d k v = some (dPut d k v) := if_pos h
end
abbrev Dd := List (List (Int × Int))
def row (D : Dd) (a : Int) : List (Int × Int) := D.getD a.toNat []
def go (D : Dd) (a s : Int) : Option Int := dGet (row D a) s
theorem getD_set' {α : Type} (l : List α) (i j : Nat) (x d : α) (h : i < l.length) : (l.set i x).getD j d = if i = j then x else l.getD j d := by
  rw [List.getD_eq_getElem?_getD, List.getElem?_set, List.getD_eq_getElem?_getD]
  by_cases e : i = j
  · rw [if_pos e, if_pos e, if_pos h]; rfl
  · rw [if_neg e, if_neg e]
theorem setI_nn {α : Type} {xs : List α} {a : Int} (h0 : 0 ≤ a) (h : a < xs.length) (x : α) : setI xs a x = xs.set a.toNat x := by
  unfold setI ixD ixN
  rw [if_pos h0, if_pos (by omega)]
  rfl
theorem row_set {D : Dd} {a b : Int} (h0 : 0 ≤ a) (h : a < D.length) (hb : 0 ≤ b) (d : List (Int × Int)) : row (setI D a d) b = if a = b then d else row D b := by
  unfold row
  rw [setI_nn h0 h, getD_set' _ _ _ _ _ (by omega)]
  by_cases e : a = b
  · rw [if_pos e, if_pos (by omega)]
  · rw [if_neg e, if_neg (by omega)]
theorem row_mem {D : Dd} {a : Int} (h0 : 0 ≤ a) (h : a < D.length) : row D a ∈ D := by
  have hl : a.toNat < D.length := by omega
  unfold row
  rw [List.getD_eq_getElem?_getD, List.getElem?_eq_getElem hl]
  exact List.getElem_mem hl
def putD (D : Dd) (a s b : Int) : Dd := setI (setI D a (dPut (row D a) s b)) b (dPut (row (setI D a (dPut (row D a) s b)) b) (-s) a)
theorem putD_len (D : Dd) (a s b : Int) : (putD D a s b).length = D.length := by unfold putD; rw [setI_len, setI_len]
section
variable {D : Dd} {a b s : Int} (a0 : 0 ≤ a) (a1 : a < D.length) (b0 : 0 ≤ b) (b1 : b < D.length) (hs : s ≠ 0)
include a0 a1 b0 b1 hs
theorem go_put {x : Int} (hx : 0 ≤ x) (t : Int) : go (putD D a s b) x t = if x = b ∧ t = -s then some a else if x = a ∧ t = s then some b else go D x t := by
  unfold go putD
  rw [row_set b0 (by rw [setI_len]; exact b1) hx]
  by_cases hb : b = x
  · subst hb
    rw [if_pos rfl, dGet_put]
    by_cases ht : -s = t
    · rw [if_pos ht, if_pos ⟨rfl, ht.symm⟩]
    · rw [if_neg ht, if_neg (fun z => ht z.2.symm), row_set a0 a1 b0]
      by_cases ha : a = b
      · subst ha
        rw [if_pos rfl, dGet_put]
        by_cases e : s = t
        · rw [if_pos e, if_pos ⟨rfl, e.symm⟩]
        · rw [if_neg e, if_neg (fun z => e z.2.symm)]
      · rw [if_neg ha, if_neg (fun z => ha z.1.symm)]
  · rw [if_neg hb, if_neg (fun z => hb z.1.symm), row_set a0 a1 hx]
    by_cases ha : a = x
    · subst ha
      rw [if_pos rfl, dGet_put]
      by_cases e : s = t
      · rw [if_pos e, if_pos ⟨rfl, e.symm⟩]
      · rw [if_neg e, if_neg (fun z => e z.2.symm)]
    · rw [if_neg ha, if_neg (fun z => ha z.1.symm)]
end
/-- doors that lead there and back -/
structure Dr (L : Int) (n : Nat) (D : Dd) : Prop where
  len : D.length = n
  nd : ∀ d ∈ D, (d.map Prod.fst).Nodup
  ok : ∀ a s b, 0 ≤ a → go D a s = some b → 0 ≤ b ∧ b < n ∧ Sok L s ∧ go D b (-s) = some a
theorem Dr.nil (L : Int) (n : Nat) {D : Dd} (h : D = List.replicate n []) : Dr L n D := by
  subst h
  refine ⟨List.length_replicate, fun d hd => ?_, fun a s b h0 h => ?_⟩
  · rw [(List.mem_replicate.mp hd).2]
    simp
  · have hr : row (List.replicate n []) a = [] := by
      unfold row
      rw [List.getD_eq_getElem?_getD, List.getElem?_replicate]
      split <;> rfl
    unfold go at h
    rw [hr] at h
    cases h
theorem Dr.put {L : Int} {n : Nat} {D : Dd} (h : Dr L n D) {a s b : Int} (a0 : 0 ≤ a) (a1 : a < n) (b0 : 0 ≤ b) (b1 : b < n) (hs : Sok L s) (f1 : go D a s = none) (f2 : go D b (-s) = none) : Dr L n (putD D a s b) := by
  have a1' : a < D.length := by rw [h.len]; exact a1
  have b1' : b < D.length := by rw [h.len]; exact b1
  have hz := hs.1
  refine ⟨by rw [putD_len]; exact h.len, fun d hd => ?_, fun x t y hx hy => ?_⟩
  · unfold putD at hd
    rcases List.mem_or_eq_of_mem_set hd with hd | rfl
    · rcases List.mem_or_eq_of_mem_set hd with hd | rfl
      · exact h.nd d hd
      · exact dPut_nd (h.nd _ (row_mem a0 a1')) _ _
    · refine dPut_nd ?_ _ _
      rw [row_set a0 a1' b0]
      split
      · exact dPut_nd (h.nd _ (row_mem a0 a1')) _ _
      · exact h.nd _ (row_mem b0 b1')
  · rw [go_put a0 a1' b0 b1' hz hx] at hy
    by_cases e1 : x = b ∧ t = -s
    · rw [if_pos e1] at hy
      cases hy
      refine ⟨a0, a1, by rw [e1.2]; exact hs.neg, ?_⟩
      rw [go_put a0 a1' b0 b1' hz a0, if_neg (fun z => by omega), if_pos ⟨rfl, by omega⟩, e1.1]
    · rw [if_neg e1] at hy
      by_cases e2 : x = a ∧ t = s
      · rw [if_pos e2] at hy
        cases hy
        refine ⟨b0, b1, by rw [e2.2]; exact hs, ?_⟩
        rw [go_put a0 a1' b0 b1' hz b0, if_pos ⟨rfl, by omega⟩, e2.1]
      · rw [if_neg e2] at hy
        obtain ⟨y0, y1, ht, hb⟩ := h.ok x t y hx hy
        refine ⟨y0, y1, ht, ?_⟩
        rw [go_put a0 a1' b0 b1' hz y0, if_neg, if_neg]
        · exact hb
        · rintro ⟨rfl, e⟩
          rw [e, f1] at hb
          cases hb
        · rintro ⟨rfl, e⟩
          rw [e, f2] at hb
          cases hb
end Z
namespace Z
open PySem PySem.Spec L2
theorem mapG_some {α β : Type} {f : α → Option (Option β)} {g : α → Option β} : ∀ {xs : List α}, (∀ x ∈ xs, f x = some (g x)) → mapG f xs = some (xs.filterMap g)
  | [], _ => rfl
  | x :: xs, h => by
    unfold mapG
    rw [h x List.mem_cons_self, mapG_some fun y hy => h y (List.mem_cons_of_mem _ hy)]
    cases hg : g x <;> simp [hg]
theorem lcG_some {α β : Type} {f : α → Option (Option β)} (g : α → Option β) {xs : List α} (hl : xs.length < sizeLine) (h : ∀ x ∈ xs, f x = some (g x)) : lcG f xs = some (xs.filterMap g) := by
  unfold lcG
  rw [if_pos hl]
  exact mapG_some h
end Z
namespace Z
open PySem PySem.Spec L2
/-- ways laid there and back -/
def WyR (L c : Int) (W : List (Tri Int Int Int)) : Prop := ∀ t ∈ W, 0 ≤ t.a ∧ t.a < c ∧ 0 ≤ t.c ∧ t.c < c ∧ Sok L t.b ∧ Tri.mk t.c (-t.b) t.a ∈ W
theorem WyR.mono {L c d : Int} {W : List (Tri Int Int Int)} (h : WyR L c W) (hc : c ≤ d) : WyR L d W := fun t ht => by
  obtain ⟨a, b, e, f, g, i⟩ := h t ht
  exact ⟨a, by omega, e, by omega, g, i⟩
end Z
namespace Z
open PySem PySem.Spec L2
def vis (o : List Int) (g : Int) : List Int := if g ∈ o then o else o ++ [g]
end Z
namespace Z
open PySem PySem.Spec L2
def cell (rows : List (List Int)) (a l : Int) : Int := (rows.getD a.toNat []).getD l.toNat (-1)
theorem cell_out {rows : List (List Int)} {a l : Int} (h : rows.length ≤ a.toNat ∨ ∀ r, rows[a.toNat]? = some r → r.length ≤ l.toNat) : cell rows a l = -1 := by
  unfold cell
  rw [List.getD_eq_getElem?_getD, List.getD_eq_getElem?_getD]
  rcases h with h | h
  · rw [List.getElem?_eq_none_iff.mpr h]
    rfl
  · cases e : rows[a.toNat]? with
    | none => rfl
    | some r =>
      show (r[l.toNat]?).getD (-1) = -1
      rw [List.getElem?_eq_none_iff.mpr (h r e)]
      rfl
/-- rows in their bounds -/
structure Reg (L : Int) (rows : List (List Int)) : Prop where
  l1 : 1 ≤ L
  l4 : L ≤ 4
  rl : ∀ r ∈ rows, r.length = L.toNat
  rb : ∀ r ∈ rows, ∀ x ∈ r, -1 ≤ x ∧ x < rows.length
  one : ∀ a b l k : Int, 0 ≤ a → 0 ≤ b → 0 ≤ k → cell rows a l = k → cell rows b l = k → a = b
structure Lay (L : Int) (rows : List (List Int)) (r c : Nat) (D : Dd) : Prop where
  dr : Dr L rows.length D
  rep : ∀ x l y, 0 ≤ x → 0 < l → (go D x l = some y ↔ 0 ≤ y ∧ cell rows x (l - 1) = y ∧ (x < r ∨ (x = r ∧ l - 1 < c)))
theorem Lay.row {L : Int} {rows : List (List Int)} (R : Reg L rows) {r : Nat} {D : Dd} (h : Lay L rows r L.toNat D) : Lay L rows (r + 1) 0 D := by
  refine ⟨h.dr, fun x l y hx hl => ?_⟩
  rw [h.rep x l y hx hl]
  constructor
  · rintro ⟨z1, z2, z3⟩; exact ⟨z1, z2, by omega⟩
  · rintro ⟨z1, z2, z3⟩
    refine ⟨z1, z2, ?_⟩
    by_cases e : l - 1 < L.toNat
    · omega
    · have : cell rows x (l - 1) = -1 := cell_out (.inr fun r' hr' => by rw [R.rl r' (List.mem_of_getElem? hr')]; omega)
      omega
theorem Lay.all {L : Int} {rows : List (List Int)} {D : Dd} (h : Lay L rows rows.length 0 D) (x l y : Int) (hx : 0 ≤ x) (hl : 0 < l) : go D x l = some y ↔ 0 ≤ y ∧ cell rows x (l - 1) = y := by
  rw [h.rep x l y hx hl]
  constructor
  · rintro ⟨z1, z2, _⟩; exact ⟨z1, z2⟩
  · rintro ⟨z1, z2⟩
    refine ⟨z1, z2, ?_⟩
    by_cases e : x < rows.length
    · exact .inl e
    · have : cell rows x (l - 1) = -1 := cell_out (.inl (by omega))
      omega
theorem Lay.nil {L : Int} {rows : List (List Int)} : Lay L rows 0 0 (List.replicate rows.length []) := by
  have hd := Dr.nil L rows.length (D := List.replicate rows.length []) rfl
  refine ⟨hd, fun x l y hx hl => ?_⟩
  have hr : Z.row (List.replicate rows.length []) x = [] := by
    unfold Z.row
    rw [List.getD_eq_getElem?_getD, List.getElem?_replicate]
    split <;> rfl
  unfold go
  rw [hr]
  constructor
  · intro z; cases z
  · rintro ⟨_, _, z⟩; omega
/-- what doors_of and the law's doors have of rows -/
def Rep (L : Int) (rows : List (List Int)) (D : Dd) : Prop := Dr L rows.length D ∧ ∀ x l y : Int, 0 ≤ x → 0 < l → (go D x l = some y ↔ 0 ≤ y ∧ cell rows x (l - 1) = y)
end Z
namespace Z
open PySem PySem.Spec L2
end Z
namespace Z
open PySem PySem.Spec L2
end Z
namespace Z
open PySem PySem.Spec L2
theorem Dr.keys {L : Int} {n : Nat} {D : Dd} (h : Dr L n D) {a : Int} (a0 : 0 ≤ a) : ∀ k ∈ (row D a).map Prod.fst, k ∈ stL L := fun k hk => by
  obtain ⟨v, hv⟩ := Option.isSome_iff_exists.mp (dGet_key_mem.mpr hk)
  exact mem_stL.mpr (h.ok a k v a0 hv).2.2.1
theorem dcS_fresh {α κ β : Type} [DecidableEq κ] {m : α → Option (Option (κ × β))} {k : α → κ} {f : α → β} : ∀ {xs : List α} {w : List (κ × β)}, (∀ x ∈ xs, m x = some (some (k x, f x))) → (xs.map k).Nodup → (∀ x ∈ xs, (dGet w (k x)).isSome = false) → dcS m xs w = some (w ++ xs.map fun x => (k x, f x))
  | [], w, _, _, _ => by show some w = some (w ++ []); rw [List.append_nil]
  | x :: xs, w, hm, hn, hw => by
    rw [List.map_cons, List.nodup_cons] at hn
    unfold dcS
    rw [hm x List.mem_cons_self]
    show dcS m xs (dPut w (k x) (f x)) = _
    have hf := hw x List.mem_cons_self
    have hp : dPut w (k x) (f x) = w ++ [(k x, f x)] := by
      unfold dPut
      rw [any_key, if_neg (by rw [hf]; exact Bool.false_ne_true)]
    rw [dcS_fresh (fun y hy => hm y (List.mem_cons_of_mem _ hy)) hn.2 (fun y hy => ?_), hp, List.append_assoc]
    · rfl
    · rw [dGet_put, if_neg (fun z => hn.1 (by rw [z]; exact List.mem_map.mpr ⟨y, hy, rfl⟩))]
      exact hw y (List.mem_cons_of_mem _ hy)
theorem pairs_len {α β : Type} (E : List β) : ∀ l : List α, (l.flatMap fun b => E.map fun e => (b, e)).length = l.length * E.length
  | [] => by simp
  | x :: l => by
    rw [List.flatMap_cons, List.length_append, List.length_map, pairs_len E l, List.length_cons, Nat.add_mul, Nat.one_mul]
    omega
/-- the places of such a table -/
def PlOk (n : Nat) (w : List ((Int × Int) × Int)) : Prop := (w.map Prod.fst).Nodup ∧ ∀ k ∈ w.map Prod.fst, 0 ≤ k.1 ∧ k.1 < n ∧ -4 ≤ k.2 ∧ k.2 ≤ 4
theorem PlOk.len {n : Nat} {w : List ((Int × Int) × Int)} (h : PlOk n w) : w.length ≤ n * 9 := by
  have := nodup_le (w.map Prod.fst) ((range' 0 (n : Int)).flatMap fun b => [0, 1, -1, 2, -2, 3, -3, 4, (-4 : Int)].map fun e => (b, e)) h.1 fun k hk => by
    obtain ⟨h1, h2, h3, h4⟩ := h.2 k hk
    refine List.mem_flatMap.mpr ⟨k.1, ?_, List.mem_map.mpr ⟨k.2, ?_, rfl⟩⟩
    · unfold range'
      exact List.mem_map.mpr ⟨k.1.toNat, List.mem_range.mpr (by omega), by omega⟩
    · simp only [List.mem_cons, List.not_mem_nil, or_false]
      omega
  rw [List.length_map, pairs_len, rng_len] at this
  simp only [List.length_cons, List.length_nil] at this
  omega
theorem PlOk.put {n : Nat} {w : List ((Int × Int) × Int)} (h : PlOk n w) {k : Int × Int} (v : Int) (hk : 0 ≤ k.1 ∧ k.1 < n ∧ -4 ≤ k.2 ∧ k.2 ≤ 4) : PlOk n (dPut w k v) := by
  refine ⟨dPut_nd h.1 k v, fun x hx => ?_⟩
  rw [dPut_keys] at hx
  split at hx
  · exact h.2 x hx
  · rcases List.mem_append.mp hx with hx | hx
    · exact h.2 x hx
    · rw [List.mem_singleton.mp hx]; exact hk
end Z
namespace Z
open PySem PySem.Spec L2
end Z
namespace Z
open PySem PySem.Spec L2
def Q_straightened (walk : (List Int)) : Option (List Int) :=
  ((lp (fun (s1 : (List Int)) (step2 : Int) => ((if (decide (0 < (s1.length : Int))) = true then ((idx s1 (-1)).bind fun t6 => some (decide (t6 = (-step2)))) else some false).bind fun t7 => ((if t7 = true then ((popO s1).bind fun t8 => some t8.2) else ((appO s1 step2).bind fun t9 => some t9) : Option (List Int)).bind fun s10 => some s10))) walk ([] : (List Int))).bind fun f3 => some f3)
def Q_is_step (value : Int) (letters : Int) : Option Bool :=
  ((Q_is_integer value).bind fun t1 => some (t1 && (decide (1 ≤ (absI value)) && decide ((absI value) ≤ letters))))
def Q_is_a_walk (value : (List Int)) (letters : Int) : Option Bool :=
  ((if true = true then ((lcO (β := Bool) (fun (step1 : Int) => ((Q_is_step step1 letters).bind fun t3 => some t3)) value).bind fun t4 => some (t4.all id)) else some false).bind fun t5 => some t5)
def Q_need_walk (walk : (List Int)) (letters : Int) : Option Unit :=
  ((Q_is_a_walk walk letters).bind fun t1 => (if (!t1) = true then none else some ()))
/-- the steps that may be gone, in their order, and whither -/
def ext (L : Int) (D : Dd) (a s : Int) : List (Int × Int) := (stL L).filterMap fun t => if t = -s then none else (go D a t).map fun b => (t, b)
end Z
namespace Z
open PySem PySem.Spec L2
end Z
namespace Z
open PySem PySem.Spec L2
theorem straightW_ok {w : List Int} (h : w.length ≤ 100000) : Q_straightened w = some (red w) := straight_ok (by rw [sizeL]; omega)
theorem stepW_ok {L x : Int} (h : Sok L x) : Q_is_step x L = some true := by
  have a : 1 ≤ absI x ∧ absI x ≤ L := by
    obtain ⟨h1, h2, h3⟩ := h
    unfold absI
    split <;> constructor <;> omega
  unfold Q_is_step Q_is_integer
  simp [a.1, a.2]
theorem walkW_ok {L : Int} {w : List Int} (h : ∀ x ∈ w, Sok L x) (hn : w.length ≤ 100000) : Q_need_walk w L = some () := by
  unfold Q_need_walk
  refine bindS (a := true) ?_ (if_neg (by simp))
  unfold Q_is_a_walk
  rw [if_pos rfl, lcO_some (fun _ => true) (by rw [sizeL]; omega) (fun x hx => by rw [stepW_ok (h x hx)]; rfl)]
  simp
end Z
namespace Z
open PySem PySem.Spec L2
end Z
namespace Z
open PySem PySem.Spec L2
theorem rng_at {a b x : Int} {i : Nat} (h : (range' a b)[i]? = some x) : x = a + i ∧ i < (b - a).toNat := by
  have hl := (List.getElem?_eq_some_iff.mp h).1
  rw [rng_len] at hl
  unfold range' at h
  rw [List.getElem?_map, List.getElem?_range hl] at h
  exact ⟨(Option.some.inj h).symm, hl⟩
def rep (w : List Int) (m : Nat) : List Int := (List.replicate m w).flatten
def pr (P : List Int) (i : Int) : Int := P.getD (i % (P.length : Int)).toNat 0
def dn (P : List Int) (b : Int) (n : Nat) : List Int := (List.range n).map fun (i : Nat) => pr P (b + (i : Int))
end Z
namespace Z
open PySem PySem.Spec L2
end Z
namespace Z
open PySem PySem.Spec L2
abbrev Pc := Int × List Int
def stp (D : Dd) (p : Pc) (x : Int) : Pc := match p.2 with
  | y :: s => if y = -x then (p.1, s) else (p.1, x :: y :: s)
  | [] => match go D p.1 x with
    | some b => (b, [])
    | none => (p.1, [x])
def act (D : Dd) (p : Pc) (w : List Int) : Pc := w.foldl (stp D) p
end Z
namespace Z
open PySem PySem.Spec L2
def wpw (m : List Int) (t : Int) : List Int := if 0 ≤ t then rep m t.toNat else rep (iv m) (-t).toNat
def orb (D : Dd) (p : Pc) (m : List Int) (t : Int) : Pc := act D p (wpw m t)
end Z
namespace Z
open PySem PySem.Spec L2
def pk (p : Pc) : Int × List Int := (p.1, p.2.reverse)
end Z
namespace Z
open PySem PySem.Spec L2
/-- what is told of the numbers of times -/
def ExpT (D : Dd) (b g : Pc) (m : List Int) (n : Nat) (r : Option (Int × Int)) : Prop :=
  (r = none ∧ ∀ t, orb D b m t ≠ g) ∨
  (∃ t, r = some (t, 0) ∧ (∀ i, orb D b m i = g ↔ i = t) ∧ t.natAbs * m.length < b.2.length + g.2.length + (n + 1) * m.length) ∨
  (∃ f : Int, ∃ q : Nat, r = some (f, (q : Int)) ∧ 1 ≤ q ∧ q ≤ n ∧ 0 ≤ f ∧ f < q ∧ ∀ i, orb D b m i = g ↔ (i - f) % (q : Int) = 0)
theorem lpR_go1 {α R S : Type} {f : S → α → Option (Step R S)} {x : α} {xs : List α} {s s' : S} {r : Option (Sum R S)} (h : f s x = some (.go s')) (h2 : lpR f xs s' = r) : lpR f (x :: xs) s = r := by
  rw [lpR, h]
  exact h2
end Z
namespace Z
open PySem PySem.Spec L2
def P_told_right (found : (Option (Int × Int))) (held : (List Int)) (most : Int) : Option Bool :=
  (match found with | none => (if ((decide (held = ([] : (List Int)))) || true) = true then some ((decide (held = ([] : (List Int)))) && true) else (some false)) | some found1 => (if ((decide (held = ([] : (List Int)))) || false) = true then some ((decide (held = ([] : (List Int)))) && false) else (if (false || (!decide (2 = 2))) = true then some false else ((lpR (fun (s2 : Unit) (part_3 : Int) => ((if (false || false) = true then some (Step.ret false) else some (Step.go ())) : Option (Step Bool Unit))) ([found1.1, found1.2]) ()).bind fun f4o => Sum.elim (fun r13 => some r13) (fun f4 => (if (decide (found1.2 = 0)) = true then some (decide (held = [found1.1])) else (if ((decide (found1.2 < 1)) || ((decide (found1.1 < 0)) || (decide (found1.2 ≤ found1.1)))) = true then some false else ((rngO (-most) (most + 1)).bind fun t8 => (lcG (β := Int) (fun (times9 : Int) => ((modO (times9 - found1.1) found1.2).bind fun t11 => if (decide (t11 = 0)) = true then some (some times9) else some none)) t8).bind fun t12 => some (decide (held = t12)))))) f4o))))
end Z
namespace Z
open PySem PySem.Spec L2
def hel (P : Int → Bool) (most : Int) : List Int := (range' (-most) (most + 1)).filterMap fun t => if P t = true then some t else none
theorem rng_nd (a b : Int) : (range' a b).Nodup := by
  unfold range'
  rw [List.nodup_iff_pairwise_ne, List.pairwise_map]
  exact List.Pairwise.imp (fun {x y} h e => by omega) (List.pairwise_lt_range (n := (b - a).toNat))
theorem mem_rng' {a b x : Int} : x ∈ range' a b ↔ a ≤ x ∧ x < b := by
  refine ⟨mem_rng, fun h => ?_⟩
  unfold range'
  exact List.mem_map.mpr ⟨(x - a).toNat, List.mem_range.mpr (by omega), by omega⟩
theorem mem_hel {P : Int → Bool} {most x : Int} : x ∈ hel P most ↔ -most ≤ x ∧ x ≤ most ∧ P x = true := by
  unfold hel
  rw [List.mem_filterMap]
  constructor
  · rintro ⟨t, ht, e⟩
    split at e
    · cases e
      rename_i hp
      have := mem_rng ht
      exact ⟨this.1, by omega, hp⟩
    · cases e
  · rintro ⟨h1, h2, h3⟩
    exact ⟨x, mem_rng'.mpr ⟨h1, by omega⟩, if_pos h3⟩
theorem hel_nil {P : Int → Bool} {most : Int} (h : ∀ t, P t = false) : hel P most = [] := List.eq_nil_iff_forall_not_mem.mpr fun x hx => by
  have := (mem_hel.mp hx).2.2
  rw [h] at this
  cases this
theorem only_of {t : Int} : ∀ {l : List Int}, l.Nodup → t ∈ l → (l.filterMap fun i => if decide (i = t) = true then some i else none) = [t]
  | [], _, h => nomatch h
  | x :: l, hn, h => by
    rw [List.nodup_cons] at hn
    by_cases e : x = t
    · subst e
      have e0 : (fun i : Int => if decide (i = x) = true then some i else none) x = some x := if_pos (decide_eq_true rfl)
      rw [List.filterMap_cons_some (f := fun i : Int => if decide (i = x) = true then some i else none) e0]
      congr 1
      refine List.eq_nil_iff_forall_not_mem.mpr fun y hy => ?_
      obtain ⟨z, hz, e⟩ := List.mem_filterMap.mp hy
      split at e
      · rename_i hd
        have : z = x := of_decide_eq_true hd
        exact hn.1 (this ▸ hz)
      · cases e
    · have e0 : (fun i : Int => if decide (i = t) = true then some i else none) x = none := if_neg (by simpa using e)
      rw [List.filterMap_cons_none (f := fun i : Int => if decide (i = t) = true then some i else none) e0]
      refine only_of hn.2 ?_
      rcases List.mem_cons.mp h with h | h
      · exact absurd h.symm e
      · exact h
theorem hel_one {P : Int → Bool} {most t : Int} (h : ∀ i, P i = decide (i = t)) (h1 : -most ≤ t) (h2 : t ≤ most) : hel P most = [t] := by
  have : P = fun i => decide (i = t) := funext h
  subst this
  exact only_of (rng_nd _ _) (mem_rng'.mpr ⟨h1, by omega⟩)
theorem told_ok {D : Dd} {b g : Pc} {m : List Int} {n : Nat} {r : Option (Int × Int)} (h : ExpT D b g m n r) {most : Int} (h0 : 0 ≤ most) (h1 : most ≤ 100000) (hn : n ≤ most) (hf : ∀ t : Int, t.natAbs * m.length < b.2.length + g.2.length + (n + 1) * m.length → t.natAbs ≤ most) : P_told_right r (hel (fun t => decide (orb D b m t = g)) most) most = some true := by
  unfold P_told_right
  rcases h with ⟨rfl, h⟩ | ⟨t, rfl, h, hb⟩ | ⟨f, q, rfl, q1, q2, f0, f1, h⟩
  · rw [hel_nil (fun t => decide_eq_false (h t))]
    rfl
  · have ht := hf t hb
    rw [hel_one (t := t) (fun i => decide_eq_decide.mpr (h i)) (by omega) (by omega)]
    refine (if_neg (by simp)).trans ((if_neg (by decide)).trans ?_)
    refine bindS (a := Sum.inr ()) (lpR_go1 (s' := ()) (if_neg (by decide)) (lpR_go1 (s' := ()) (if_neg (by decide)) rfl)) ?_
    simp
  · have hmem : f ∈ hel (fun t => decide (orb D b m t = g)) most := mem_hel.mpr ⟨by omega, by omega, decide_eq_true ((h f).mpr (by rw [Int.sub_self]; exact Int.zero_emod _))⟩
    have hne : hel (fun t => decide (orb D b m t = g)) most ≠ [] := List.ne_nil_of_mem hmem
    refine (if_neg (by simp [hne])).trans ((if_neg (by decide)).trans ?_)
    refine bindS (a := Sum.inr ()) (lpR_go1 (s' := ()) (if_neg (by decide)) (lpR_go1 (s' := ()) (if_neg (by decide)) rfl)) ?_
    refine (if_neg (by simp; omega)).trans ((if_neg (by simp; omega)).trans ?_)
    refine bindS (rngO_ok (by omega)) (bindS (lcG_some (fun t => if decide ((t - f) % (q : Int) = 0) = true then some t else none) (by rw [rng_len, sizeL]; omega) fun x _ => ?_) ?_)
    · refine bindS (if_pos (by show (0 : Int) < q; omega)) ?_
      by_cases e : (x - f) % (q : Int) = 0
      · rw [if_pos (decide_eq_true e), if_pos (decide_eq_true e)]
      · rw [if_neg (by simpa using e), if_neg (by simpa using e)]
    · refine congrArg some (decide_eq_true ?_)
      show hel _ most = hel (fun t => decide ((t - f) % (q : Int) = 0)) most
      congr 1
      funext t
      exact decide_eq_decide.mpr (h t)
def Fw (L : Int) (n : Nat) (ws : List (Int × List Int)) (o : List Int) : Prop := (∀ g, (dGet ws g).isSome = true ↔ g ∈ o) ∧ ws.length ≤ o.length ∧ ∀ g w, dGet ws g = some w → (∀ x ∈ w, Sok L x) ∧ w.length ≤ n
theorem Fw.mono {L : Int} {n m : Nat} {ws : List (Int × List Int)} {o : List Int} (h : Fw L n ws o) (k : n ≤ m) : Fw L m ws o := ⟨h.1, h.2.1, fun g w e => ⟨(h.2.2 g w e).1, Nat.le_trans (h.2.2 g w e).2 k⟩⟩
end Z
namespace Z
open PySem PySem.Spec L2
def Q_need_letters (letters : Int) : Option Unit :=
  ((Q_is_letters letters).bind fun t1 => (if (!t1) = true then none else some ()))
def Q_steps_behind (letters : Int) (walk : (List Int)) : Option (List Int) :=
  ((Q_steps_of letters).bind fun t1 => (lcF (fun (step2 : Int) => (!decide ((cut walk (some (-1)) none) = [(-step2)]))) (fun (step2 : Int) => step2) t1).bind fun t4 => some t4)
namespace O5
def S (n : Nat) : List Int := [1, -1, 2, -2, 3, -3, 4, -4].take (2 * n)
def alw (n : Nat) (p : Option Int) : List Int := (S n).filter fun s => decide (p ≠ some (-s))
def ix (n : Nat) (p : Option Int) (x : Int) : Nat := (ixOf (alw n p) x).getD 0
def dd (n : Nat) : Nat := 2 * n - 1
def num (n : Nat) : Option Int → List Int → Nat
  | _, [] => 0
  | p, x :: t => ix n p x * dd n ^ t.length + num n (some x) t
def ok (n : Nat) : Option Int → List Int → Prop
  | _, [] => True
  | p, x :: t => x ∈ alw n p ∧ ok n (some x) t
def pok (n : Nat) (p : Option Int) : Prop := ∀ x, p = some x → x ∈ S n
def mn (n : Nat) : Option Int → Nat → List Int
  | _, 0 => []
  | p, m + 1 => (alw n p).getD 0 0 :: mn n (some ((alw n p).getD 0 0)) m
def nx (n : Nat) : Option Int → List Int → Option (List Int)
  | _, [] => none
  | p, x :: t => match nx n (some x) t with
    | some u => some (x :: u)
    | none => match (alw n p)[ix n p x + 1]? with
      | some y => some (y :: mn n (some y) t.length)
      | none => none
def off (n k : Nat) : Nat := if k = 0 then 1 else 2 * n * dd n ^ (k - 1)
section
variable {n : Nat}
theorem four (h1 : 1 ≤ n) (h4 : n ≤ 4) : n = 1 ∨ n = 2 ∨ n = 3 ∨ n = 4 := by omega
theorem alw_none (h1 : 1 ≤ n) (h4 : n ≤ 4) : (alw n none).length = 2 * n := by
  rcases four h1 h4 with rfl | rfl | rfl | rfl <;> decide
theorem alw_some (h1 : 1 ≤ n) (h4 : n ≤ 4) : ∀ x ∈ S n, (alw n (some x)).length = dd n := by
  rcases four h1 h4 with rfl | rfl | rfl | rfl <;> decide
theorem S_nodup (h1 : 1 ≤ n) (h4 : n ≤ 4) : (S n).Nodup := by
  rcases four h1 h4 with rfl | rfl | rfl | rfl <;> decide
theorem alw_nodup (h1 : 1 ≤ n) (h4 : n ≤ 4) (p : Option Int) : (alw n p).Nodup := (S_nodup h1 h4).filter _
theorem alw_S {p : Option Int} {x : Int} (h : x ∈ alw n p) : x ∈ S n := (List.mem_filter.mp h).1
theorem alw_ne {p : Option Int} {x : Int} (h : x ∈ alw n p) : p ≠ some (-x) := by
  have := (List.mem_filter.mp h).2
  simpa using this
theorem dd_pos (h1 : 1 ≤ n) : 0 < dd n := by
  unfold dd
  omega
theorem dd_le (h4 : n ≤ 4) : dd n ≤ 7 := by
  unfold dd
  omega
theorem alw_len (h1 : 1 ≤ n) (h4 : n ≤ 4) {p : Option Int} (hp : pok n p) : dd n ≤ (alw n p).length ∧ (alw n p).length ≤ 8 := by
  cases p with
  | none =>
    rw [alw_none h1 h4]
    unfold dd
    omega
  | some x =>
    rw [alw_some h1 h4 x (hp x rfl)]
    exact ⟨Nat.le_refl _, by have := dd_le h4; omega⟩
theorem ixOf_get : ∀ {xs : List Int} {m : Nat} {y : Int}, xs.Nodup → xs[m]? = some y → ixOf xs y = some m
  | [], _, _, _, h => by simp at h
  | x :: xs, 0, y, _, h => by
    have e : x = y := by simpa using h
    unfold ixOf
    rw [if_pos e]
  | x :: xs, m + 1, y, hn, h => by
    have h' : xs[m]? = some y := by simpa using h
    have hx : x ≠ y := fun z => (List.nodup_cons.mp hn).1 (z ▸ List.mem_of_getElem? h')
    unfold ixOf
    rw [if_neg hx, ixOf_get (List.nodup_cons.mp hn).2 h']
    rfl
theorem ix_eq (h1 : 1 ≤ n) (h4 : n ≤ 4) {p : Option Int} {m : Nat} {y : Int} (h : (alw n p)[m]? = some y) : ix n p y = m := by
  unfold ix
  rw [ixOf_get (alw_nodup h1 h4 p) h]
  rfl
end
section
variable {n : Nat}
theorem steps_ok (h1 : 1 ≤ n) (h4 : n ≤ 4) : Q_steps_of (n : Int) = some (S n) := by
  rcases four h1 h4 with rfl | rfl | rfl | rfl <;> decide +kernel
theorem cut_last (w : List Int) : cut w (some (-1)) none = w.getLast?.toList := by
  unfold cut
  have e : HT.sIx w.length 0 (some (-1)) = w.length - 1 := by
    show (if (-1 : Int) < 0 then ((-1 : Int) + (w.length : Int)).toNat else min (-1 : Int).toNat w.length) = w.length - 1
    rw [if_pos (by decide)]
    omega
  rw [e]
  show (w.drop (w.length - 1)).take (w.length - (w.length - 1)) = _
  rcases List.eq_nil_or_concat w with rfl | ⟨a, x, rfl⟩
  · rfl
  · rw [List.length_concat, Nat.add_sub_cancel, List.concat_eq_append, List.drop_left, List.getLast?_concat]
    rw [show a.length + 1 - a.length = 1 by omega]
    rfl
theorem last_test (p : Option Int) (s : Int) : (!decide (p.toList = [-s])) = decide (p ≠ some (-s)) := by
  cases p with
  | none => simp
  | some x => simp
theorem sbehind_ok (h1 : 1 ≤ n) (h4 : n ≤ 4) (w : List Int) : Q_steps_behind (n : Int) w = some (alw n w.getLast?) := by
  have hl : (S n).length ≤ 8 := by
    unfold S
    rw [List.length_take]
    exact Nat.min_le_right _ _
  unfold Q_steps_behind
  refine bindS (steps_ok h1 h4) (bindS (?_ : _ = some (alw n w.getLast?)) rfl)
  unfold lcF
  rw [if_pos (by rw [sizeL]; omega), cut_last, List.map_id']
  refine congrArg some ?_
  unfold alw
  exact List.filter_congr fun s _ => last_test _ s
end
section
variable {n : Nat}
theorem ok_S : ∀ {w : List Int} {p : Option Int}, ok n p w → ∀ x ∈ w, x ∈ S n
  | [], _, _, _, hx => by cases hx
  | y :: t, _, h, x, hx => by
    rcases List.mem_cons.mp hx with rfl | hx
    · exact alw_S h.1
    · exact ok_S h.2 x hx
theorem ok_gd : ∀ {w : List Int} {p : Option Int}, ok n p w → Gd w
  | [], _, _ => trivial
  | [_], _, _ => trivial
  | x :: y :: t, _, h => ⟨by
      have := alw_ne h.2.1
      intro z
      apply this
      rw [z]
      simp, ok_gd (w := y :: t) h.2⟩
theorem letters_ok (h1 : 1 ≤ n) (h4 : n ≤ 4) : Q_need_letters (n : Int) = some () := by
  rcases four h1 h4 with rfl | rfl | rfl | rfl <;> decide +kernel
theorem number_ok {N : Int} (h : 0 ≤ N) : Q_need_number N 0 () = some () := by
  unfold Q_need_number
  rw [if_neg]
  simp
  omega
theorem S_sok (h1 : 1 ≤ n) (h4 : n ≤ 4) {x : Int} (h : x ∈ S n) : Sok (n : Int) x := by
  unfold Sok
  rcases four h1 h4 with rfl | rfl | rfl | rfl <;> simp [S] at h <;> omega
theorem walk_need (h1 : 1 ≤ n) (h4 : n ≤ 4) {w : List Int} (h : ∀ x ∈ w, x ∈ S n) (hl : w.length ≤ 10000) : Q_need_walk w (n : Int) = some () := walkW_ok (fun x hx => S_sok h1 h4 (h x hx)) (by omega)
end
end O5
end Z
namespace Z
open PySem PySem.Spec L2
end Z
namespace Z
open PySem PySem.Spec L2
end Z
namespace Z
open PySem PySem.Spec L2
end Z
namespace Z
open PySem PySem.Spec L2
namespace O5
/-- a told walk ends u -/
def sfxB (T : List (List Int)) (u : List Int) : Bool := T.any fun t => decide (u.drop (u.length - t.length) = t)
/-- a told walk begins with v, and goes on -/
def bgB (T : List (List Int)) (v : List Int) : Bool := T.any fun t => decide (1 ≤ v.length ∧ v.length < t.length ∧ t.take v.length = v)
/-- the longest end that begins a told walk, or the last step -/
def ekF (T : List (List Int)) : List Int → List Int
  | [] => []
  | x :: t => if bgB T (x :: t) = true then x :: t else if t = [] then [x] else ekF T t
def rowF (n : Nat) (T : List (List Int)) (h : List Int) : List (Int × List Int) := (alw n h.getLast?).filterMap fun s => if sfxB T (h ++ [s]) = true then none else some (s, ekF T (h ++ [s]))
/-- the walks on from the state h -/
def GT (n : Nat) (T : List (List Int)) : Nat → List Int → List (List Int)
  | 0, _ => [[]]
  | L + 1, h => (rowF n T h).flatMap fun p => (GT n T L p.2).map (p.1 :: ·)
/-- w behind u ends at no place with a told walk -/
def avF (T : List (List Int)) : List Int → List Int → Bool
  | _, [] => true
  | u, s :: t => !sfxB T (u ++ [s]) && avF T (u ++ [s]) t
/-- all straight walks of L steps behind the step p, in their order -/
def Wf (n : Nat) : Nat → Option Int → List (List Int)
  | 0, _ => [[]]
  | L + 1, p => (alw n p).flatMap fun s => (Wf n L (some s)).map (s :: ·)
theorem sfx_iff {T : List (List Int)} {u : List Int} : sfxB T u = true ↔ ∃ t ∈ T, t <:+ u := by
  unfold sfxB
  rw [List.any_eq_true]
  constructor
  · rintro ⟨t, ht, h⟩
    have e := of_decide_eq_true h
    exact ⟨t, ht, e ▸ List.drop_suffix _ _⟩
  · rintro ⟨t, ht, a, e⟩
    refine ⟨t, ht, decide_eq_true ?_⟩
    rw [← e, List.length_append, Nat.add_sub_cancel, List.drop_left']
    rfl
theorem bg_iff {T : List (List Int)} {v : List Int} : bgB T v = true ↔ ∃ t ∈ T, 1 ≤ v.length ∧ v.length < t.length ∧ t.take v.length = v := by
  unfold bgB
  rw [List.any_eq_true]
  constructor
  · rintro ⟨t, ht, h⟩
    exact ⟨t, ht, of_decide_eq_true h⟩
  · rintro ⟨t, ht, h⟩
    exact ⟨t, ht, decide_eq_true h⟩
/-- the state h stands for the walk u -/
structure Rep (T : List (List Int)) (h u : List Int) : Prop where
  suf : h <:+ u
  last : h.getLast? = u.getLast?
  max : ∀ v, v <:+ u → bgB T v = true → v <:+ h
theorem rep_nil {T : List (List Int)} : Rep T [] [] := ⟨List.suffix_refl _, rfl, fun v hv _ => hv⟩
/-- what ends u and a step more -/
theorem suf_snoc {v u : List Int} {s : Int} (h : v <:+ u ++ [s]) : v = [] ∨ ∃ w, v = w ++ [s] ∧ w <:+ u := by
  obtain ⟨a, e⟩ := h
  rcases List.eq_nil_or_concat v with z | ⟨w, x, z⟩
  · exact .inl z
  · right
    rw [List.concat_eq_append] at z
    subst z
    rw [← List.append_assoc] at e
    obtain ⟨e1, e2⟩ := List.append_inj' e rfl
    have : x = s := by simpa using e2
    subst this
    exact ⟨w, rfl, a, e1⟩
theorem snoc_suf {w u : List Int} (s : Int) (h : w <:+ u) : w ++ [s] <:+ u ++ [s] := by
  obtain ⟨a, e⟩ := h
  exact ⟨a, by rw [← List.append_assoc, e]⟩
/-- w ends u, w and a step begin a told walk or are one: w ends h -/
theorem rep_end {T : List (List Int)} {h u t w : List Int} (R : Rep T h u) (ht : t ∈ T) (hl : w.length < t.length) (hb : t.take w.length = w) (hw : w <:+ u) : w <:+ h := by
  cases w with
  | nil => exact List.nil_suffix
  | cons x y => exact R.max _ hw (bg_iff.mpr ⟨t, ht, by simp, hl, hb⟩)
theorem rep_sfx {T : List (List Int)} {h u : List Int} (R : Rep T h u) (s : Int) (hT : ∀ t ∈ T, t ≠ []) : sfxB T (h ++ [s]) = sfxB T (u ++ [s]) := by
  rw [Bool.eq_iff_iff, sfx_iff, sfx_iff]
  constructor
  · rintro ⟨t, ht, hs⟩
    exact ⟨t, ht, hs.trans (snoc_suf s R.suf)⟩
  · rintro ⟨t, ht, hs⟩
    rcases suf_snoc hs with z | ⟨w, z, hw⟩
    · exact absurd z (hT t ht)
    · refine ⟨t, ht, ?_⟩
      rw [z]
      refine snoc_suf s (rep_end R ht (by rw [z]; simp) ?_ hw)
      rw [z, List.take_left' rfl]
theorem ek_spec {T : List (List Int)} : ∀ {w : List Int}, w ≠ [] → (∃ i, i < w.length ∧ bgB T (w.drop i) = true ∧ (∀ j, j < i → bgB T (w.drop j) = false) ∧ ekF T w = w.drop i) ∨ ((∀ j, j < w.length → bgB T (w.drop j) = false) ∧ ekF T w = w.getLast?.toList)
  | [], h => absurd rfl h
  | x :: t, _ => by
    unfold ekF
    by_cases hb : bgB T (x :: t) = true
    · rw [if_pos hb]
      exact .inl ⟨0, by simp, hb, fun j hj => by omega, rfl⟩
    · rw [if_neg hb]
      have hb' : bgB T (x :: t) = false := Bool.eq_false_iff.mpr hb
      by_cases ht : t = []
      · subst ht
        rw [if_pos rfl]
        refine .inr ⟨fun j hj => ?_, rfl⟩
        have : j = 0 := by simp at hj; omega
        subst this
        exact hb'
      · rw [if_neg ht]
        rcases ek_spec (T := T) ht with ⟨i, h1, h2, h3, h4⟩ | ⟨h1, h2⟩
        · refine .inl ⟨i + 1, by simp; omega, h2, fun j hj => ?_, h4⟩
          cases j with
          | zero => exact hb'
          | succ j => exact h3 j (by omega)
        · refine .inr ⟨fun j hj => ?_, ?_⟩
          · cases j with
            | zero => exact hb'
            | succ j => exact h1 j (by simp at hj; omega)
          · rw [h2]
            cases t with
            | nil => exact absurd rfl ht
            | cons y t => rfl
theorem suf_drop {v w : List Int} (h : v <:+ w) : v = w.drop (w.length - v.length) := by
  obtain ⟨a, e⟩ := h
  rw [← e, List.length_append, Nat.add_sub_cancel, List.drop_left']
  rfl
theorem suf_of_len {v w u : List Int} (h1 : v <:+ u) (h2 : w <:+ u) (hl : v.length ≤ w.length) : v <:+ w := by
  have e2 := suf_drop h2
  have e1 := suf_drop h1
  have l2 := h2.length_le
  refine ⟨w.take (w.length - v.length), ?_⟩
  have : w.drop (w.length - v.length) = v := by
    rw [e2, List.drop_drop, List.length_drop]
    rw [show u.length - w.length + (u.length - (u.length - w.length) - v.length) = u.length - v.length by omega]
    exact e1.symm
  conv => lhs; rw [← this]
  rw [this]
  conv => lhs; rhs; rw [← this]
  exact List.take_append_drop _ _
theorem rep_step {T : List (List Int)} {h u : List Int} (R : Rep T h u) (s : Int) : Rep T (ekF T (h ++ [s])) (u ++ [s]) := by
  have hne : h ++ [s] ≠ [] := by simp
  have hsu := snoc_suf s R.suf
  have key : ∀ v, v <:+ u ++ [s] → bgB T v = true → v <:+ h ++ [s] := fun v hv hb => by
    rcases suf_snoc hv with z | ⟨w, z, hw⟩
    · rw [z]; exact List.nil_suffix
    · obtain ⟨t, ht, _, b2, b3⟩ := bg_iff.mp hb
      rw [z]
      refine snoc_suf s (rep_end R ht ?_ ?_ hw)
      · rw [z, List.length_append] at b2
        simp at b2
        omega
      · have := congrArg (List.take w.length) b3
        rw [z, List.take_take, List.take_left' rfl] at this
        rw [Nat.min_eq_left (by simp)] at this
        exact this
  rcases ek_spec (T := T) hne with ⟨i, h1, h2, h3, h4⟩ | ⟨h1, h2⟩
  · rw [h4]
    refine ⟨(List.drop_suffix _ _).trans hsu, ?_, fun v hv hb => ?_⟩
    · have : (h ++ [s]).drop i = h.drop i ++ [s] := by rw [List.drop_append_of_le_length (by simp at h1; omega)]
      rw [this, List.getLast?_append, List.getLast?_append]
      rfl
    · have hv2 := key v hv hb
      refine suf_of_len hv2 (List.drop_suffix _ _) ?_
      have e := suf_drop hv2
      rcases Nat.lt_or_ge ((h ++ [s]).length - v.length) i with z | z
      · have := h3 _ z
        rw [← e, hb] at this
        cases this
      · rw [List.length_drop]
        have := hv2.length_le
        omega
  · rw [h2]
    have e1 : (h ++ [s]).getLast?.toList = [s] := by simp
    rw [e1]
    refine ⟨⟨u, rfl⟩, by simp, fun v hv hb => ?_⟩
    have hv2 := key v hv hb
    have e := suf_drop hv2
    have hpos : 1 ≤ v.length := by
      obtain ⟨_, _, b1, _⟩ := bg_iff.mp hb
      exact b1
    have hl := hv2.length_le
    have := h1 ((h ++ [s]).length - v.length) (by omega)
    rw [← e, hb] at this
    cases this
theorem flat_filterMap {α β γ : Type} (f : α → Option β) (g : β → List γ) : ∀ l : List α, (l.filterMap f).flatMap g = l.flatMap fun x => match f x with | some y => g y | none => []
  | [] => rfl
  | x :: l => by
    rw [List.flatMap_cons]
    cases e : f x with
    | none => rw [List.filterMap_cons_none e, flat_filterMap f g l]; rfl
    | some y => rw [List.filterMap_cons_some e, List.flatMap_cons, flat_filterMap f g l]
theorem filter_flatMap {α β : Type} (p : β → Bool) (g : α → List β) : ∀ l : List α, (l.flatMap g).filter p = l.flatMap fun x => (g x).filter p
  | [] => rfl
  | x :: l => by rw [List.flatMap_cons, List.filter_append, filter_flatMap p g l, List.flatMap_cons]
theorem flat_congr {α β : Type} {f g : α → List β} : ∀ {l : List α}, (∀ x ∈ l, f x = g x) → l.flatMap f = l.flatMap g
  | [], _ => rfl
  | x :: l, h => by rw [List.flatMap_cons, List.flatMap_cons, h x List.mem_cons_self, flat_congr fun y hy => h y (List.mem_cons_of_mem _ hy)]
/-- the machine's walks are all straight ones without told ones -/
theorem GT_eq {n : Nat} {T : List (List Int)} (hT : ∀ t ∈ T, t ≠ []) : ∀ (L : Nat) {h u : List Int}, Rep T h u → GT n T L h = (Wf n L u.getLast?).filter (avF T u)
  | 0, h, u, _ => rfl
  | L + 1, h, u, R => by
    show (rowF n T h).flatMap _ = ((alw n u.getLast?).flatMap _).filter _
    unfold rowF
    rw [flat_filterMap, filter_flatMap, R.last]
    refine flat_congr fun s hs => ?_
    rw [List.filter_map, rep_sfx R s hT]
    by_cases hq : sfxB T (u ++ [s]) = true
    · rw [if_pos hq]
      show ([] : List (List Int)) = _
      symm
      rw [List.map_eq_nil_iff, List.filter_eq_nil_iff]
      intro w _ z
      have z : (!sfxB T (u ++ [s]) && avF T (u ++ [s]) w) = true := z
      rw [hq] at z
      cases z
    · rw [if_neg hq]
      show (GT n T L (ekF T (h ++ [s]))).map (s :: ·) = _
      have R2 := rep_step R s
      rw [GT_eq hT L R2]
      have hl : (u ++ [s]).getLast? = some s := by simp
      rw [hl]
      congr 1
      refine List.filter_congr fun w _ => ?_
      show _ = (!sfxB T (u ++ [s]) && avF T (u ++ [s]) w)
      rw [Bool.eq_false_iff.mpr hq]
      rfl
end O5
end Z
namespace Z
open PySem PySem.Spec L2
def Q_need_told (letters : Int) (told : (List (List Int))) : Option Unit :=
  ((lp (fun (s1 : Unit) (walk2 : (List Int)) => ((Q_is_a_walk walk2 letters).bind fun t6 => (if (!t6) = true then some true else ((if (!(decide (1 ≤ (walk2.length : Int)) && decide ((walk2.length : Int) ≤ 5))) = true then some true else ((Q_straightened walk2).bind fun t7 => some (!decide (t7 = walk2)))).bind fun t8 => some t8)).bind fun t9 => (if t9 = true then none else some ()))) told ()).bind fun f3 => some ())
def Q_end_kept (walk : (List Int)) (begins : (List ((List Int) × Bool))) : Option (List Int) :=
  ((rngO 0 (walk.length : Int)).bind fun t1 => ((lpR (fun (s2 : Unit) (at_3 : Int) => ((if (dGet begins (cut walk (some at_3) none)).isSome = true then some (Step.ret (cut walk (some at_3) none)) else some (Step.go ())) : Option (Step (List Int) Unit))) t1 ()).bind fun f4o => Sum.elim (fun r8 => some r8) (fun f4 => some (cut walk (some (-1)) none)) f4o))
def Q_machine (letters : Int) (told : (List (List Int))) : Option (List ((List Int) × (List (Int × (List Int))))) :=
  ((dcS2 (fun (walk1 : (List Int)) => (((rngO 1 (walk1.length : Int)).bind fun t3 => some t3) : Option (List Int))) (fun (walk1 : (List Int)) (size2 : Int) => (some (some ((cut walk1 none (some size2)), true)) : Option (Option ((List Int) × Bool)))) told []).bind fun t4 => (lenO t4).bind fun t5 => ((wh (fun (s9 : (Int × (List (List Int)) × (List ((List Int) × (List (Int × (List Int))))))) => some (decide (s9.1 < (s9.2.1.length : Int)))) (fun (s9 : (Int × (List (List Int)) × (List ((List Int) × (List (Int × (List Int))))))) => (((idx s9.2.1 s9.1).bind fun t13 => ((Q_steps_behind letters t13).bind fun t15 => ((lp (fun (s16 : (List (Int × (List Int)))) (step17 : Int) => ((catO (α := Int) t13 ([step17])).bind fun t21 => ((lcT (fun (walk22 : (List Int)) => (decide ((cut t21 (some (-(walk22.length : Int))) none) = walk22))) told).bind fun t24 => ((if (!(t24.any id)) = true then ((Q_end_kept t21 t4).bind fun t25 => (appO s16 (step17, t25)).bind fun t26 => some t26) else some s16 : Option (List (Int × (List Int)))).bind fun s27 => some s27)))) t15 ([] : (List (Int × (List Int))))).bind fun f18 => ((dPutO s9.2.2 t13 f18).bind fun t29 => ((lp (fun (s30 : (List (List Int))) (x31 : (Int × (List Int))) => ((if ((!(dGet t29 x31.2).isSome) && (!hasD s30 x31.2)) = true then ((appO s30 x31.2).bind fun t35 => some t35) else some s30 : Option (List (List Int))).bind fun s36 => some s36)) f18 s9.2.1).bind fun f32 => some (Step.go ((s9.1 + 1), f32, t29))))))) : Option (Step (List ((List Int) × (List (Int × (List Int))))) (Int × (List (List Int)) × (List ((List Int) × (List (Int × (List Int))))))))) 1000 (0, [([] : (List Int))], ([] : (List ((List Int) × (List (Int × (List Int)))))))).bind fun f10o => Sum.elim (fun r40 => none) (fun f10 => some f10.2.2) f10o))
def Q_counts_by_length (table : (List ((List Int) × (List (Int × (List Int)))))) (length : Int) : Option (List (List ((List Int) × Int))) :=
  ((lenO (List.map Prod.fst table)).bind fun z2 => (dcS (fun (here1 : (List Int)) => (some (some (here1, 1)) : Option (Option ((List Int) × Int)))) (List.map Prod.fst table) []).bind fun t4 => ((rngO 0 length).bind fun t5 => ((lp (fun (s6 : (List (List ((List Int) × Int)))) (turn7 : Int) => ((lenO (List.map Prod.fst table)).bind fun z18 => (dcS (fun (here11 : (List Int)) => (((dGet table here11).bind fun t12 => (lcO (β := Int) (fun (x13 : (Int × (List Int))) => ((idx s6 (-1)).bind fun t15 => (dGet t15 x13.2).bind fun t16 => some t16)) t12).bind fun t17 => some (some (here11, t17.sum))) : Option (Option ((List Int) × Int)))) (List.map Prod.fst table) []).bind fun t20 => (appO s6 t20).bind fun t21 => some t21)) t5 ([t4])).bind fun f8 => some f8)))
def Q_how_many_without (letters : Int) (told : (List (List Int))) (length : Int) : Option Int :=
  ((Q_need_letters letters).bind fun t1 => ((Q_need_told letters told).bind fun t2 => ((Q_need_number length 0 ()).bind fun t3 => ((Q_machine letters told).bind fun t4 => (Q_counts_by_length t4 length).bind fun t5 => (idx t5 length).bind fun t6 => (dGet t6 ([] : (List Int))).bind fun t7 => some t7))))
def Q_first_without (letters : Int) (told : (List (List Int))) (length : Int) : Option (Option (List Int)) :=
  ((Q_need_letters letters).bind fun t1 => ((Q_need_told letters told).bind fun t2 => ((Q_need_number length 0 ()).bind fun t3 => ((Q_machine letters told).bind fun t4 => ((Q_counts_by_length t4 length).bind fun t5 => ((idx t5 length).bind fun t6 => (dGet t6 ([] : (List Int))).bind fun t7 => (if (decide (t7 = 0)) = true then some none else ((rngDO (length - 1) (-1)).bind fun t8 => ((lp (fun (s9 : ((List Int) × (List Int))) (left10 : Int) => ((dGet t4 s9.1).bind fun t14 => (lcG (β := (Int × (List Int))) (fun (x15 : (Int × (List Int))) => ((idx t5 left10).bind fun t17 => (dGet t17 x15.2).bind fun t18 => if (decide (0 < t18)) = true then some (some (x15.1, x15.2)) else some none)) t14).bind fun t19 => (idx t19 0).bind fun t20 => ((catO (α := Int) s9.2 ([t20.1])).bind fun t21 => some (t20.2, t21)))) t8 (([] : (List Int)), ([] : (List Int)))).bind fun f11 => some (some f11.2))))))))))
namespace O5
/-- told ones as the program takes them -/
structure Told (n : Nat) (T : List (List Int)) : Prop where
  each : ∀ t ∈ T, Gd t ∧ 1 ≤ t.length ∧ t.length ≤ 5 ∧ ∀ x ∈ t, x ∈ S n
  few : T.length ≤ 20
theorem Told.ne {n : Nat} {T : List (List Int)} (h : Told n T) : ∀ t ∈ T, t ≠ [] := fun t ht z => by
  have := (h.each t ht).2.1
  rw [z] at this
  exact absurd this (by decide)
theorem dcS_put {α κ β : Type} [DecidableEq κ] {m : α → Option (Option (κ × β))} {k : α → κ} {f : α → β} : ∀ {xs : List α} {w : List (κ × β)}, (∀ x ∈ xs, m x = some (some (k x, f x))) → ∃ wf, dcS m xs w = some wf ∧ wf.length ≤ w.length + xs.length ∧ ∀ v, (dGet wf v).isSome = ((dGet w v).isSome || xs.any fun x => decide (k x = v))
  | [], w, _ => ⟨w, rfl, Nat.le_refl _, fun v => by simp⟩
  | x :: xs, w, h => by
    obtain ⟨wf, e, l, g⟩ := dcS_put (xs := xs) (w := dPut w (k x) (f x)) fun y hy => h y (List.mem_cons_of_mem _ hy)
    refine ⟨wf, ?_, ?_, fun v => ?_⟩
    · unfold dcS
      rw [h x List.mem_cons_self]
      exact e
    · have := dput_len w (k x) (f x)
      rw [List.length_cons]
      omega
    · rw [g v, dGet_put, List.any_cons]
      by_cases z : k x = v
      · rw [if_pos z, decide_eq_true z]
        simp
      · rw [if_neg z, decide_eq_false z]
        simp
theorem bg_cons (t : List Int) (T : List (List Int)) (v : List Int) : bgB (t :: T) v = (decide (1 ≤ v.length ∧ v.length < t.length ∧ t.take v.length = v) || bgB T v) := rfl
theorem begins_ok : ∀ {T : List (List Int)} {w : List (List Int × Bool)}, (∀ t ∈ T, t.length ≤ 5) → ∃ wf, dcS2 (fun (walk1 : (List Int)) => (((rngO 1 (walk1.length : Int)).bind fun t3 => some t3) : Option (List Int))) (fun (walk1 : (List Int)) (size2 : Int) => (some (some ((cut walk1 none (some size2)), true)) : Option (Option ((List Int) × Bool)))) T w = some wf ∧ wf.length ≤ w.length + 5 * T.length ∧ ∀ v, (dGet wf v).isSome = ((dGet w v).isSome || bgB T v)
  | [], w, _ => ⟨w, rfl, by simp, fun v => by show _ = (_ || false); simp⟩
  | t :: T, w, h => by
    have ht := h t List.mem_cons_self
    obtain ⟨w1, e1, l1, g1⟩ := dcS_put (m := fun (size2 : Int) => (some (some ((cut t none (some size2)), true)) : Option (Option ((List Int) × Bool)))) (k := fun s => cut t none (some s)) (f := fun _ => true) (xs := range' 1 (t.length : Int)) (w := w) fun _ _ => rfl
    obtain ⟨wf, e, l, g⟩ := begins_ok (T := T) (w := w1) fun y hy => h y (List.mem_cons_of_mem _ hy)
    refine ⟨wf, ?_, ?_, fun v => ?_⟩
    · unfold dcS2
      refine bindS (bindS (rngO_ok (by omega)) rfl) (bindS e1 e)
    · rw [rng_len] at l1
      rw [List.length_cons]
      omega
    · rw [g v, g1 v, bg_cons, Bool.or_assoc]
      congr 2
      rw [Bool.eq_iff_iff, List.any_eq_true, decide_eq_true_eq]
      constructor
      · rintro ⟨s, hs, he⟩
        obtain ⟨p1, p2⟩ := mem_rng hs
        have he := of_decide_eq_true he
        rw [cut_to _ (by omega)] at he
        have hl : v.length = s.toNat := by
          rw [← he, List.length_take]
          omega
        rw [hl]
        exact ⟨by omega, by omega, he⟩
      · rintro ⟨a, b, c⟩
        refine ⟨(v.length : Int), ?_, decide_eq_true ?_⟩
        · unfold range'
          refine List.mem_map.mpr ⟨v.length - 1, List.mem_range.mpr (by omega), by omega⟩
        · rw [cut_to _ (by omega), Int.toNat_natCast]
          exact c
theorem ek_at {T : List (List Int)} {w : List Int} {i : Nat} (hi : i < w.length) (hb : bgB T (w.drop i) = true) (hp : ∀ j, j < i → bgB T (w.drop j) = false) : ekF T w = w.drop i := by
  have hne : w ≠ [] := fun z => by rw [z] at hi; exact absurd hi (Nat.not_lt_zero _)
  rcases ek_spec (T := T) hne with ⟨k, h1, h2, h3, h4⟩ | ⟨h1, h2⟩
  · rcases Nat.lt_trichotomy i k with z | z | z
    · rw [h3 i z] at hb; cases hb
    · rw [h4, z]
    · rw [hp k z] at h2; cases h2
  · rw [h1 i hi] at hb; cases hb
theorem ek_no {T : List (List Int)} {w : List Int} (hne : w ≠ []) (hp : ∀ j, j < w.length → bgB T (w.drop j) = false) : ekF T w = w.getLast?.toList := by
  rcases ek_spec (T := T) hne with ⟨k, h1, h2, h3, h4⟩ | ⟨h1, h2⟩
  · rw [hp k h1] at h2; cases h2
  · exact h2
theorem end_ok {T : List (List Int)} {B : List (List Int × Bool)} (hB : ∀ v, (dGet B v).isSome = bgB T v) {w : List Int} (hne : w ≠ []) (hl : w.length ≤ 1000) : Q_end_kept w B = some (ekF T w) := by
  unfold Q_end_kept
  refine bindS (rngO_ok (by omega)) ?_
  have step := lpR_mix (f := (fun (s2 : Unit) (at_3 : Int) => ((if (dGet B (cut w (some at_3) none)).isSome = true then some (Step.ret (cut w (some at_3) none)) else some (Step.go ())) : Option (Step (List Int) Unit)))) (fun r => r = ekF T w) (xs := range' 0 (w.length : Int)) (fun i _ => ∀ j, j < i → bgB T (w.drop j) = false) (fun i x s hx hs => by
    obtain ⟨ex, hi⟩ := rng_at hx
    have ex : x = (i : Int) := by omega
    subst ex
    have hc : cut w (some (i : Int)) none = w.drop i := by rw [cut_from _ (by omega), Int.toNat_natCast]
    rw [hc, hB]
    by_cases hb : bgB T (w.drop i) = true
    · rw [if_pos hb]
      exact .inr ⟨_, rfl, (ek_at (by omega) hb hs).symm⟩
    · rw [if_neg hb]
      refine .inl ⟨(), rfl, fun j hj => ?_⟩
      rcases Nat.lt_or_ge j i with z | z
      · exact hs j z
      · have : j = i := by omega
        rw [this]
        exact Bool.eq_false_iff.mpr hb) (s0 := ()) (fun j hj => absurd hj (Nat.not_lt_zero _))
  rcases step with ⟨s, e, h⟩ | ⟨r, e, h⟩
  · refine bindS e ?_
    show some (cut w (some (-1)) none) = _
    rw [rng_len] at h
    rw [cut_last, ek_no hne fun j hj => h j (by omega)]
  · refine bindS e ?_
    show some r = _
    rw [h]
theorem lp_fm {α β : Type} {f : List β → α → Option (List β)} {g : α → Option β} : ∀ {xs : List α} {s : List β}, (∀ x ∈ xs, ∀ s : List β, s.length ≤ 1000 → f s x = some (match g x with | some y => s ++ [y] | none => s)) → s.length + xs.length ≤ 1000 → lp f xs s = some (s ++ xs.filterMap g)
  | [], s, _, _ => by simp [lp]
  | x :: xs, s, h, hl => by
    rw [List.length_cons] at hl
    unfold lp
    rw [h x List.mem_cons_self s (by omega), Option.bind_some]
    cases e : g x with
    | none =>
      rw [List.filterMap_cons_none e]
      show lp f xs s = _
      exact lp_fm (fun y hy => h y (List.mem_cons_of_mem _ hy)) (by omega)
    | some y =>
      rw [List.filterMap_cons_some e]
      have := lp_fm (f := f) (g := g) (xs := xs) (s := s ++ [y]) (fun y hy => h y (List.mem_cons_of_mem _ hy)) (by rw [List.length_append, List.length_singleton]; omega)
      rw [List.append_assoc] at this
      show lp f xs (s ++ [y]) = _
      exact this
theorem cut_neg {α : Type} (xs : List α) {k : Nat} (hk : 1 ≤ k) : cut xs (some (-(k : Int))) none = xs.drop (xs.length - k) := by
  unfold cut
  have e : HT.sIx xs.length 0 (some (-(k : Int))) = xs.length - k := by
    show (if (-(k : Int)) < 0 then ((-(k : Int)) + (xs.length : Int)).toNat else min (-(k : Int)).toNat xs.length) = xs.length - k
    rw [if_pos (by omega)]
    omega
  rw [e]
  show (xs.drop (xs.length - k)).take (xs.length - (xs.length - k)) = _
  rw [List.take_of_length_le]
  rw [List.length_drop]
  exact Nat.le_refl _
theorem alw_le (n : Nat) (p : Option Int) : (alw n p).length ≤ 8 := by
  refine Nat.le_trans (List.length_filter_le _ _) ?_
  unfold S
  rw [List.length_take]
  exact Nat.min_le_right _ _
/-- the rows as reckoned -/
theorem row_ok {n : Nat} {T : List (List Int)} (hT : Told n T) {B : List (List Int × Bool)} (hB : ∀ v, (dGet B v).isSome = bgB T v) {h : List Int} (hl : h.length ≤ 900) : lp (fun (s16 : (List (Int × (List Int)))) (step17 : Int) => ((catO (α := Int) h ([step17])).bind fun t21 => ((lcT (fun (walk22 : (List Int)) => (decide ((cut t21 (some (-(walk22.length : Int))) none) = walk22))) T).bind fun t24 => ((if (!(t24.any id)) = true then ((Q_end_kept t21 B).bind fun t25 => (appO s16 (step17, t25)).bind fun t26 => some t26) else some s16 : Option (List (Int × (List Int)))).bind fun s27 => some s27)))) (alw n h.getLast?) ([] : (List (Int × (List Int)))) = some (rowF n T h) := by
  have hfew := hT.few
  have ha := alw_le n h.getLast?
  rw [lp_fm (g := fun s => if sfxB T (h ++ [s]) = true then none else some (s, ekF T (h ++ [s]))) ?_ (by simp; omega)]
  · rfl
  · intro x _ s hs
    refine bindS (cat_ok (xs := h) (ys := [x]) (by rw [List.length_singleton, sizeL]; show h.length + 1 ≤ _; omega)) (bindS (lcT_some _ (by rw [sizeL]; omega)) ?_)
    have e : (List.map (fun (walk22 : (List Int)) => (decide ((cut (h ++ [x]) (some (-(walk22.length : Int))) none) = walk22))) T).any id = sfxB T (h ++ [x]) := by
      rw [List.any_map]
      unfold sfxB
      rw [Bool.eq_iff_iff, List.any_eq_true, List.any_eq_true]
      constructor
      · rintro ⟨t, ht, e⟩
        refine ⟨t, ht, ?_⟩
        have e : decide ((cut (h ++ [x]) (some (-(t.length : Int))) none) = t) = true := e
        rw [cut_neg _ (hT.each t ht).2.1] at e
        exact e
      · rintro ⟨t, ht, e⟩
        refine ⟨t, ht, ?_⟩
        show decide ((cut (h ++ [x]) (some (-(t.length : Int))) none) = t) = true
        rw [cut_neg _ (hT.each t ht).2.1]
        exact e
    rw [e]
    by_cases hq : sfxB T (h ++ [x]) = true
    · rw [hq]
      rfl
    · rw [Bool.eq_false_iff.mpr hq]
      show ((((Q_end_kept (h ++ [x]) B).bind fun t25 => (appO s (x, t25)).bind fun t26 => some t26)).bind fun s27 => some s27) = some (s ++ [(x, ekF T (h ++ [x]))])
      rw [end_ok hB (by simp) (by rw [List.length_append, List.length_singleton]; omega), Option.bind_some, app_ok (by rw [sizeL]; omega)]
      rfl
end O5
end Z
namespace Z
open PySem PySem.Spec L2
namespace O5
theorem whK {R S : Type} {c : S → Option Bool} {f : S → Option (Step R S)} (P : S → Prop) (μ : S → Nat) (step : ∀ s, P s → c s = some false ∨ (c s = some true ∧ (∃ s', f s = some (.go s') ∧ P s' ∧ μ s' < μ s))) : ∀ {n : Nat} {s0 : S}, P s0 → μ s0 < n →
    (∃ s, wh c f n s0 = some (.inr s) ∧ P s ∧ c s = some false)
  | 0, _, _, h => absurd h (Nat.not_lt_zero _)
  | n + 1, s0, h0, hn => by
    unfold wh
    rcases step s0 h0 with e | ⟨e, s', e2, h2, h3⟩
    · exact ⟨s0, bindS e (if_neg (by simp)), h0, e⟩
    · obtain ⟨s, h4, h5⟩ := whK P μ step (n := n) h2 (by omega)
      exact ⟨s, bindS e ((if_pos rfl).trans (bindS e2 h4)), h5⟩
/-- what may be a state -/
def Uv (n : Nat) (T : List (List Int)) : List (List Int) := [] :: ((S n).map (fun s => [s]) ++ T.flatMap fun t => (List.range t.length).map fun k => t.take k)
theorem sum_le {T : List (List Int)} (h : ∀ t ∈ T, t.length ≤ 5) : (T.flatMap fun t => (List.range t.length).map fun k => t.take k).length ≤ 5 * T.length := by
  induction T with
  | nil => exact Nat.le_refl _
  | cons t T ih =>
    have a := ih fun y hy => h y (List.mem_cons_of_mem _ hy)
    have b := h t List.mem_cons_self
    rw [List.flatMap_cons, List.length_append, List.length_map, List.length_range, List.length_cons]
    omega
theorem uv_len {n : Nat} {T : List (List Int)} (hT : Told n T) : (Uv n T).length ≤ 120 := by
  have a := sum_le fun t ht => (hT.each t ht).2.2.1
  have b := hT.few
  have c : (S n).length ≤ 8 := by
    unfold S
    rw [List.length_take]
    exact Nat.min_le_right _ _
  unfold Uv
  rw [List.length_cons, List.length_append, List.length_map]
  omega
theorem uv_small {n : Nat} {T : List (List Int)} (hT : Told n T) {h : List Int} (hh : h ∈ Uv n T) : h.length ≤ 5 := by
  unfold Uv at hh
  rcases List.mem_cons.mp hh with z | z
  · rw [z]; exact Nat.zero_le _
  · rcases List.mem_append.mp z with z | z
    · obtain ⟨s, _, rfl⟩ := List.mem_map.mp z
      exact (by decide : 1 ≤ 5)
    · obtain ⟨t, ht, z⟩ := List.mem_flatMap.mp z
      obtain ⟨k, _, rfl⟩ := List.mem_map.mp z
      rw [List.length_take]
      have := (hT.each t ht).2.2.1
      omega
theorem ek_uv {n : Nat} {T : List (List Int)} {h : List Int} {s : Int} (hs : s ∈ S n) : ekF T (h ++ [s]) ∈ Uv n T := by
  unfold Uv
  rcases ek_spec (T := T) (w := h ++ [s]) (by simp) with ⟨i, h1, h2, _, h4⟩ | ⟨_, h2⟩
  · rw [h4]
    obtain ⟨t, ht, b1, b2, b3⟩ := bg_iff.mp h2
    refine List.mem_cons_of_mem _ (List.mem_append.mpr (.inr (List.mem_flatMap.mpr ⟨t, ht, List.mem_map.mpr ⟨_, List.mem_range.mpr b2, b3⟩⟩)))
  · rw [h2]
    refine List.mem_cons_of_mem _ (List.mem_append.mpr (.inl (List.mem_map.mpr ⟨s, hs, ?_⟩)))
    simp
theorem row_mem' {n : Nat} {T : List (List Int)} {h : List Int} {p : Int × List Int} (hp : p ∈ rowF n T h) : p.1 ∈ alw n h.getLast? ∧ p.2 = ekF T (h ++ [p.1]) := by
  unfold rowF at hp
  obtain ⟨s, hs, e⟩ := List.mem_filterMap.mp hp
  by_cases hq : sfxB T (h ++ [s]) = true
  · rw [if_pos hq] at e; cases e
  · rw [if_neg hq] at e
    cases e
    exact ⟨hs, rfl⟩
theorem row_uv {n : Nat} {T : List (List Int)} {h : List Int} {p : Int × List Int} (hp : p ∈ rowF n T h) : p.2 ∈ Uv n T := by
  obtain ⟨a, b⟩ := row_mem' hp
  rw [b]
  exact ek_uv (alw_S a)
theorem hasD_mem {xs : List (List Int)} {x : List Int} : hasD xs x = true ↔ x ∈ xs := by
  unfold hasD
  simp
abbrev Tab := List ((List Int) × (List (Int × (List Int))))
abbrev rowsF (n : Nat) (T : List (List Int)) (order : List (List Int)) : Tab := order.map fun h => (h, rowF n T h)
theorem rows_keys (n : Nat) (T order : List (List Int)) : (rowsF n T order).map Prod.fst = order := by
  unfold rowsF
  rw [List.map_map]
  exact List.map_id _
theorem goals_ok {n : Nat} {T : List (List Int)} (hT : Told n T) {tb : Tab} : ∀ (row : List (Int × List Int)) (order : List (List Int)), (∀ v, (dGet tb v).isSome = true → v ∈ order) → order.Nodup → (∀ v ∈ order, v ∈ Uv n T) → (∀ p ∈ row, p.2 ∈ Uv n T) → ∃ o2, lp (fun (s30 : (List (List Int))) (x31 : (Int × (List Int))) => ((if ((!(dGet tb x31.2).isSome) && (!hasD s30 x31.2)) = true then ((appO s30 x31.2).bind fun t35 => some t35) else some s30 : Option (List (List Int))).bind fun s36 => some s36)) row order = some (order ++ o2) ∧ (order ++ o2).Nodup ∧ (∀ v ∈ order ++ o2, v ∈ Uv n T) ∧ ∀ p ∈ row, p.2 ∈ order ++ o2
  | [], order, _, hn, hu, _ => ⟨[], by simp [lp], by simpa using hn, by simpa using hu, fun _ h => nomatch h⟩
  | x :: row, order, hk, hn, hu, hp => by
    have hx := hp x List.mem_cons_self
    by_cases hm : x.2 ∈ order
    · obtain ⟨o2, e, h1, h2, h3⟩ := goals_ok hT row order hk hn hu fun p h => hp p (List.mem_cons_of_mem _ h)
      refine ⟨o2, ?_, h1, h2, fun p h => ?_⟩
      · unfold lp
        refine bindS (a := order) ?_ e
        rw [hasD_mem.mpr hm]
        simp
      · rcases List.mem_cons.mp h with z | z
        · rw [z]; exact List.mem_append.mpr (.inl hm)
        · exact h3 p z
    · have hn2 : (order ++ [x.2]).Nodup := by
        rw [List.nodup_append]
        exact ⟨hn, by simp, fun a ha b hb z => by
          rw [List.mem_singleton.mp hb] at z
          exact hm (z ▸ ha)⟩
      obtain ⟨o2, e, h1, h2, h3⟩ := goals_ok hT row (order ++ [x.2]) (fun v hv => List.mem_append.mpr (.inl (hk v hv))) hn2 (fun v hv => by
        rcases List.mem_append.mp hv with z | z
        · exact hu v z
        · rw [List.mem_singleton.mp z]; exact hx) fun p h => hp p (List.mem_cons_of_mem _ h)
      rw [List.append_assoc] at e h1 h2 h3
      refine ⟨x.2 :: o2, ?_, h1, h2, fun p h => ?_⟩
      · unfold lp
        refine bindS (a := order ++ [x.2]) ?_ e
        have a1 : (dGet tb x.2).isSome = false := Bool.eq_false_iff.mpr fun z => hm (hk _ z)
        have a2 : hasD order x.2 = false := Bool.eq_false_iff.mpr fun z => hm (hasD_mem.mp z)
        have hl := nodup_le order (Uv n T) hn hu
        have hl2 := uv_len hT
        rw [a1, a2]
        show (((appO order x.2).bind fun t35 => some t35).bind fun s36 => some s36) = _
        rw [app_ok (by rw [sizeL]; omega)]
        rfl
      · rcases List.mem_cons.mp h with z | z
        · rw [z]; exact List.mem_append.mpr (.inr List.mem_cons_self)
        · exact h3 p z
structure Mc (n : Nat) (T : List (List Int)) (i : Nat) (s : Int × List (List Int) × Tab) : Prop where
  num : s.1 = (i : Int)
  le : i ≤ s.2.1.length
  tab : s.2.2 = rowsF n T (s.2.1.take i)
  cl : ∀ h ∈ s.2.1.take i, ∀ p ∈ rowF n T h, p.2 ∈ s.2.1
  nd : s.2.1.Nodup
  nil : [] ∈ s.2.1
  uv : ∀ h ∈ s.2.1, h ∈ Uv n T
/-- the states, all of them -/
structure Ord (n : Nat) (T order : List (List Int)) : Prop where
  nd : order.Nodup
  nil : [] ∈ order
  cl : ∀ h ∈ order, ∀ p ∈ rowF n T h, p.2 ∈ order
  few : order.length ≤ 120
theorem put_new {κ β : Type} [DecidableEq κ] {d : List (κ × β)} {k : κ} (v : β) (h : (dGet d k).isSome = false) : dPut d k v = d ++ [(k, v)] := by
  unfold dPut
  rw [any_key, h]
  rfl
theorem machine_ok {n : Nat} (h1 : 1 ≤ n) (h4 : n ≤ 4) {T : List (List Int)} (hT : Told n T) : ∃ order, Q_machine (n : Int) T = some (rowsF n T order) ∧ Ord n T order := by
  obtain ⟨B, eB, lB, gB⟩ := begins_ok (T := T) (w := []) fun t ht => (hT.each t ht).2.2.1
  have gB : ∀ v, (dGet B v).isSome = bgB T v := fun v => by rw [gB v, dGet_nil]; rfl
  have hfew := hT.few
  unfold Q_machine
  refine (fun (h : ∃ order, _ ∧ _) => let ⟨o, a, b⟩ := h; ⟨o, bindS eB (bindS (if_pos (by rw [sizeL]; simp at lB; omega)) a), b⟩) ?_
  have run := whK (R := Tab) (c := (fun (s9 : (Int × (List (List Int)) × (List ((List Int) × (List (Int × (List Int))))))) => some (decide (s9.1 < (s9.2.1.length : Int)))))
    (f := (fun (s9 : (Int × (List (List Int)) × (List ((List Int) × (List (Int × (List Int))))))) => (((idx s9.2.1 s9.1).bind fun t13 => ((Q_steps_behind (n : Int) t13).bind fun t15 => ((lp (fun (s16 : (List (Int × (List Int)))) (step17 : Int) => ((catO (α := Int) t13 ([step17])).bind fun t21 => ((lcT (fun (walk22 : (List Int)) => (decide ((cut t21 (some (-(walk22.length : Int))) none) = walk22))) T).bind fun t24 => ((if (!(t24.any id)) = true then ((Q_end_kept t21 B).bind fun t25 => (appO s16 (step17, t25)).bind fun t26 => some t26) else some s16 : Option (List (Int × (List Int)))).bind fun s27 => some s27)))) t15 ([] : (List (Int × (List Int))))).bind fun f18 => ((dPutO s9.2.2 t13 f18).bind fun t29 => ((lp (fun (s30 : (List (List Int))) (x31 : (Int × (List Int))) => ((if ((!(dGet t29 x31.2).isSome) && (!hasD s30 x31.2)) = true then ((appO s30 x31.2).bind fun t35 => some t35) else some s30 : Option (List (List Int))).bind fun s36 => some s36)) f18 s9.2.1).bind fun f32 => some (Step.go ((s9.1 + 1), f32, t29))))))) : Option (Step (List ((List Int) × (List (Int × (List Int))))) (Int × (List (List Int)) × (List ((List Int) × (List (Int × (List Int))))))))))
    (fun s => ∃ i, Mc n T i s) (fun s => 200 - s.1.toNat) (fun s hs => by
    obtain ⟨i, M⟩ := hs
    obtain ⟨at_, order, tb⟩ := s
    have e1 : at_ = (i : Int) := M.num
    have e2 : tb = rowsF n T (order.take i) := M.tab
    subst e1
    subst e2
    have hn : order.Nodup := M.nd
    have hu : ∀ h ∈ order, h ∈ Uv n T := M.uv
    have hl := nodup_le order (Uv n T) hn hu
    have hl2 := uv_len hT
    by_cases hi : i < order.length
    · right
      refine ⟨congrArg some (decide_eq_true (by show (i : Int) < (order.length : Int); omega)), ?_⟩
      have hh : order[i]? = some order[i] := List.getElem?_eq_getElem hi
      generalize order[i] = h at hh
      have hm : h ∈ order := List.mem_of_getElem? hh
      have ht : order.take (i + 1) = order.take i ++ [h] := by rw [List.take_add_one, hh]; rfl
      have hnk : (dGet (rowsF n T (order.take i)) h).isSome = false := by
        refine Bool.eq_false_iff.mpr fun z => ?_
        have z := dGet_key_mem.mp z
        rw [rows_keys] at z
        have q : (order.take i ++ [h]).Nodup := ht ▸ (hn.sublist (List.take_sublist _ _))
        exact (List.nodup_append.mp q).2.2 h z h (List.mem_singleton.mpr rfl) rfl
      have htb : dPut (rowsF n T (order.take i)) h (rowF n T h) = rowsF n T (order.take (i + 1)) := by
        rw [put_new _ hnk, ht]
        unfold rowsF
        rw [List.map_append]
        rfl
      obtain ⟨o2, e3, g1, g2, g3⟩ := goals_ok hT (tb := rowsF n T (order.take (i + 1))) (rowF n T h) order (fun v hv => by
        have hv := dGet_key_mem.mp hv
        rw [rows_keys] at hv
        exact List.mem_of_mem_take hv) hn hu fun p hp => row_uv hp
      refine ⟨((i : Int) + 1, order ++ o2, rowsF n T (order.take (i + 1))), ?_, ⟨i + 1, ?_⟩, ?_⟩
      · refine bindS (idx_of (by omega) (by rw [Int.toNat_natCast]; exact hh)) (bindS (sbehind_ok h1 h4 h) (bindS (row_ok hT gB (by have := uv_small hT (hu h hm); omega)) (bindS (putO_ok ?_) (bindS (?_ : _ = some (order ++ o2)) (congrArg (fun z => some (Step.go ((i : Int) + 1, order ++ o2, z))) htb)))))
        · show (rowsF n T (order.take i)).length < sizeLine
          rw [sizeL, List.length_map, List.length_take]
          omega
        · rw [htb]
          exact e3
      · have hk : (order ++ o2).take (i + 1) = order.take (i + 1) := by rw [List.take_append_of_le_length (by omega)]
        refine ⟨by show (i : Int) + 1 = ((i + 1 : Nat) : Int); omega, ?_, ?_, ?_, g1, List.mem_append.mpr (.inl M.nil), g2⟩
        · show i + 1 ≤ (order ++ o2).length
          rw [List.length_append]
          omega
        · show rowsF n T (order.take (i + 1)) = rowsF n T ((order ++ o2).take (i + 1))
          rw [hk]
        · show ∀ h ∈ (order ++ o2).take (i + 1), ∀ p ∈ rowF n T h, p.2 ∈ order ++ o2
          rw [hk, ht]
          intro v hv p hp
          rcases List.mem_append.mp hv with z | z
          · exact List.mem_append.mpr (.inl (M.cl v z p hp))
          · rw [List.mem_singleton.mp z] at hp
            exact g3 p hp
      · show 200 - ((i : Int) + 1).toNat < 200 - (i : Int).toNat
        omega
    · left
      exact congrArg some (decide_eq_false (by show ¬ (i : Int) < (order.length : Int); omega)))
    (n := 1000) (s0 := (0, [([] : (List Int))], ([] : Tab))) ⟨0, rfl, Nat.zero_le _, rfl, (fun _ h => nomatch h), by simp, List.mem_cons_self, fun h hh => by
      rw [List.mem_singleton.mp hh]
      exact List.mem_cons_self⟩ (by show 200 - 0 < 1000; omega)
  obtain ⟨s, e, ⟨i, M⟩, hc⟩ := run
  · have hc : ¬ s.1 < (s.2.1.length : Int) := of_decide_eq_false (Option.some.inj hc)
    have := M.num
    have := M.le
    have hi : i = s.2.1.length := by omega
    have ht : s.2.1.take i = s.2.1 := by rw [hi, List.take_length]
    have hcl := M.cl
    rw [ht] at hcl
    refine ⟨s.2.1, bindS e ?_, M.nd, M.nil, hcl, Nat.le_trans (nodup_le _ _ M.nd M.uv) (uv_len hT)⟩
    show some s.2.2 = _
    rw [M.tab, ht]
section
variable {n : Nat} {T order : List (List Int)}
/-- how many walks go on from each state -/
def cntF (n : Nat) (T order : List (List Int)) (k : Nat) : List (List Int × Int) := order.map fun h => (h, ((GT n T k h).length : Int))
theorem cnt_keys (k : Nat) : (cntF n T order k).map Prod.fst = order := by
  unfold cntF
  rw [List.map_map]
  exact List.map_id _
theorem cnt_get (O : Ord n T order) (k : Nat) {h : List Int} (hh : h ∈ order) : dGet (cntF n T order k) h = some ((GT n T k h).length : Int) := by
  refine mem_dGet (by rw [cnt_keys]; exact O.nd) (List.mem_map.mpr ⟨h, hh, rfl⟩)
theorem row_get (O : Ord n T order) {h : List Int} (hh : h ∈ order) : dGet (rowsF n T order) h = some (rowF n T h) := by
  refine mem_dGet (by rw [rows_keys]; exact O.nd) (List.mem_map.mpr ⟨h, hh, rfl⟩)
theorem row_le (n : Nat) (T : List (List Int)) (h : List Int) : (rowF n T h).length ≤ 8 := Nat.le_trans (List.length_filterMap_le _ _) (alw_le n _)
theorem gt_len (k : Nat) (h : List Int) : ((GT n T (k + 1) h).length : Int) = ((rowF n T h).map fun p => ((GT n T k p.2).length : Int)).sum := by
  show ((((rowF n T h).flatMap fun p => (GT n T k p.2).map (p.1 :: ·)).length : Nat) : Int) = _
  induction rowF n T h with
  | nil => rfl
  | cons p l ih =>
    rw [List.flatMap_cons, List.length_append, List.length_map, List.map_cons, List.sum_cons, ← ih, Int.natCast_add]
theorem dcS_order {m : List Int → Option (Option (List Int × Int))} (O : Ord n T order) {k : Nat} (h : ∀ x ∈ order, m x = some (some (x, ((GT n T k x).length : Int)))) : dcS m order [] = some (cntF n T order k) := by
  have := dcS_fresh (m := m) (k := id) (f := fun x => ((GT n T k x).length : Int)) (xs := order) (w := []) h (by rw [List.map_id]; exact O.nd) (fun _ _ => rfl)
  rw [this, List.nil_append]
  rfl
theorem counts_ok (O : Ord n T order) {L : Int} (l0 : 0 ≤ L) (l1 : L ≤ 100000) : Q_counts_by_length (rowsF n T order) L = some ((List.range (L.toNat + 1)).map (cntF n T order)) := by
  have hlen : lenO order = some () := if_pos (by rw [sizeL]; have := O.few; omega)
  unfold Q_counts_by_length
  rw [rows_keys]
  refine bindS hlen (bindS (dcS_order (k := 0) O fun x _ => rfl) (bindS (rngO_ok (by omega)) ?_))
  obtain ⟨s, e, hs⟩ := lp_goN (f := fun (s6 : (List (List ((List Int) × Int)))) (turn7 : Int) => ((lenO order).bind fun z18 => (dcS (fun (here11 : (List Int)) => (((dGet (rowsF n T order) here11).bind fun t12 => (lcO (β := Int) (fun (x13 : (Int × (List Int))) => ((idx s6 (-1)).bind fun t15 => (dGet t15 x13.2).bind fun t16 => some t16)) t12).bind fun t17 => some (some (here11, t17.sum))) : Option (Option ((List Int) × Int)))) order []).bind fun t20 => (appO s6 t20).bind fun t21 => some t21)) (xs := range' 0 L) (fun i s => s = (List.range (i + 1)).map (cntF n T order)) (fun i x s hx hs => by
    obtain ⟨_, hi⟩ := rng_at hx
    subst hs
    refine ⟨(List.range (i + 1 + 1)).map (cntF n T order), bindS hlen (bindS (dcS_order (k := i + 1) O fun h hh => bindS (row_get O hh) (bindS (lcO_some (fun p => ((GT n T i p.2).length : Int)) (by rw [sizeL]; have := row_le n T h; omega) fun p hp => bindS (?_ : _ = some (cntF n T order i)) (bindS (cnt_get O i (O.cl h hh p hp)) rfl)) ?_)) (bindS (app_ok ?_) ?_)), rfl⟩
    · refine idx_last ?_
      rw [List.length_map, List.length_range, Nat.add_sub_cancel, List.getElem?_map, List.getElem?_range (by omega)]
      rfl
    · show some (some (h, ((rowF n T h).map fun p => ((GT n T i p.2).length : Int)).sum)) = _
      rw [gt_len]
    · rw [List.length_map, List.length_range, sizeL]
      omega
    · rw [List.range_succ (n := i + 1), List.map_append]
      rfl) (s0 := [cntF n T order 0]) rfl
  refine bindS e ?_
  rw [hs, rng_len, Int.sub_zero]
/-- all walks of L steps without told ones, in their order -/
def FW (n : Nat) (T : List (List Int)) (L : Nat) : List (List Int) := (Wf n L none).filter (avF T [])
theorem fw_eq (hT : Told n T) (L : Nat) : GT n T L [] = FW n T L := GT_eq hT.ne L rep_nil
theorem told_need (h1 : 1 ≤ n) (h4 : n ≤ 4) (hT : Told n T) : Q_need_told (n : Int) T = some () := by
  unfold Q_need_told
  obtain ⟨s, e, _⟩ := lp_goN (f := fun (s1 : Unit) (walk2 : (List Int)) => ((Q_is_a_walk walk2 (n : Int)).bind fun t6 => (if (!t6) = true then some true else ((if (!(decide (1 ≤ (walk2.length : Int)) && decide ((walk2.length : Int) ≤ 5))) = true then some true else ((Q_straightened walk2).bind fun t7 => some (!decide (t7 = walk2)))).bind fun t8 => some t8)).bind fun t9 => (if t9 = true then none else some ()))) (xs := T) (fun _ _ => True) (fun i t s hx _ => by
    obtain ⟨g, l1, l5, hs⟩ := hT.each t (List.mem_of_getElem? hx)
    have e1 : Q_is_a_walk t (n : Int) = some true := by
      have := walk_need h1 h4 hs (by omega)
      unfold Q_need_walk at this
      obtain ⟨b, eb, h⟩ := bnd this
      rw [eb]
      cases b with
      | false => cases h
      | true => rfl
    refine ⟨(), bindS e1 (bindS (a := false) ?_ rfl), trivial⟩
    have e2 : (decide (1 ≤ (t.length : Int)) && decide ((t.length : Int) ≤ 5)) = true := by
      rw [Bool.and_eq_true, decide_eq_true_eq, decide_eq_true_eq]
      omega
    rw [e2]
    show (((Q_straightened t).bind fun t7 => some (!decide (t7 = t))).bind fun t8 => some t8) = some false
    rw [straightW_ok (by omega), Option.bind_some, red_of g, decide_eq_true rfl]
    rfl) (s0 := ()) trivial
  exact bindS e rfl
theorem cnt_idx {L k : Nat} (h : k ≤ L) : idx ((List.range (L + 1)).map (cntF n T order)) (k : Int) = some (cntF n T order k) := idx_of (by omega) (by rw [Int.toNat_natCast, List.getElem?_map, List.getElem?_range (by omega)]; rfl)
theorem many_ok (h1 : 1 ≤ n) (h4 : n ≤ 4) (hT : Told n T) {L : Nat} (hL : L ≤ 100000) : Q_how_many_without (n : Int) T (L : Int) = some ((FW n T L).length : Int) := by
  obtain ⟨order, e, O⟩ := machine_ok h1 h4 hT
  unfold Q_how_many_without
  refine bindS (letters_ok h1 h4) (bindS (told_need h1 h4 hT) (bindS (number_ok (by omega)) (bindS e (bindS (counts_ok O (by omega) (by omega)) (bindS (?_ : _ = some (cntF n T order L)) (bindS (cnt_get O L O.nil) ?_))))))
  · rw [Int.toNat_natCast]
    exact cnt_idx (Nat.le_refl _)
  · rw [fw_eq hT]
theorem head_row {k : Nat} : ∀ {l : List (Int × List Int)}, (l.flatMap fun p => (GT n T k p.2).map (p.1 :: ·)) ≠ [] → ∃ q, (l.filterMap fun p => if decide ((0 : Int) < ((GT n T k p.2).length : Int)) = true then some (p.1, p.2) else none)[0]? = some q ∧ q ∈ l ∧ GT n T k q.2 ≠ [] ∧ (l.flatMap fun p => (GT n T k p.2).map (p.1 :: ·)).head? = (GT n T k q.2).head?.map (q.1 :: ·)
  | [], h => absurd rfl h
  | p :: l, h => by
    by_cases hp : GT n T k p.2 = []
    · rw [List.flatMap_cons, hp, List.map_nil, List.nil_append] at h ⊢
      obtain ⟨q, a, b, c, d⟩ := head_row h
      refine ⟨q, ?_, List.mem_cons_of_mem _ b, c, d⟩
      rw [List.filterMap_cons_none (by rw [hp]; rfl)]
      exact a
    · refine ⟨p, ?_, List.mem_cons_self, hp, ?_⟩
      · have : decide ((0 : Int) < ((GT n T k p.2).length : Int)) = true := decide_eq_true (by have := List.length_pos_iff.mpr hp; omega)
        rw [List.filterMap_cons_some (by rw [if_pos this])]
        rfl
      · rw [List.flatMap_cons]
        cases e : GT n T k p.2 with
        | nil => exact absurd e hp
        | cons x y => rfl
theorem first_ok (h1 : 1 ≤ n) (h4 : n ≤ 4) (hT : Told n T) {L : Nat} (hL : L ≤ 100000) : Q_first_without (n : Int) T (L : Int) = some (FW n T L).head? := by
  obtain ⟨order, e, O⟩ := machine_ok h1 h4 hT
  unfold Q_first_without
  refine bindS (letters_ok h1 h4) (bindS (told_need h1 h4 hT) (bindS (number_ok (by omega)) (bindS e (bindS (counts_ok O (by omega) (by omega)) (bindS (?_ : _ = some (cntF n T order L)) (bindS (cnt_get O L O.nil) ?_))))))
  · rw [Int.toNat_natCast]
    exact cnt_idx (Nat.le_refl _)
  · rw [Int.toNat_natCast]
    by_cases hz : GT n T L [] = []
    · rw [if_pos (decide_eq_true (by rw [hz]; rfl)), ← fw_eq hT, hz]
      rfl
    · rw [if_neg (by rw [decide_eq_true_eq]; have := List.length_pos_iff.mpr hz; omega)]
      have hr : rngDO ((L : Int) - 1) (-1) = some (rangeD ((L : Int) - 1) (-1)) := if_pos (by omega)
      refine bindS hr ?_
      obtain ⟨s, e2, g1, g2, g3⟩ := lp_goN (f := fun (s9 : ((List Int) × (List Int))) (left10 : Int) => ((dGet (rowsF n T order) s9.1).bind fun t14 => (lcG (β := (Int × (List Int))) (fun (x15 : (Int × (List Int))) => ((idx ((List.range (L + 1)).map (cntF n T order)) left10).bind fun t17 => (dGet t17 x15.2).bind fun t18 => if (decide (0 < t18)) = true then some (some (x15.1, x15.2)) else some none)) t14).bind fun t19 => (idx t19 0).bind fun t20 => ((catO (α := Int) s9.2 ([t20.1])).bind fun t21 => some (t20.2, t21)))) (xs := rangeD ((L : Int) - 1) (-1)) (fun i s => (s.1 ∈ order ∧ s.2.length = i) ∧ GT n T (L - i) s.1 ≠ [] ∧ (GT n T L []).head? = (GT n T (L - i) s.1).head?.map (s.2 ++ ·)) (fun i x s hx hs => by
        obtain ⟨⟨m1, m2⟩, m3, m4⟩ := hs
        obtain ⟨ex, hi⟩ : x = ((L - i - 1 : Nat) : Int) ∧ i < L := by
          have hl := (List.getElem?_eq_some_iff.mp hx).1
          unfold rangeD at hx hl
          rw [List.length_map, List.length_range] at hl
          rw [List.getElem?_map, List.getElem?_range hl] at hx
          have hx : (L : Int) - 1 + (i : Int) * (-1) = x := Option.some.inj hx
          omega
        obtain ⟨k, hk⟩ : ∃ k, L - i = k + 1 := ⟨L - i - 1, by omega⟩
        have ex : x = (k : Int) := by omega
        subst ex
        rw [hk] at m3 m4
        obtain ⟨q, q1, q2, q3, q4⟩ := head_row (n := n) (T := T) (k := k) (l := rowF n T s.1) m3
        refine ⟨(q.2, s.2 ++ [q.1]), bindS (row_get O m1) (bindS (lcG_some (fun p => if decide ((0 : Int) < ((GT n T k p.2).length : Int)) = true then some (p.1, p.2) else none) (by rw [sizeL]; have := row_le n T s.1; omega) fun p hp => bindS (cnt_idx (by omega)) (bindS (cnt_get O k (O.cl _ m1 p hp)) ?_)) (bindS (idx_of (Int.le_refl 0) q1) (bindS (cat_ok (xs := s.2) (ys := [q.1]) (by rw [List.length_singleton, sizeL]; show s.2.length + 1 ≤ _; omega)) rfl))), ⟨O.cl _ m1 q q2, by show (s.2 ++ [q.1]).length = _; rw [List.length_append, List.length_singleton, m2]⟩, ?_, ?_⟩
        · split <;> rfl
        · show GT n T (L - (i + 1)) q.2 ≠ []
          rw [show L - (i + 1) = k by omega]
          exact q3
        · show (GT n T L []).head? = (GT n T (L - (i + 1)) q.2).head?.map ((s.2 ++ [q.1]) ++ ·)
          rw [show L - (i + 1) = k by omega, m4]
          have q4 : (GT n T (k + 1) s.1).head? = (GT n T k q.2).head?.map (q.1 :: ·) := q4
          rw [q4, Option.map_map]
          congr 1
          funext z
          show s.2 ++ (q.1 :: z) = s.2 ++ [q.1] ++ z
          rw [List.append_assoc]
          rfl) (s0 := (([] : (List Int)), ([] : (List Int)))) ⟨⟨O.nil, rfl⟩, by rw [Nat.sub_zero]; exact hz, by
            rw [Nat.sub_zero]
            show _ = Option.map (fun z => z) _
            rw [Option.map_id']⟩
      refine bindS e2 ?_
      have hl : (rangeD ((L : Int) - 1) (-1)).length = L := by
        unfold rangeD
        rw [List.length_map, List.length_range]
        omega
      rw [hl, Nat.sub_self] at g3
      show some (some s.2) = _
      rw [← fw_eq hT, g3]
      show some (some s.2) = some (some (s.2 ++ []))
      rw [List.append_nil]
end
end O5
end Z
namespace Z
open PySem PySem.Spec L2
end Z
namespace Z
open PySem PySem.Spec L2
end Z
namespace Z
open PySem PySem.Spec L2
namespace O5
section
variable {n : Nat} (h1 : 1 ≤ n) (h4 : n ≤ 4)
include h1 h4
theorem S_stL : S n = stL (n : Int) := by
  rcases four h1 h4 with rfl | rfl | rfl | rfl <;> decide
theorem S_iff {x : Int} : x ∈ S n ↔ Sok (n : Int) x := by
  rw [S_stL h1 h4]
  exact mem_stL
variable {N : Nat} {D : Dd} (h : Dr (n : Int) N D)
include h
end
end O5
end Z
namespace Z
open PySem PySem.Spec L2
namespace O5
section
variable {n : Nat}
theorem wf_mem : ∀ {L : Nat} {p : Option Int} {w : List Int}, w ∈ Wf n L p ↔ ok n p w ∧ w.length = L
  | 0, p, w => by
    show w ∈ [[]] ↔ _
    rw [List.mem_singleton]
    constructor
    · rintro rfl; exact ⟨trivial, rfl⟩
    · rintro ⟨_, h⟩; exact List.length_eq_zero_iff.mp h
  | L + 1, p, w => by
    show w ∈ (alw n p).flatMap (fun s => (Wf n L (some s)).map (s :: ·)) ↔ _
    rw [List.mem_flatMap]
    constructor
    · rintro ⟨s, hs, h⟩
      obtain ⟨v, hv, rfl⟩ := List.mem_map.mp h
      obtain ⟨a, b⟩ := wf_mem.mp hv
      exact ⟨⟨hs, a⟩, by rw [List.length_cons, b]⟩
    · rintro ⟨h, hl⟩
      cases w with
      | nil => cases hl
      | cons s v =>
        exact ⟨s, h.1, List.mem_map.mpr ⟨v, wf_mem.mpr ⟨h.2, Nat.succ.inj hl⟩, rfl⟩⟩
theorem range_mul (D : Nat) : ∀ m : Nat, (List.range m).flatMap (fun i => (List.range D).map fun k => i * D + k) = List.range (m * D)
  | 0 => by rw [Nat.zero_mul]; rfl
  | m + 1 => by
    rw [List.range_succ, List.flatMap_append, range_mul D m, Nat.add_mul, Nat.one_mul, List.range_add]
    congr 1
    show (List.map (fun k => m * D + k) (List.range D)) ++ [] = _
    rw [List.append_nil]
variable (h1 : 1 ≤ n) (h4 : n ≤ 4)
include h1 h4
theorem alw_ix (p : Option Int) : (alw n p).map (ix n p) = List.range (alw n p).length := by
  refine List.ext_getElem? fun i => ?_
  rw [List.getElem?_map]
  rcases Nat.lt_or_ge i (alw n p).length with h | h
  · rw [List.getElem?_range h, List.getElem?_eq_getElem h]
    exact congrArg some (ix_eq h1 h4 (List.getElem?_eq_getElem h))
  · rw [List.getElem?_eq_none h, List.getElem?_eq_none (by rw [List.length_range]; exact h)]
    rfl
theorem wf_step {L D : Nat} {p : Option Int} (hD : D = dd n ^ L) (h : ∀ s ∈ alw n p, (Wf n L (some s)).map (num n (some s)) = List.range D) : (Wf n (L + 1) p).map (num n p) = List.range ((alw n p).length * D) := by
  show ((alw n p).flatMap (fun s => (Wf n L (some s)).map (s :: ·))).map (num n p) = _
  rw [List.map_flatMap, ← range_mul, ← alw_ix h1 h4, List.flatMap_map]
  refine flat_congr fun s hs => ?_
  rw [← h s hs, List.map_map, List.map_map]
  refine List.map_congr_left fun w hw => ?_
  show ix n p s * dd n ^ w.length + num n (some s) w = ix n p s * D + num n (some s) w
  rw [(wf_mem.mp hw).2, hD]
theorem wf_num : ∀ (L : Nat) {x : Int}, x ∈ S n → (Wf n L (some x)).map (num n (some x)) = List.range (dd n ^ L)
  | 0, x, hx => rfl
  | L + 1, x, hx => by
    rw [wf_step h1 h4 rfl fun s hs => wf_num L (alw_S hs), alw_some h1 h4 x hx, Nat.pow_succ, Nat.mul_comm]
theorem wf_numN (L : Nat) : (Wf n L none).map (num n none) = List.range (off n L) := by
  cases L with
  | zero => rfl
  | succ L =>
    rw [wf_step h1 h4 rfl fun s hs => wf_num h1 h4 L (alw_S hs), alw_none h1 h4]
    unfold off
    rw [if_neg (by omega), Nat.add_sub_cancel]
theorem wf_len (L : Nat) : (Wf n L none).length = off n L := by
  have := congrArg List.length (wf_numN h1 h4 L)
  rw [List.length_map, List.length_range] at this
  exact this
omit h1 h4
theorem fw_mem' {T : List (List Int)} {L : Nat} {w : List Int} : w ∈ FW n T L ↔ (ok n none w ∧ w.length = L) ∧ avF T [] w = true := by
  unfold FW
  rw [List.mem_filter, wf_mem]
/-- a told one lies in it -/
def inB (T : List (List Int)) (w : List Int) : Prop := ∃ t ∈ T, t <:+: w
theorem av_iff {T : List (List Int)} : ∀ {w u : List Int}, avF T u w = true ↔ ∀ v, v <+: w → v ≠ [] → ∀ t ∈ T, ¬ t <:+ u ++ v
  | [], u => by
    constructor
    · intro _ v hv hn
      exact absurd (List.prefix_nil.mp hv) hn
    · intro _; rfl
  | s :: w, u => by
    show (!sfxB T (u ++ [s]) && avF T (u ++ [s]) w) = true ↔ _
    rw [Bool.and_eq_true, av_iff]
    constructor
    · rintro ⟨a, b⟩ v hv hn t ht hs
      cases v with
      | nil => exact hn rfl
      | cons x v =>
        obtain ⟨e1, e2⟩ := List.cons_prefix_cons.mp hv
        subst e1
        cases v with
        | nil =>
          have := sfx_iff.mpr ⟨t, ht, hs⟩
          rw [this] at a
          cases a
        | cons y v =>
          refine b (y :: v) e2 (by simp) t ht ?_
          rw [List.append_assoc]
          exact hs
    · intro h
      refine ⟨?_, fun v hv hn t ht hs => h (s :: v) (List.cons_prefix_cons.mpr ⟨rfl, hv⟩) (by simp) t ht ?_⟩
      · cases e : sfxB T (u ++ [s]) with
        | false => rfl
        | true =>
          obtain ⟨t, ht, hs⟩ := sfx_iff.mp e
          exact absurd hs (h [s] (List.cons_prefix_cons.mpr ⟨rfl, List.nil_prefix⟩) (by simp) t ht)
      · rw [List.append_assoc] at hs
        exact hs
theorem av_in {T : List (List Int)} (hT : ∀ t ∈ T, t ≠ []) {w : List Int} : avF T [] w = true ↔ ¬ inB T w := by
  rw [av_iff]
  constructor
  · rintro h ⟨t, ht, a, b, e⟩
    refine h (a ++ t) ⟨b, e⟩ (fun z => hT t ht (List.append_eq_nil_iff.mp z).2) t ht ⟨a, rfl⟩
  · rintro h v ⟨b, e⟩ _ t ht ⟨a, e2⟩
    refine h ⟨t, ht, a, b, ?_⟩
    rw [← e]
    rw [show a ++ t = v from e2]
theorem ok_app : ∀ {a b : List Int} {p : Option Int}, ok n p (a ++ b) ↔ ok n p a ∧ ok n ((p.toList ++ a).getLast?) b
  | [], b, p => by
    rw [List.nil_append, List.append_nil]
    have : (p.toList).getLast? = p := by cases p <;> rfl
    rw [this]
    exact ⟨fun h => ⟨trivial, h⟩, fun h => h.2⟩
  | x :: a, b, p => by
    show (x ∈ alw n p ∧ ok n (some x) (a ++ b)) ↔ (x ∈ alw n p ∧ ok n (some x) a) ∧ _
    rw [ok_app (a := a) (p := some x)]
    have : (p.toList ++ x :: a).getLast? = ((some x).toList ++ a).getLast? := by
      rw [List.getLast?_append]
      show ((x :: a).getLast?).or _ = (x :: a).getLast?
      rw [List.getLast?_eq_some_getLast (by simp)]
      rfl
    rw [this, and_assoc]
end
end O5
end Z
namespace Z
open PySem PySem.Spec L2
namespace O5
section
variable {n : Nat}
def tb (T : List (List Int)) : List (List Int) := T.reverse.map iv
theorem fw_zero (T : List (List Int)) : FW n T 0 = [[]] := rfl
theorem fw_none (L : Nat) : FW n [] L = Wf n L none := by
  unfold FW
  refine List.filter_eq_self.mpr fun w _ => (av_in (T := []) (by simp)).mpr ?_
  rintro ⟨t, ht, _⟩
  exact nomatch ht
variable (h1 : 1 ≤ n) (h4 : n ≤ 4)
include h1 h4
omit h1 h4
end
end O5
end Z
namespace Z
open PySem PySem.Spec L2
namespace O5
section
variable {n : Nat}
theorem wf_snoc : ∀ (L : Nat) (p : Option Int), Wf n (L + 1) p = (Wf n L p).flatMap fun w => (alw n ((p.toList ++ w).getLast?)).map fun s => w ++ [s]
  | 0, p => by
    show (alw n p).flatMap (fun s => [[s]]) = [[]].flatMap _
    have e : (p.toList ++ []).getLast? = p := by cases p <;> rfl
    rw [List.flatMap_cons, List.flatMap_nil, List.append_nil, e]
    show (alw n p).flatMap (fun s => [[s]]) = (alw n p).map fun s => [s]
    generalize alw n p = l
    induction l with
    | nil => rfl
    | cons x l ih => rw [List.flatMap_cons, List.map_cons, ih]; rfl
  | L + 1, p => by
    show (alw n p).flatMap (fun s => (Wf n (L + 1) (some s)).map (s :: ·)) = ((alw n p).flatMap (fun s => (Wf n L (some s)).map (s :: ·))).flatMap _
    rw [List.flatMap_assoc]
    refine flat_congr fun s hs => ?_
    rw [wf_snoc L (some s), List.map_flatMap, List.flatMap_map]
    refine flat_congr fun w hw => ?_
    rw [List.map_map]
    have e : (p.toList ++ s :: w).getLast? = ((some s).toList ++ w).getLast? := by
      rw [List.getLast?_append]
      show ((s :: w).getLast?).or _ = (s :: w).getLast?
      rw [List.getLast?_eq_some_getLast (by simp)]
      rfl
    rw [e]
    rfl
theorem av_snoc {T : List (List Int)} (s : Int) : ∀ (w u : List Int), avF T u (w ++ [s]) = (avF T u w && !sfxB T (u ++ w ++ [s]))
  | [], u => by
    show (!sfxB T (u ++ [s]) && true) = (true && !sfxB T (u ++ [] ++ [s]))
    rw [List.append_nil, Bool.and_true, Bool.true_and]
  | x :: w, u => by
    show (!sfxB T (u ++ [x]) && avF T (u ++ [x]) (w ++ [s])) = ((!sfxB T (u ++ [x]) && avF T (u ++ [x]) w) && _)
    rw [av_snoc s w (u ++ [x]), Bool.and_assoc, show u ++ [x] ++ w = u ++ x :: w by simp]
theorem flat_filter {α β : Type} (q : α → Bool) (g : α → List β) : ∀ l : List α, (l.filter q).flatMap g = l.flatMap fun x => if q x = true then g x else []
  | [] => rfl
  | x :: l => by
    rw [List.flatMap_cons]
    by_cases h : q x = true
    · rw [List.filter_cons_of_pos h, List.flatMap_cons, if_pos h, flat_filter q g l]
    · rw [List.filter_cons_of_neg h, if_neg h, flat_filter q g l]
      rfl
/-- what a walk without told ones goes on to -/
def lgF (n : Nat) (T : List (List Int)) (w : List Int) : List (List Int) := ((alw n w.getLast?).filter fun s => !sfxB T (w ++ [s])).map fun s => w ++ [s]
theorem fw_snoc (T : List (List Int)) (L : Nat) : FW n T (L + 1) = (FW n T L).flatMap (lgF n T) := by
  unfold FW
  rw [wf_snoc, filter_flatMap, flat_filter]
  refine flat_congr fun w _ => ?_
  rw [List.filter_map]
  by_cases q : avF T [] w = true
  · rw [if_pos q]
    show _ = ((alw n w.getLast?).filter fun s => !sfxB T (w ++ [s])).map _
    congr 1
    refine List.filter_congr fun s _ => ?_
    show avF T [] (w ++ [s]) = _
    rw [av_snoc, q, Bool.true_and]
    rfl
  · rw [if_neg q, List.map_eq_nil_iff, List.filter_eq_nil_iff]
    intro s _ z
    have z : avF T [] (w ++ [s]) = true := z
    rw [av_snoc, Bool.and_eq_true] at z
    exact q z.1
theorem fm_ff {α β : Type} {c q r : α → Bool} {f : α → β} : ∀ {l : List α}, (∀ x ∈ l, c x = (q x && r x)) → l.filterMap (fun x => if c x = true then some (f x) else none) = ((l.filter q).filter r).map f
  | [], _ => rfl
  | x :: l, h => by
    have ih := fm_ff (l := l) (f := f) fun y hy => h y (List.mem_cons_of_mem _ hy)
    have hx := h x List.mem_cons_self
    cases e : q x with
    | false =>
      rw [List.filter_cons_of_neg (by rw [e]; simp), List.filterMap_cons_none (by rw [hx, e]; rfl)]
      exact ih
    | true =>
      rw [List.filter_cons_of_pos e]
      cases e2 : r x with
      | false =>
        rw [List.filter_cons_of_neg (by rw [e2]; simp), List.filterMap_cons_none (by rw [hx, e, e2]; rfl)]
        exact ih
      | true =>
        rw [List.filter_cons_of_pos e2, List.filterMap_cons_some (by rw [hx, e, e2]; rfl), List.map_cons, ih]
theorem flat_take {α β : Type} {g : α → List β} {l : List α} {i : Nat} {x : α} (h : l[i]? = some x) : (l.take (i + 1)).flatMap g = (l.take i).flatMap g ++ g x := by
  rw [List.take_add_one, h, List.flatMap_append]
  show _ ++ ([x] : List α).flatMap g = _
  rw [List.flatMap_cons, List.flatMap_nil, List.append_nil]
theorem lg_len (T : List (List Int)) (w : List Int) : (lgF n T w).length ≤ 8 := by
  unfold lgF
  rw [List.length_map]
  exact Nat.le_trans (List.length_filter_le _ _) (alw_le n _)
theorem flat_le {α β : Type} {g : α → List β} {K : Nat} (h : ∀ x, (g x).length ≤ K) : ∀ l : List α, (l.flatMap g).length ≤ l.length * K
  | [] => Nat.zero_le _
  | x :: l => by
    have a := flat_le h l
    have b := h x
    rw [List.flatMap_cons, List.length_append, List.length_cons, Nat.add_mul]
    omega
theorem S_le (n : Nat) : (S n).length ≤ 8 := by
  unfold S
  rw [List.length_take]
  exact Nat.min_le_right _ _
theorem lpR_brk {α R S : Type} {f : S → α → Option (Step R S)} (Q : S → Prop) : ∀ {xs : List α} (P : Nat → S → Prop), (∀ (i : Nat) (x : α) (s : S), xs[i]? = some x → P i s → (∃ s', f s x = some (.go s') ∧ P (i + 1) s') ∨ ∃ s', f s x = some (.brk s') ∧ Q s') → ∀ {s0 : S}, P 0 s0 → ∃ s', lpR f xs s0 = some (.inr s') ∧ (Q s' ∨ P xs.length s')
  | [], P, _, s0, h0 => ⟨s0, rfl, .inr h0⟩
  | x :: xs, P, h, s0, h0 => by
    rcases h 0 x s0 rfl h0 with ⟨s1, e, h1⟩ | ⟨s1, e, h1⟩
    · obtain ⟨s2, e2, h2⟩ := lpR_brk Q (xs := xs) (fun i => P (i + 1)) (fun i y s hy hs => h (i + 1) y s (by simpa using hy) hs) h1
      exact ⟨s2, by unfold lpR; rw [e]; exact e2, h2⟩
    · exact ⟨s1, by unfold lpR; rw [e]; rfl, .inl h1⟩
theorem dof_go {κ β : Type} [DecidableEq κ] : ∀ (w acc : List (κ × β)), ((acc ++ w).map Prod.fst).Nodup → w.foldl (fun d p => dPut d p.1 p.2) acc = acc ++ w
  | [], acc, _ => by simp
  | p :: w, acc, h => by
    have e : dPut acc p.1 p.2 = acc ++ [p] := put_new _ (Bool.eq_false_iff.mpr fun z => by
      have z := dGet_key_mem.mp z
      rw [List.map_append, List.nodup_append] at h
      exact h.2.2 _ z _ (List.mem_map.mpr ⟨p, List.mem_cons_self, rfl⟩) rfl)
    have := dof_go w (acc ++ [p]) (by rw [List.append_assoc]; exact h)
    rw [List.append_assoc] at this
    show w.foldl _ (dPut acc p.1 p.2) = _
    rw [e]
    exact this
theorem dof_nd {κ β : Type} [DecidableEq κ] {w : List (κ × β)} (h : (w.map Prod.fst).Nodup) : dOf w = w := dof_go w [] h
theorem eq_rows {κ β : Type} [DecidableEq κ] {d : List (κ × β)} {order : List κ} {f : κ → β} (hk : d.map Prod.fst = order) (hn : order.Nodup) (h : ∀ k ∈ order, dGet d k = some (f k)) : d = order.map fun k => (k, f k) := by
  rw [← hk, List.map_map]
  conv => lhs; rw [← List.map_id d]
  refine List.map_congr_left fun p hp => ?_
  have a := mem_dGet (k := p.1) (v := p.2) (by rw [hk]; exact hn) hp
  have b := h p.1 (hk ▸ List.mem_map.mpr ⟨p, hp, rfl⟩)
  rw [a] at b
  show p = (p.1, f p.1)
  rw [← Option.some.inj b]
def cF (f : Int) (t : Int × Int × Int × Int) (s : Int) : Int := if s = f then t.1 else if s = -f then t.2.1 else t.2.2.1
theorem sum_neg {n : Nat} (h1 : 1 ≤ n) (h4 : n ≤ 4) (A : Int) (g : Int → Int) : ((S n).map fun s => A - g (-s)).sum = 2 * (n : Int) * A - ((S n).map g).sum := by
  have : n = 1 ∨ n = 2 ∨ n = 3 ∨ n = 4 := by omega
  rcases this with rfl | rfl | rfl | rfl <;> simp [S] <;> omega
theorem three_ok : ∀ n ∈ [(1 : Nat), 2, 3, 4], ∀ x ∈ S n, ∀ y ∈ S n, ((Wf n 3 none).filter fun w => decide (w[0]? = some x ∧ w[2]? = some y)).length = if y = x then dd n else dd n - 1 := by decide +kernel
end
end O5
end Z
namespace L06
open PySem PySem.Spec L2 Z Z.O5
theorem wh_ret {R R' S : Type} {c : S → Option Bool} {f : S → Option (Step R S)} {f' : S → Option (Step R' S)} (h : ∀ s x, f s = some x → ∃ s', x = .go s' ∧ f' s = some (.go s')) : ∀ {n : Nat} {s x : S}, wh c f n s = some (.inr x) → wh c f' n s = some (.inr x)
  | 0, _, _, e => nomatch e
  | n + 1, s, x, e => by
    unfold wh at e ⊢
    obtain ⟨b, eb, e⟩ := bnd e
    refine bindS eb ?_
    cases b with
    | false =>
      rw [if_neg (by simp)] at e ⊢
      exact congrArg some (congrArg Sum.inr (Sum.inr.inj (Option.some.inj e)))
    | true =>
      rw [if_pos rfl] at e ⊢
      obtain ⟨y, ey, e⟩ := bnd e
      obtain ⟨s', rfl, e2⟩ := h s y ey
      exact bindS e2 (wh_ret h e)
theorem needO {l : Int} {T : List (List Int)} (h : Q_need_told l T = some ()) : m_p_need_toldO l T = some ((), T) := by
  unfold Q_need_told at h
  obtain ⟨s, e, _⟩ := bnd h
  unfold m_p_need_toldO
  exact bindS e rfl
theorem machO {l : Int} {T : List (List Int)} {tb : Tab} (h : Q_machine l T = some tb) : m_p_machineO l T = some (tb, T) := by
  unfold Q_machine at h
  obtain ⟨t4, e4, h⟩ := bnd h
  obtain ⟨t5, e5, h⟩ := bnd h
  obtain ⟨o, eo, h⟩ := bnd h
  unfold m_p_machineO
  cases o with
  | inl r => cases h
  | inr x =>
    have h : some x.2.2 = some tb := h
    cases h
    refine bindS e4 (bindS e5 (bindS (wh_ret (fun s y hy => ?_) eo) rfl))
    obtain ⟨a1, b1, hy⟩ := bnd hy
    obtain ⟨a2, b2, hy⟩ := bnd hy
    obtain ⟨a3, b3, hy⟩ := bnd hy
    obtain ⟨a4, b4, hy⟩ := bnd hy
    obtain ⟨a5, b5, hy⟩ := bnd hy
    exact ⟨_, (Option.some.inj hy).symm, bindS b1 (bindS b2 (bindS b3 (bindS b4 (bindS b5 rfl))))⟩
theorem manyO {l L : Int} {T : List (List Int)} {v : Int} (h : Q_how_many_without l T L = some v) : m_p_how_many_withoutO l T L = some (v, T) := by
  unfold Q_how_many_without at h
  obtain ⟨a1, b1, h⟩ := bnd h
  obtain ⟨a2, b2, h⟩ := bnd h
  obtain ⟨a3, b3, h⟩ := bnd h
  obtain ⟨a4, b4, h⟩ := bnd h
  obtain ⟨a5, b5, h⟩ := bnd h
  obtain ⟨a6, b6, h⟩ := bnd h
  obtain ⟨a7, b7, h⟩ := bnd h
  cases h
  unfold m_p_how_many_withoutO
  exact bindS b1 (bindS (needO b2) (bindS b3 (bindS (machO b4) (bindS b5 (bindS b6 (bindS b7 rfl))))))
theorem frstO {l L : Int} {T : List (List Int)} {v : Option (List Int)} (h : Q_first_without l T L = some v) : m_p_first_withoutO l T L = some (v, T) := by
  unfold Q_first_without at h
  obtain ⟨a1, b1, h⟩ := bnd h
  obtain ⟨a2, b2, h⟩ := bnd h
  obtain ⟨a3, b3, h⟩ := bnd h
  obtain ⟨a4, b4, h⟩ := bnd h
  obtain ⟨a5, b5, h⟩ := bnd h
  obtain ⟨a6, b6, h⟩ := bnd h
  obtain ⟨a7, b7, h⟩ := bnd h
  unfold m_p_first_withoutO
  refine bindS b1 (bindS (needO b2) (bindS b3 (bindS (machO b4) (bindS b5 (bindS b6 (bindS b7 ?_))))))
  by_cases hz : decide (a7 = 0) = true
  · rw [if_pos hz] at h ⊢
    cases h
    rfl
  · rw [if_neg hz] at h ⊢
    obtain ⟨a8, b8, h⟩ := bnd h
    obtain ⟨a9, b9, h⟩ := bnd h
    cases h
    exact bindS b8 (bindS b9 rfl)
section
variable {n : Nat} (h1 : 1 ≤ n) (h4 : n ≤ 4)
include h1 h4
theorem hm_ok {T : List (List Int)} (hT : Told n T) {L : Nat} (hL : L ≤ 100000) : m_p_how_many_without (n : Int) T (L : Int) = some ((FW n T L).length : Int) := many_ok h1 h4 hT hL
theorem fs_ok {T : List (List Int)} (hT : Told n T) {L : Nat} (hL : L ≤ 100000) : m_p_first_without (n : Int) T (L : Int) = some (FW n T L).head? := O5.first_ok h1 h4 hT hL
theorem lsteps_ok : m_l_steps (n : Int) = some (S n) := steps_ok h1 h4
omit h1 h4 in
theorem free_ok {T : List (List Int)} (hT : Told n T) (w : List Int) : m_l_free T w = some (!sfxB T w) := by
  have := hT.few
  unfold m_l_free lcF
  rw [if_pos (by rw [sizeL]; omega), Option.bind_some, List.map_id']
  refine congrArg some ?_
  rw [Bool.eq_iff_iff, decide_eq_true_eq, List.filter_eq_nil_iff, Bool.not_eq_true']
  unfold sfxB
  rw [List.any_eq_false]
  constructor
  · intro h t ht z
    refine h t ht ?_
    rw [cut_neg _ (hT.each t ht).2.1]
    exact z
  · intro h t ht z
    rw [cut_neg _ (hT.each t ht).2.1] at z
    exact h t ht z
omit h1 h4 in
theorem lend_ok {T : List (List Int)} (hT : Told n T) {w : List Int} (hne : w ≠ []) (hl : w.length ≤ 1000) : m_l_end T w = some (ekF T w) := by
  have hfew := hT.few
  have hp : 1 ≤ w.length := List.length_pos_iff.mpr hne
  unfold m_l_end
  refine bindS (rngO_ok (by omega)) ?_
  have hc : ∀ i : Nat, i < w.length → lcF (fun (other7 : (List Int)) => ((decide (((w.length : Int) - (i : Int)) < (other7.length : Int))) && (decide ((cut other7 none (some ((w.length : Int) - (i : Int)))) = (cut w (some (i : Int)) none))))) (fun (other7 : (List Int)) => other7) T = some (T.filter fun t => decide (1 ≤ (w.drop i).length ∧ (w.drop i).length < t.length ∧ t.take (w.drop i).length = w.drop i)) := fun i hi => by
    unfold lcF
    rw [if_pos (by rw [sizeL]; omega), List.map_id']
    refine congrArg some (List.filter_congr fun t _ => ?_)
    have e : ((w.length : Int) - (i : Int)).toNat = w.length - i := by omega
    rw [cut_to _ (by omega), cut_from _ (by omega), Int.toNat_natCast, e, List.length_drop, Bool.eq_iff_iff, Bool.and_eq_true, decide_eq_true_eq, decide_eq_true_eq, decide_eq_true_eq]
    constructor
    · rintro ⟨a, b⟩; exact ⟨by omega, by omega, b⟩
    · rintro ⟨a, b, c⟩; exact ⟨by omega, c⟩
  have hb : ∀ i : Nat, (T.filter fun t => decide (1 ≤ (w.drop i).length ∧ (w.drop i).length < t.length ∧ t.take (w.drop i).length = w.drop i)) = [] ↔ bgB T (w.drop i) = false := fun i => by
    unfold bgB
    rw [List.filter_eq_nil_iff, List.any_eq_false]
  have step := lpR_mix (f := (fun (s2 : Unit) (at_3 : Int) => (((lcF (fun (other7 : (List Int)) => ((decide (((w.length : Int) - at_3) < (other7.length : Int))) && (decide ((cut other7 none (some ((w.length : Int) - at_3))) = (cut w (some at_3) none))))) (fun (other7 : (List Int)) => other7) T).bind fun t9 => (if (!decide (t9 = ([] : (List (List Int))))) = true then some (Step.ret (cut w (some at_3) none)) else some (Step.go ()))) : Option (Step (List Int) Unit)))) (fun r => r = ekF T w) (xs := range' 0 ((w.length : Int) - 1)) (fun i _ => ∀ j, j < i → bgB T (w.drop j) = false) (fun i x s hx hs => by
    obtain ⟨ex, hi⟩ := rng_at hx
    have ex : x = (i : Int) := by omega
    subst ex
    by_cases hz : bgB T (w.drop i) = true
    · refine .inr ⟨w.drop i, bindS (hc i (by omega)) ?_, (ek_at (by omega) hz hs).symm⟩
      rw [if_pos, cut_from _ (by omega), Int.toNat_natCast]
      rw [Bool.not_eq_true', decide_eq_false_iff_not]
      intro z
      rw [(hb i).mp z] at hz
      cases hz
    · have hz := Bool.eq_false_iff.mpr hz
      refine .inl ⟨(), bindS (hc i (by omega)) ?_, fun j hj => ?_⟩
      · rw [if_neg]
        rw [(hb i).mpr hz, decide_eq_true rfl]
        simp
      · rcases Nat.lt_or_ge j i with z | z
        · exact hs j z
        · have : j = i := by omega
          rw [this]
          exact hz) (s0 := ()) (fun j hj => absurd hj (Nat.not_lt_zero _))
  rcases step with ⟨s, e, h⟩ | ⟨r, e, h⟩
  · refine bindS e ?_
    show some (cut w (some (-1)) none) = _
    rw [rng_len] at h
    rw [cut_last]
    refine congrArg some ?_
    have hd : w.drop (w.length - 1) = w.getLast?.toList := by
      rw [← cut_last w]
      have := cut_neg w (k := 1) (Nat.le_refl 1)
      exact this.symm
    by_cases hz : bgB T (w.drop (w.length - 1)) = true
    · rw [ek_at (by omega) hz fun j hj => h j (by omega), hd]
    · rw [ek_no hne fun j hj => ?_]
      rcases Nat.lt_or_ge j (w.length - 1) with z | z
      · exact h j (by omega)
      · have : j = w.length - 1 := by omega
        rw [this]
        exact Bool.eq_false_iff.mpr hz
  · refine bindS e ?_
    show some r = _
    rw [h]
omit h1 h4 in
/-- the steps a walk may go on by -/
theorem go_on (w : List Int) (x : Int) : (!decide ((cut w (some (-1)) none) = [(-x)])) = decide (w.getLast? ≠ some (-x)) := by
  rw [O5.cut_last]
  exact last_test _ x
omit h1 h4 in
theorem grow_ok {T : List (List Int)} (hT : Told n T) {w : List Int} (hw : w.length ≤ 100) {s : List (List Int)} (hs : s.length ≤ 900) : lp (fun (s13 : (List (List Int))) (step14 : Int) => ((if (!decide ((cut w (some (-1)) none) = [(-step14)])) = true then ((catO (α := Int) w ([step14])).bind fun t18 => (m_l_free T t18).bind fun t19 => some t19) else some false).bind fun t20 => ((if t20 = true then ((catO (α := Int) w ([step14])).bind fun t21 => (appO s13 t21).bind fun t22 => some t22) else some s13 : Option (List (List Int))).bind fun s23 => some s23))) (S n) s = some (s ++ lgF n T w) := by
  have hS := S_le n
  have hcat : ∀ x : Int, catO (α := Int) w [x] = some (w ++ [x]) := fun x => cat_ok (by rw [List.length_singleton, sizeL]; omega)
  rw [lp_fm (g := fun x => if (decide (w.getLast? ≠ some (-x)) && !sfxB T (w ++ [x])) = true then some (w ++ [x]) else none) (fun x _ s hs => ?_) (by omega)]
  · rw [fm_ff (q := fun x => decide (w.getLast? ≠ some (-x))) (r := fun x => !sfxB T (w ++ [x])) (f := fun x => w ++ [x]) fun _ _ => rfl]
    rfl
  · rw [go_on, hcat, Option.bind_some, free_ok hT, Option.bind_some]
    cases decide (w.getLast? ≠ some (-x)) with
    | false => rfl
    | true =>
      cases e : sfxB T (w ++ [x]) with
      | true => rfl
      | false =>
        show (((some (w ++ [x])).bind fun t21 => (appO s t21).bind fun t22 => some t22).bind fun s23 => some s23) = some (s ++ [w ++ [x]])
        rw [Option.bind_some, Z.app_ok (by rw [sizeL]; omega)]
        rfl
theorem fw_off (T : List (List Int)) (L : Nat) : (FW n T L).length ≤ O5.off n L := by
  rw [← wf_len h1 h4 L]
  exact List.length_filter_le _ _
theorem all_ok {T : List (List Int)} (hT : Told n T) {L : Nat} (hL : L ≤ 90) (hB : ∀ i, i < L → O5.off n i ≤ 110) : m_l_all (n : Int) T (L : Int) = some (FW n T L) := by
  unfold m_l_all
  refine bindS (rngO_ok (by omega)) ?_
  obtain ⟨s, e, g⟩ := lp_goN (f := fun (s2 : (List (List Int))) (turn3 : Int) => ((lp (fun (s7 : (List (List Int))) (walk8 : (List Int)) => ((m_l_steps (n : Int)).bind fun t12 => ((lp (fun (s13 : (List (List Int))) (step14 : Int) => ((if (!decide ((cut walk8 (some (-1)) none) = [(-step14)])) = true then ((catO (α := Int) walk8 ([step14])).bind fun t18 => (m_l_free T t18).bind fun t19 => some t19) else some false).bind fun t20 => ((if t20 = true then ((catO (α := Int) walk8 ([step14])).bind fun t21 => (appO s13 t21).bind fun t22 => some t22) else some s13 : Option (List (List Int))).bind fun s23 => some s23))) t12 s7).bind fun f15 => some f15))) s2 ([] : (List (List Int)))).bind fun f9 => some f9)) (xs := range' 0 (L : Int)) (fun i s => s = FW n T i) (fun i x s hx hs => by
    obtain ⟨_, hi⟩ := rng_at hx
    subst hs
    have hlen := fw_off h1 h4 T i
    have hb := hB i (by omega)
    obtain ⟨s, e, g⟩ := lp_goN (f := fun (s7 : (List (List Int))) (walk8 : (List Int)) => ((m_l_steps (n : Int)).bind fun t12 => ((lp (fun (s13 : (List (List Int))) (step14 : Int) => ((if (!decide ((cut walk8 (some (-1)) none) = [(-step14)])) = true then ((catO (α := Int) walk8 ([step14])).bind fun t18 => (m_l_free T t18).bind fun t19 => some t19) else some false).bind fun t20 => ((if t20 = true then ((catO (α := Int) walk8 ([step14])).bind fun t21 => (appO s13 t21).bind fun t22 => some t22) else some s13 : Option (List (List Int))).bind fun s23 => some s23))) t12 s7).bind fun f15 => some f15))) (xs := FW n T i) (fun j s => s = ((FW n T i).take j).flatMap (lgF n T)) (fun j w s hw hs => by
      subst hs
      have hj := (List.getElem?_eq_some_iff.mp hw).1
      have wl := (fw_mem'.mp (List.mem_of_getElem? hw)).1.2
      have fl := flat_le (g := lgF n T) (K := 8) (lg_len T) ((FW n T i).take j)
      rw [List.length_take] at fl
      refine ⟨_, bindS (lsteps_ok h1 h4) (bindS (grow_ok hT (by omega) (by omega)) rfl), ?_⟩
      rw [flat_take hw]) (s0 := []) (by rw [List.take_zero]; rfl)
    refine ⟨_, bindS e rfl, ?_⟩
    rw [g, List.take_length, fw_snoc]) (s0 := [[]]) (fw_zero T).symm
  refine bindS e ?_
  rw [g, rng_len, Int.sub_zero, Int.toNat_natCast]
omit h1 h4 in
theorem uv8 {T : List (List Int)} (hT : Told n T) (h8 : T.length ≤ 8) : (Uv n T).length ≤ 49 := by
  have a := O5.sum_le fun t ht => (hT.each t ht).2.2.1
  have c := S_le n
  unfold Uv
  rw [List.length_cons, List.length_append, List.length_map]
  omega
omit h1 h4 in
theorem goals2 {T : List (List Int)} (hT : Told n T) (h8 : T.length ≤ 8) : ∀ (row : List (Int × List Int)) (order : List (List Int)) (d : Tab), d.map Prod.fst = order → order.Nodup → (∀ v ∈ order, v ∈ Uv n T) → (∀ p ∈ row, p.2 ∈ Uv n T) → ∃ o2 d', lp (fun (s26 : ((List (List Int)) × (List ((List Int) × (List (Int × (List Int))))))) (x27 : (Int × (List Int))) => ((if (!(dGet s26.2 x27.2).isSome) = true then ((dPutO s26.2 x27.2 ([] : (List (Int × (List Int))))).bind fun t31 => ((appO s26.1 x27.2).bind fun t32 => some (t32, t31))) else some (s26.1, s26.2) : Option ((List (List Int)) × (List ((List Int) × (List (Int × (List Int))))))).bind fun s33 => some (s33.1, s33.2))) row (order, d) = some (order ++ o2, d') ∧ d'.map Prod.fst = order ++ o2 ∧ (order ++ o2).Nodup ∧ (∀ v ∈ order ++ o2, v ∈ Uv n T) ∧ (∀ p ∈ row, p.2 ∈ order ++ o2) ∧ ∀ k ∈ order, dGet d' k = dGet d k
  | [], order, d, hk, hn, hu, _ => ⟨[], d, by simp [lp], by simpa using hk, by simpa using hn, by simpa using hu, (fun _ h => nomatch h), fun _ _ => rfl⟩
  | x :: row, order, d, hk, hn, hu, hp => by
    have hx := hp x List.mem_cons_self
    by_cases hm : x.2 ∈ order
    · obtain ⟨o2, d', e, q1, q2, q3, q4, q5⟩ := goals2 hT h8 row order d hk hn hu fun p h => hp p (List.mem_cons_of_mem _ h)
      refine ⟨o2, d', ?_, q1, q2, q3, fun p h => ?_, q5⟩
      · unfold lp
        refine bindS (a := (order, d)) ?_ e
        have : (dGet d x.2).isSome = true := dGet_key_mem.mpr (hk ▸ hm)
        rw [this]
        rfl
      · rcases List.mem_cons.mp h with z | z
        · rw [z]; exact List.mem_append.mpr (.inl hm)
        · exact q4 p z
    · have hn2 : (order ++ [x.2]).Nodup := by
        rw [List.nodup_append]
        exact ⟨hn, by simp, fun a ha b hb z => by
          rw [List.mem_singleton.mp hb] at z
          exact hm (z ▸ ha)⟩
      have hf : (dGet d x.2).isSome = false := Bool.eq_false_iff.mpr fun z => hm (hk ▸ dGet_key_mem.mp z)
      have hk2 : (dPut d x.2 ([] : (List (Int × (List Int))))).map Prod.fst = order ++ [x.2] := by
        rw [dPut_keys, hf, hk]
        rfl
      obtain ⟨o2, d', e, q1, q2, q3, q4, q5⟩ := goals2 hT h8 row (order ++ [x.2]) (dPut d x.2 []) hk2 hn2 (fun v hv => by
        rcases List.mem_append.mp hv with z | z
        · exact hu v z
        · rw [List.mem_singleton.mp z]; exact hx) fun p h => hp p (List.mem_cons_of_mem _ h)
      rw [List.append_assoc] at e q1 q2 q3 q4
      refine ⟨x.2 :: o2, d', ?_, q1, q2, q3, fun p h => ?_, fun k hk' => ?_⟩
      · unfold lp
        refine bindS (a := (order ++ [x.2], dPut d x.2 [])) ?_ e
        have hl := nodup_le order (Uv n T) hn hu
        have hl2 := uv8 hT h8
        have hdl : d.length = order.length := by rw [← hk, List.length_map]
        show ((if (!(dGet d x.2).isSome) = true then _ else _ : Option ((List (List Int)) × (List ((List Int) × (List (Int × (List Int))))))).bind fun s33 => some (s33.1, s33.2)) = _
        rw [hf, if_pos (show (!false) = true from rfl)]
        refine bindS (bindS (putO_ok (by rw [sizeL]; show d.length < _; omega)) (bindS (Z.app_ok (by rw [sizeL]; show order.length < _; omega)) rfl)) rfl
      · rcases List.mem_cons.mp h with z | z
        · rw [z]; exact List.mem_append.mpr (.inr List.mem_cons_self)
        · exact q4 p z
      · rw [q5 k (List.mem_append.mpr (.inl hk')), dGet_put, if_neg (show ¬ x.2 = k from fun z => hm (by rw [z]; exact hk'))]
omit h1 h4 in
theorem lrow_ok {T : List (List Int)} (hT : Told n T) {h : List Int} (hl : h.length ≤ 900) : lp (fun (s12 : (List (Int × (List Int)))) (step13 : Int) => ((if (!decide ((cut h (some (-1)) none) = [(-step13)])) = true then ((catO (α := Int) h ([step13])).bind fun t17 => (m_l_free T t17).bind fun t18 => some t18) else some false).bind fun t19 => ((if t19 = true then ((catO (α := Int) h ([step13])).bind fun t20 => (m_l_end T t20).bind fun t21 => (appO s12 (step13, t21)).bind fun t22 => some t22) else some s12 : Option (List (Int × (List Int)))).bind fun s23 => some s23))) (S n) ([] : (List (Int × (List Int)))) = some (rowF n T h) := by
  have hS := S_le n
  have hcat : ∀ x : Int, catO (α := Int) h [x] = some (h ++ [x]) := fun x => cat_ok (by rw [List.length_singleton, sizeL]; omega)
  rw [lp_fm (g := fun x => if decide (h.getLast? ≠ some (-x)) = true then (if sfxB T (h ++ [x]) = true then none else some (x, ekF T (h ++ [x]))) else none) (fun x _ s hs => ?_) (by simp; omega)]
  · rw [List.nil_append]
    unfold rowF alw
    rw [List.filterMap_filter]
  · rw [go_on, hcat, Option.bind_some, free_ok hT, Option.bind_some]
    cases decide (h.getLast? ≠ some (-x)) with
    | false => rfl
    | true =>
      cases e : sfxB T (h ++ [x]) with
      | true => rfl
      | false =>
        show (((some (h ++ [x])).bind fun t20 => (m_l_end T t20).bind fun t21 => (appO s (x, t21)).bind fun t22 => some t22).bind fun s23 => some s23) = some (s ++ [(x, ekF T (h ++ [x]))])
        rw [Option.bind_some, lend_ok hT (by simp) (by rw [List.length_append, List.length_singleton]; omega), Option.bind_some, Z.app_ok (by rw [sizeL]; omega)]
        rfl
structure Wi (n : Nat) (T : List (List Int)) (i : Nat) (s : List (List Int) × Tab) : Prop where
  le : i ≤ s.1.length
  keys : (i = 0 ∧ s = ([[]], [])) ∨ s.2.map Prod.fst = s.1
  rows : ∀ h ∈ s.1.take i, dGet s.2 h = some (rowF n T h)
  cl : ∀ h ∈ s.1.take i, ∀ p ∈ rowF n T h, p.2 ∈ s.1
  nd : s.1.Nodup
  nil : [] ∈ s.1
  uv : ∀ h ∈ s.1, h ∈ Uv n T
theorem ways_ok {T : List (List Int)} (hT : Told n T) (h8 : T.length ≤ 8) : ∃ order, m_l_ways (n : Int) T = some (rowsF n T order) ∧ Ord n T order := by
  have hu49 := uv8 hT h8
  obtain ⟨s, e, g⟩ := lpR_brk (R := Tab) (f := (fun (s4 : ((List (List Int)) × (List ((List Int) × (List (Int × (List Int))))))) (at_5 : Int) => ((if (decide ((s4.1.length : Int) ≤ at_5)) = true then some (Step.brk (s4.1, s4.2)) else ((idx s4.1 at_5).bind fun t9 => ((m_l_steps (n : Int)).bind fun t11 => ((lp (fun (s12 : (List (Int × (List Int)))) (step13 : Int) => ((if (!decide ((cut t9 (some (-1)) none) = [(-step13)])) = true then ((catO (α := Int) t9 ([step13])).bind fun t17 => (m_l_free T t17).bind fun t18 => some t18) else some false).bind fun t19 => ((if t19 = true then ((catO (α := Int) t9 ([step13])).bind fun t20 => (m_l_end T t20).bind fun t21 => (appO s12 (step13, t21)).bind fun t22 => some t22) else some s12 : Option (List (Int × (List Int)))).bind fun s23 => some s23))) t11 ([] : (List (Int × (List Int))))).bind fun f14 => ((dPutO s4.2 t9 f14).bind fun t25 => ((lp (fun (s26 : ((List (List Int)) × (List ((List Int) × (List (Int × (List Int))))))) (x27 : (Int × (List Int))) => ((if (!(dGet s26.2 x27.2).isSome) = true then ((dPutO s26.2 x27.2 ([] : (List (Int × (List Int))))).bind fun t31 => ((appO s26.1 x27.2).bind fun t32 => some (t32, t31))) else some (s26.1, s26.2) : Option ((List (List Int)) × (List ((List Int) × (List (Int × (List Int))))))).bind fun s33 => some (s33.1, s33.2))) f14 (s4.1, t25)).bind fun f28 => some (Step.go (f28.1, f28.2)))))))) : Option (Step (List ((List Int) × (List (Int × (List Int))))) ((List (List Int)) × (List ((List Int) × (List (Int × (List Int))))))))))
    (fun s => Ord n T s.1 ∧ s.2 = rowsF n T s.1) (xs := range' 0 60) (fun i s => Wi n T i s) (fun i x s hx W => by
    obtain ⟨ex, hi⟩ := rng_at hx
    have ex : x = (i : Int) := by omega
    subst ex
    obtain ⟨order, d⟩ := s
    have hn : order.Nodup := W.nd
    have hu : ∀ h ∈ order, h ∈ Uv n T := W.uv
    have hl := nodup_le order (Uv n T) hn hu
    have hle : i ≤ order.length := W.le
    by_cases hz : order.length ≤ i
    · right
      refine ⟨(order, d), if_pos (decide_eq_true (by show (order.length : Int) ≤ (i : Int); omega)), ?_⟩
      have ht : order.take i = order := List.take_of_length_le hz
      have hr := W.rows
      have hc := W.cl
      have hr : ∀ h ∈ order.take i, dGet d h = some (rowF n T h) := hr
      have hc : ∀ h ∈ order.take i, ∀ p ∈ rowF n T h, p.2 ∈ order := hc
      rw [ht] at hr hc
      refine ⟨⟨hn, W.nil, hc, by show order.length ≤ 120; omega⟩, ?_⟩
      rcases W.keys with ⟨z, z2⟩ | z
      · cases z2
        subst z
        exact absurd hz (by decide)
      · exact eq_rows z hn hr
    · left
      have hi2 : i < order.length := by omega
      have hh : order[i]? = some order[i] := List.getElem?_eq_getElem hi2
      generalize order[i] = h at hh
      have hm : h ∈ order := List.mem_of_getElem? hh
      have ht : order.take (i + 1) = order.take i ++ [h] := by rw [List.take_add_one, hh]; rfl
      have hd : d.length ≤ order.length ∧ (dPut d h (rowF n T h)).map Prod.fst = order := by
        rcases W.keys with ⟨z, z2⟩ | z
        · cases z2
          subst z
          have : h = [] := (Option.some.inj hh).symm
          subst this
          exact ⟨Nat.zero_le _, rfl⟩
        · have z : d.map Prod.fst = order := z
          refine ⟨by rw [← z, List.length_map]; exact Nat.le_refl _, ?_⟩
          rw [dPut_keys, if_pos (dGet_key_mem.mpr (z ▸ hm)), z]
      obtain ⟨o2, d', e, q1, q2, q3, q4, q5⟩ := goals2 hT h8 (rowF n T h) order (dPut d h (rowF n T h)) hd.2 hn hu fun p hp => row_uv hp
      refine ⟨(order ++ o2, d'), ?_, ?_⟩
      · rw [if_neg (by rw [decide_eq_true_eq]; show ¬ (order.length : Int) ≤ (i : Int); omega)]
        exact bindS (idx_of (by omega) (by rw [Int.toNat_natCast]; exact hh)) (bindS (lsteps_ok h1 h4) (bindS (lrow_ok hT (by have := uv_small hT (hu h hm); omega)) (bindS (putO_ok (by rw [sizeL]; show d.length < _; have := hd.1; omega)) (bindS e rfl))))
      · have hk : (order ++ o2).take (i + 1) = order.take (i + 1) := by rw [List.take_append_of_le_length (by omega)]
        have hsub : ∀ v ∈ order.take (i + 1), v ∈ order := fun v hv => List.mem_of_mem_take hv
        refine ⟨by show i + 1 ≤ (order ++ o2).length; rw [List.length_append]; omega, .inr q1, ?_, ?_, q2, List.mem_append.mpr (.inl W.nil), q3⟩
        · show ∀ v ∈ (order ++ o2).take (i + 1), dGet d' v = some (rowF n T v)
          rw [hk]
          intro v hv
          rw [q5 v (hsub v hv), dGet_put]
          by_cases z : h = v
          · rw [if_pos z, z]
          · rw [if_neg z]
            rw [ht] at hv
            rcases List.mem_append.mp hv with z2 | z2
            · exact W.rows v z2
            · exact absurd (List.mem_singleton.mp z2).symm z
        · show ∀ v ∈ (order ++ o2).take (i + 1), ∀ p ∈ rowF n T v, p.2 ∈ order ++ o2
          rw [hk, ht]
          intro v hv p hp
          rcases List.mem_append.mp hv with z | z
          · exact List.mem_append.mpr (.inl (W.cl v z p hp))
          · rw [List.mem_singleton.mp z] at hp
            exact q4 p hp) (s0 := ([([] : (List Int))], ([] : Tab))) ⟨Nat.zero_le _, .inl ⟨rfl, rfl⟩, (fun _ h => nomatch h), (fun _ h => nomatch h), by simp, List.mem_cons_self, fun h hh => by
      rw [List.mem_singleton.mp hh]
      exact List.mem_cons_self⟩
  rcases g with ⟨O, g⟩ | W
  · refine ⟨s.1, ?_, O⟩
    unfold m_l_ways
    refine bindS (rngO_ok (by decide)) (bindS e ?_)
    show some s.2 = _
    rw [g]
  · have a := W.le
    have b := nodup_le s.1 (Uv n T) W.nd W.uv
    rw [rng_len] at a
    exact absurd a (by omega)
omit h1 h4 in
theorem lcounts_ok {T order : List (List Int)} (O : Ord n T order) {L : Nat} (l1 : L ≤ 100000) : m_l_counts (rowsF n T order) (L : Int) = some ((List.range (L + 1)).map (cntF n T order)) := by
  have hf := O.few
  have hdo : ∀ k, dOf (cntF n T order k) = cntF n T order k := fun k => dof_nd (by rw [cnt_keys]; exact O.nd)
  unfold m_l_counts
  rw [rows_keys]
  refine bindS (lcT_some _ (by rw [sizeL]; omega)) (bindS (rngO_ok (by omega)) ?_)
  show ((lp _ _ [dOf (cntF n T order 0)]).bind _) = _
  rw [hdo]
  obtain ⟨s, e, hs⟩ := lp_goN (f := fun (s5 : (List (List ((List Int) × Int)))) (turn6 : Int) => ((lcO (β := ((List Int) × Int)) (fun (last10 : (List Int)) => ((dGet (rowsF n T order) last10).bind fun t12 => (lcO (β := Int) (fun (x13 : (Int × (List Int))) => ((idx s5 (-1)).bind fun t15 => (dGet t15 x13.2).bind fun t16 => some t16)) t12).bind fun t17 => some (last10, t17.sum))) order).bind fun t18 => (appO s5 (dOf t18)).bind fun t19 => some t19)) (xs := range' 0 (L : Int)) (fun i s => s = (List.range (i + 1)).map (cntF n T order)) (fun i x s hx hs => by
    obtain ⟨_, hi⟩ := rng_at hx
    subst hs
    refine ⟨(List.range (i + 1 + 1)).map (cntF n T order), bindS (lcO_some (fun h => (h, ((GT n T (i + 1) h).length : Int))) (by rw [sizeL]; omega) fun h hh => bindS (row_get O hh) (bindS (lcO_some (fun p => ((GT n T i p.2).length : Int)) (by rw [sizeL]; have := row_le n T h; omega) fun p hp => bindS (?_ : _ = some (cntF n T order i)) (bindS (cnt_get O i (O.cl h hh p hp)) rfl)) ?_)) (bindS (Z.app_ok ?_) ?_), rfl⟩
    · refine idx_last ?_
      rw [List.length_map, List.length_range, Nat.add_sub_cancel, List.getElem?_map, List.getElem?_range (by omega)]
      rfl
    · show some (h, ((rowF n T h).map fun p => ((GT n T i p.2).length : Int)).sum) = _
      rw [gt_len]
    · rw [List.length_map, List.length_range, sizeL]
      omega
    · show some (_ ++ [dOf (cntF n T order (i + 1))]) = _
      rw [hdo, List.range_succ (n := i + 1), List.map_append]
      rfl) (s0 := [cntF n T order 0]) rfl
  refine bindS e ?_
  rw [hs, rng_len, Int.sub_zero, Int.toNat_natCast]
omit h1 h4 in
theorem lfirst_ok {T order : List (List Int)} (hT : Told n T) (O : Ord n T order) {L : Nat} (hL : L ≤ 100000) : m_l_first (rowsF n T order) ((List.range (L + 1)).map (cntF n T order)) = some (FW n T L).head? := by
  unfold m_l_first
  refine bindS (a := cntF n T order L) (idx_last (by rw [List.length_map, List.length_range, Nat.add_sub_cancel, List.getElem?_map, List.getElem?_range (by omega)]; rfl)) (bindS (cnt_get O L O.nil) ?_)
  by_cases hz : GT n T L [] = []
  · rw [if_pos (decide_eq_true (by rw [hz]; rfl)), ← fw_eq hT, hz]
    rfl
  · rw [if_neg (by rw [decide_eq_true_eq]; have := List.length_pos_iff.mpr hz; omega)]
    have hr : rngDO (((((List.range (L + 1)).map (cntF n T order)).length : Nat) : Int) - 2) (-1) = some (rangeD ((L : Int) - 1) (-1)) := by
      rw [List.length_map, List.length_range, show ((L + 1 : Nat) : Int) - 2 = (L : Int) - 1 by omega]
      exact if_pos (by omega)
    refine bindS hr ?_
    obtain ⟨s, e2, g1, g2, g3⟩ := lp_goN (f := fun (s4 : ((List Int) × (List Int))) (left5 : Int) => ((dGet (rowsF n T order) s4.1).bind fun t9 => (lcG (β := (Int × (List Int))) (fun (way10 : (Int × (List Int))) => ((idx ((List.range (L + 1)).map (cntF n T order)) left5).bind fun t12 => (dGet t12 way10.2).bind fun t13 => if (decide (0 < t13)) = true then some (some way10) else some none)) t9).bind fun t14 => (idx t14 0).bind fun t15 => ((catO (α := Int) s4.2 ([t15.1])).bind fun t16 => some (t15.2, t16)))) (xs := rangeD ((L : Int) - 1) (-1)) (fun i s => (s.1 ∈ order ∧ s.2.length = i) ∧ GT n T (L - i) s.1 ≠ [] ∧ (GT n T L []).head? = (GT n T (L - i) s.1).head?.map (s.2 ++ ·)) (fun i x s hx hs => by
      obtain ⟨⟨m1, m2⟩, m3, m4⟩ := hs
      obtain ⟨ex, hi⟩ : x = ((L - i - 1 : Nat) : Int) ∧ i < L := by
        have hl := (List.getElem?_eq_some_iff.mp hx).1
        unfold rangeD at hx hl
        rw [List.length_map, List.length_range] at hl
        rw [List.getElem?_map, List.getElem?_range hl] at hx
        have hx : (L : Int) - 1 + (i : Int) * (-1) = x := Option.some.inj hx
        omega
      obtain ⟨k, hk⟩ : ∃ k, L - i = k + 1 := ⟨L - i - 1, by omega⟩
      have ex : x = (k : Int) := by omega
      subst ex
      rw [hk] at m3 m4
      obtain ⟨q, q1, q2, q3, q4⟩ := head_row (n := n) (T := T) (k := k) (l := rowF n T s.1) m3
      refine ⟨(q.2, s.2 ++ [q.1]), bindS (row_get O m1) (bindS (lcG_some (fun p => if decide ((0 : Int) < ((GT n T k p.2).length : Int)) = true then some (p.1, p.2) else none) (by rw [sizeL]; have := row_le n T s.1; omega) fun p hp => bindS (cnt_idx (by omega)) (bindS (cnt_get O k (O.cl _ m1 p hp)) ?_)) (bindS (idx_of (Int.le_refl 0) q1) (bindS (cat_ok (xs := s.2) (ys := [q.1]) (by rw [List.length_singleton, sizeL]; show s.2.length + 1 ≤ _; omega)) rfl))), ⟨O.cl _ m1 q q2, by show (s.2 ++ [q.1]).length = _; rw [List.length_append, List.length_singleton, m2]⟩, ?_, ?_⟩
      · split <;> rfl
      · show GT n T (L - (i + 1)) q.2 ≠ []
        rw [show L - (i + 1) = k by omega]
        exact q3
      · show (GT n T L []).head? = (GT n T (L - (i + 1)) q.2).head?.map ((s.2 ++ [q.1]) ++ ·)
        rw [show L - (i + 1) = k by omega, m4]
        have q4 : (GT n T (k + 1) s.1).head? = (GT n T k q.2).head?.map (q.1 :: ·) := q4
        rw [q4, Option.map_map]
        congr 1
        funext z
        show s.2 ++ (q.1 :: z) = s.2 ++ [q.1] ++ z
        rw [List.append_assoc]
        rfl) (s0 := (([] : (List Int)), ([] : (List Int)))) ⟨⟨O.nil, rfl⟩, by rw [Nat.sub_zero]; exact hz, by
          rw [Nat.sub_zero]
          show _ = Option.map (fun z => z) _
          rw [Option.map_id']⟩
    refine bindS e2 ?_
    have hl : (rangeD ((L : Int) - 1) (-1)).length = L := by
      unfold rangeD
      rw [List.length_map, List.length_range]
      omega
    rw [hl, Nat.sub_self] at g3
    show some (some s.2) = _
    rw [← fw_eq hT, g3]
    show some (some s.2) = some (some (s.2 ++ []))
    rw [List.append_nil]
omit h1 h4 in
theorem lis_ok {f : List Int} (hl : f.length < sizeLine) : m_l_is f f = some true := by
  unfold m_l_is
  rw [decide_eq_true rfl]
  show ((lcT _ f).bind fun t3 => some (t3.all id)) = _
  rw [lcT_some _ hl, Option.bind_some, List.all_map]
  refine congrArg some (List.all_eq_true.mpr fun _ _ => rfl)
theorem repr_ok {T : List (List Int)} (hT : Told n T) : reprO (PyData.list (List.map (eT PyData.int) T)) = some (PyData.list (List.map (eT PyData.int) T)).shown := by
  have q1 : ∀ d ∈ T.map (eT PyData.int), Txt 1 40 d := fun d hd => by
    obtain ⟨u, hu, rfl⟩ := List.mem_map.mp hd
    obtain ⟨_, _, l, s⟩ := hT.each u hu
    have := txt_tup (k := 0) (n := 4) (ds := u.map PyData.int) fun d hd => by
      obtain ⟨x, hx, rfl⟩ := List.mem_map.mp hd
      have hs := (S_iff h1 h4).mp (s x hx)
      exact txt_int (k := 3) (by decide) (by decide) (by have := hs.2; omega)
    rw [List.length_map] at this
    exact ⟨this.1, this.2.1, this.2.2.1, Nat.le_trans this.2.2.2 (by omega)⟩
  have := txt_list q1
  rw [List.length_map] at this
  have hl := hT.few
  exact this.repr (by decide) (by rw [sizeL]; omega)
theorem without_ok {T : List (List Int)} (hT : Told n T) {L : Nat} (hL : L ≤ 1000) : m_l_without (n : Int) T (L : Int) ((FW n T L).length : Int) (FW n T L).head? = some true := by
  have hfew := hT.few
  have e1 := repr_ok h1 h4 hT
  have e2 := manyO (many_ok h1 h4 hT (L := L) (by omega))
  have e3 := frstO (O5.first_ok h1 h4 hT (L := L) (by omega))
  have e4 := hm_ok h1 h4 hT (L := L) (by omega)
  have e5 := fs_ok h1 h4 hT (L := L) (by omega)
  have e6 : appO T [1] = some (T ++ [[1]]) := Z.app_ok (by rw [sizeL]; omega)
  have hnum : ∀ x : Int, m_l_number x x = some true := fun x => by
    unfold m_l_number
    rw [decide_eq_true rfl]
    rfl
  have hm : ∀ f, (FW n T L).head? = some f → f.length = L := fun f hf => (fw_mem'.mp (List.mem_of_mem_head? hf)).1.2
  unfold m_l_without
  cases hf : (FW n T L).head? with
  | none =>
    rw [hf] at e3 e5
    refine bindS e1 (bindS e2 (bindS (hnum _) ?_))
    rw [if_neg (by decide)]
    refine bindS e3 ?_
    show (if ((true && false) || false) = true then some false else _) = _
    rw [if_neg (by decide)]
    refine bindS e1 ?_
    rw [if_neg (by rw [decide_eq_true rfl]; decide)]
    refine bindS e6 (bindS e4 (bindS (hnum _) ?_))
    rw [if_neg (by decide)]
    refine bindS e5 ?_
    rw [decide_eq_true rfl]
  | some f =>
    rw [hf] at e3 e5
    have lf := hm f hf
    refine bindS e1 (bindS e2 (bindS (hnum _) ?_))
    rw [if_neg (by decide)]
    refine bindS e3 ?_
    show (((if false = true then some true else ((if true = true then ((m_l_is f f).bind fun t29 => some (!t29)) else some false).bind fun t30 => some t30)).bind fun t31 => _) : Option Bool) = _
    refine bindS (a := false) ?_ ?_
    · rw [if_neg (by decide), if_pos rfl, lis_ok (by rw [sizeL]; omega)]
      rfl
    · rw [if_neg (by decide)]
      refine bindS e1 ?_
      rw [if_neg (by rw [decide_eq_true rfl]; decide)]
      refine bindS e6 (bindS e4 (bindS (hnum _) ?_))
      rw [if_neg (by decide)]
      refine bindS e5 ?_
      rw [decide_eq_true rfl]
theorem short_ok {T : List (List Int)} (hT : Told n T) {L : Nat} (hL : L ≤ 90) (hB : ∀ i, i < L → O5.off n i ≤ 110) (hB2 : O5.off n L ≤ 100000) : m_l_short (n : Int) T (L : Int) = some true := by
  have hlen := fw_off h1 h4 T L
  unfold m_l_short
  obtain ⟨y, ey, hy⟩ : ∃ y, ((FW n T L) ++ [([] : List Int)])[0]? = some y ∧ (FW n T L ≠ [] → (FW n T L).head? = some y) := by
    cases FW n T L with
    | nil => exact ⟨[], rfl, fun z => absurd rfl z⟩
    | cons a b => exact ⟨a, rfl, fun _ => rfl⟩
  refine bindS (all_ok h1 h4 hT hL hB) (bindS (cat_ok (by rw [List.length_singleton, sizeL]; omega)) (bindS (idx_of (Int.le_refl 0) ey) (bindS (a := (FW n T L).head?) ?_ (bindS (without_ok h1 h4 hT (by omega)) rfl))))
  by_cases hz : FW n T L = []
  · rw [hz]
    rfl
  · rw [decide_eq_false hz, hy hz]
    rfl
theorem great_ok {k : Nat} (hk : k < 2 ^ 50) {w : List Int} (hw : WeOk k w) {T : List (List Int)} (hT : Told n T) (h8 : T.length ≤ 8) : ∃ w', m_l_great w (n : Int) T = some (true, w') ∧ WeOk (k + 2) w' := by
  obtain ⟨order, eo, O⟩ := ways_ok h1 h4 hT h8
  obtain ⟨a1, w1, e1, a10, a11, g1⟩ := Z.take_ok (by omega) hw (many := 101) (by decide) (by decide)
  obtain ⟨a2, w2, e2, a20, a21, g2⟩ := Z.take_ok (by omega) g1 (many := 4) (by decide) (by decide)
  obtain ⟨L, eL, hL⟩ : ∃ L : Nat, idx ([a1, 100]) (if (decide (a2 = 0)) = true then 1 else 0) = some (L : Int) ∧ L ≤ 100 := by
    by_cases hz : a2 = 0
    · rw [if_pos (decide_eq_true hz)]
      exact ⟨100, rfl, by decide⟩
    · rw [if_neg (by rw [decide_eq_true_eq]; exact hz)]
      refine ⟨a1.toNat, ?_, by omega⟩
      rw [Int.toNat_of_nonneg a10]
      rfl
  refine ⟨w2, ?_, g2⟩
  unfold m_l_great
  refine bindS eo (bindS e1 (bindS e2 (bindS eL (bindS (lcounts_ok O (by omega)) (bindS (a := cntF n T order L) (idx_last (by rw [List.length_map, List.length_range, Nat.add_sub_cancel, List.getElem?_map, List.getElem?_range (by omega)]; rfl)) (bindS (cnt_get O L O.nil) (bindS (lfirst_ok hT O (by omega)) (bindS (a := true) ?_ rfl))))))))
  rw [fw_eq hT]
  exact without_ok h1 h4 hT (by omega)
def tF (n : Nat) : Nat → Int × Int × Int × Int
  | 0 => (1, 0, 0, 1)
  | i + 1 => ((tF n i).2.2.2 - (tF n i).2.1, (tF n i).2.2.2 - (tF n i).1, (tF n i).2.2.2 - (tF n i).2.2.1, (tF n i).2.2.2 * (2 * (n : Int) - 1))
omit h1 h4 in
theorem tF_step (i : Nat) {f : Int} (hf : f ≠ 0) (x : Int) : cF f (tF n (i + 1)) x = (tF n i).2.2.2 - cF f (tF n i) (-x) := by
  unfold cF
  by_cases q1 : x = f
  · rw [if_pos q1, if_neg (show ¬ -x = f by omega), if_pos (show -x = -f by omega)]
    rfl
  · rw [if_neg q1]
    by_cases q2 : x = -f
    · rw [if_pos q2, if_pos (show -x = f by omega)]
      rfl
    · rw [if_neg q2, if_neg (show ¬ -x = f by omega), if_neg (show ¬ -x = -f by omega)]
      rfl
omit h1 h4 in
theorem sum0 : ∀ n ∈ [(1 : Nat), 2, 3, 4], ∀ f ∈ S n, ((S n).map fun x => cF f (1, 0, 0, 1) x).sum = 1 := by decide
theorem ns : n ∈ [(1 : Nat), 2, 3, 4] := by
  have : n = 1 ∨ n = 2 ∨ n = 3 ∨ n = 4 := by omega
  rcases this with rfl | rfl | rfl | rfl <;> decide
theorem s_ne {f : Int} (hf : f ∈ S n) : f ≠ 0 := ((S_iff h1 h4).mp hf).1
theorem tF_sum {f : Int} (hf : f ∈ S n) : ∀ i : Nat, ((S n).map fun x => cF f (tF n i) x).sum = (tF n i).2.2.2
  | 0 => sum0 n (ns h1 h4) f hf
  | i + 1 => by
    have e : (fun x => cF f (tF n (i + 1)) x) = fun x => (tF n i).2.2.2 - cF f (tF n i) (-x) := funext fun x => tF_step i (s_ne h1 h4 hf) x
    rw [e, sum_neg h1 h4, tF_sum hf i]
    show _ = (tF n i).2.2.2 * (2 * (n : Int) - 1)
    rw [Int.mul_sub, Int.mul_one, Int.mul_comm]
omit h1 h4 in
theorem cF_sym (e f : Int) (t : Int × Int × Int × Int) : cF e t f = cF f t e := by
  unfold cF
  by_cases q1 : f = e
  · rw [if_pos q1, if_pos q1.symm]
  · rw [if_neg q1, if_neg (show ¬ e = f by omega)]
    by_cases q2 : f = -e
    · rw [if_pos q2, if_pos (show e = -f by omega)]
    · rw [if_neg q2, if_neg (show ¬ e = -f by omega)]
theorem tF_all : ∀ i : Nat, (tF n i).2.2.2 = ((dd n ^ i : Nat) : Int)
  | 0 => rfl
  | i + 1 => by
    show (tF n i).2.2.2 * (2 * (n : Int) - 1) = _
    rw [tF_all i, Nat.pow_succ, Int.natCast_mul]
    have : (2 * (n : Int) - 1) = ((dd n : Nat) : Int) := by
      unfold dd
      omega
    rw [this]
theorem dd7 : dd n ≤ 7 := by
  unfold dd
  omega
theorem ends_ok (f l : Int) {L : Nat} (l1 : 1 ≤ L) (l2 : L ≤ 200) : m_l_ends (n : Int) f l (L : Int) = some (cF f (tF n (L - 1)) l) := by
  unfold m_l_ends
  refine bindS (rngO_ok (by omega)) ?_
  obtain ⟨s, e, g⟩ := lp_goN (f := fun (s2 : (Int × Int × Int × Int)) (turn3 : Int) => ((mulO s2.2.2.2 ((2 * (n : Int)) - 1)).bind fun t7 => some ((s2.2.2.2 - s2.2.1), (s2.2.2.2 - s2.1), (s2.2.2.2 - s2.2.2.1), t7))) (xs := range' 0 ((L : Int) - 1)) (fun i s => s = tF n i) (fun i x s hx hs => by
    obtain ⟨_, hi⟩ := rng_at hx
    subst hs
    refine ⟨_, bindS (?_ : _ = some ((tF n i).2.2.2 * (2 * (n : Int) - 1))) rfl, rfl⟩
    refine if_pos ?_
    have a : (tF n i).2.2.2.natAbs.log2 < 900 := by
      rw [tF_all h1 h4, Int.natAbs_natCast]
      refine log2_small ?_ (by decide)
      have e1 : dd n ^ i ≤ 8 ^ i := Nat.pow_le_pow_left (by have := dd7 h1 h4; omega) _
      have e2 : (8 : Nat) ^ i ≤ 8 ^ 200 := Nat.pow_le_pow_right (by decide) (by omega)
      exact Nat.lt_of_le_of_lt (Nat.le_trans e1 e2) (by decide +kernel)
    have b : (2 * (n : Int) - 1).natAbs.log2 < 4 := log2_int (by omega) (by omega) (by decide)
    omega) (s0 := (1, 0, 0, 1)) rfl
  refine bindS e ?_
  rw [rng_len] at g
  rw [g, show ((L : Int) - 1 - 0).toNat = L - 1 by omega]
  unfold cF
  by_cases q1 : l = f
  · rw [if_pos (decide_eq_true q1), if_pos q1]
  · rw [if_neg (by rw [decide_eq_true_eq]; exact q1), if_neg q1]
    refine congrArg some ?_
    by_cases q2 : l = -f
    · rw [if_pos (decide_eq_true q2), if_pos q2]
    · rw [if_neg (by rw [decide_eq_true_eq]; exact q2), if_neg q2]
theorem step_need {x : Int} (hx : x ∈ S n) : m_p_is_step x (n : Int) = some true := by
  obtain ⟨a, b, c⟩ := (S_iff h1 h4).mp hx
  show some (true && (decide (1 ≤ absI x) && decide (absI x ≤ (n : Int)))) = some true
  have : 1 ≤ absI x ∧ absI x ≤ (n : Int) := by
    unfold absI
    split <;> omega
  rw [decide_eq_true this.1, decide_eq_true this.2]
  rfl
theorem betw_ok {f l : Int} (hf : f ∈ S n) (hl : l ∈ S n) {L : Nat} (l1 : 1 ≤ L) (l2 : L ≤ 200) : m_p_between (n : Int) f l (L : Int) = some (cF f (tF n (L - 1)) l) := by
  have hS := S_le n
  have hst : m_p_steps_of (n : Int) = some (S n) := steps_ok h1 h4
  have hlen : lenO (S n) = some () := if_pos (by rw [sizeL]; omega)
  have hnd := S_nodup h1 h4
  have tget : ∀ (g : Int → Int) {x : Int}, x ∈ S n → dGet ((S n).map fun x => (x, g x)) x = some (g x) := fun g x hx => mem_dGet (by rw [List.map_map]; show ((S n).map fun x => x).Nodup; rw [List.map_id']; exact hnd) (List.mem_map.mpr ⟨x, hx, rfl⟩)
  unfold m_p_between
  refine bindS (letters_ok h1 h4) ?_
  obtain ⟨s, e, _⟩ := lp_goN (f := fun (s2 : Unit) (step3 : Int) => ((m_p_is_step step3 (n : Int)).bind fun t7 => (if (!t7) = true then none else some ()))) (xs := ([(f, l).1, (f, l).2])) (fun _ _ => True) (fun i x s hx _ => by
    have hx : x ∈ [f, l] := List.mem_of_getElem? hx
    have hx : x ∈ S n := by
      rcases List.mem_cons.mp hx with z | z
      · rw [z]; exact hf
      · rw [List.mem_singleton.mp z]; exact hl
    exact ⟨(), bindS (step_need h1 h4 hx) rfl, trivial⟩) (s0 := ()) trivial
  refine bindS e (bindS (?_ : _ = some ()) (bindS hst (bindS hlen (bindS (dcS_fresh (k := id) (f := fun x => cF f (1, 0, 0, 1) x) (fun x _ => ?_) (by rw [List.map_id]; exact hnd) (fun _ _ => rfl)) (bindS (rngO_ok (by omega)) ?_)))))
  · show m_p_need_number (L : Int) 1 () = some ()
    unfold m_p_need_number
    rw [if_neg]
    rw [decide_eq_false (by omega)]
    decide
  · show some (some (x, if decide (x = f) = true then (1 : Int) else 0)) = some (some (x, if x = f then 1 else if x = -f then 0 else 0))
    by_cases q1 : x = f
    · rw [if_pos q1, if_pos (decide_eq_true q1)]
    · rw [if_neg q1, if_neg (by rw [decide_eq_true_eq]; exact q1)]
      split <;> rfl
  · rw [List.nil_append]
    obtain ⟨s, e, g⟩ := lp_goN (f := fun (s16 : (List (Int × Int))) (turn17 : Int) => ((m_p_steps_of (n : Int)).bind fun t21 => (lenO t21).bind fun z24 => (dcS (fun (step22 : Int) => (((dGet s16 (-step22)).bind fun t23 => some (some (step22, ((List.map Prod.snd s16).sum - t23)))) : Option (Option (Int × Int)))) t21 []).bind fun t26 => some t26)) (xs := range' 0 ((L : Int) - 1)) (fun i s => s = (S n).map fun x => (x, cF f (tF n i) x)) (fun i x s hx hs => by
      subst hs
      refine ⟨_, bindS hst (bindS hlen (bindS (dcS_fresh (k := id) (f := fun x => cF f (tF n (i + 1)) x) (fun x hx => ?_) (by rw [List.map_id]; exact hnd) (fun _ _ => rfl)) rfl)), by rw [List.nil_append]; rfl⟩
      refine bindS (tget (fun x => cF f (tF n i) x) ((S_iff h1 h4).mpr ((S_iff h1 h4).mp hx).neg)) ?_
      rw [List.map_map]
      show some (some (x, ((S n).map fun x => cF f (tF n i) x).sum - cF f (tF n i) (-x))) = some (some (x, cF f (tF n (i + 1)) x))
      rw [tF_sum h1 h4 hf, tF_step i (s_ne h1 h4 hf)]) (s0 := (S n).map fun x => (x, cF f (1, 0, 0, 1) x)) rfl
    refine bindS e ?_
    rw [g, rng_len, show ((L : Int) - 1 - 0).toNat = L - 1 by omega]
    exact bindS (tget (fun x => cF f (tF n (L - 1)) x) hl) rfl
theorem off3 {i : Nat} (hi : i < 3) : O5.off n i ≤ 110 := by
  have : n = 1 ∨ n = 2 ∨ n = 3 ∨ n = 4 := by omega
  have h : i = 0 ∨ i = 1 ∨ i = 2 := by omega
  rcases this with rfl | rfl | rfl | rfl <;> rcases h with rfl | rfl | rfl <;> decide
theorem lbet_ok {k : Nat} (hk : k < 2 ^ 50) {w : List Int} (hw : WeOk k w) : ∃ w', m_l_between w (n : Int) = some (true, w') ∧ WeOk (k + 5) w' := by
  have hS := S_le n
  have hSl : (S n).length = 2 * n := by
    unfold S
    rw [List.length_take]
    show min (2 * n) 8 = _
    omega
  obtain ⟨a1, w1, e1, a10, a11, g1⟩ := Z.take_ok (by omega) hw (many := 4) (by decide) (by decide)
  obtain ⟨a2, w2, e2, a20, a21, g2⟩ := Z.take_ok (by omega) g1 (many := 100) (by decide) (by decide)
  obtain ⟨a3, w3, e3, a30, a31, g3⟩ := Z.take_ok (by omega) g2 (many := 2) (by decide) (by decide)
  obtain ⟨L, eL, l1, l2⟩ : ∃ L : Nat, idx ([(1 + a1), (1 + a2)]) a3 = some (L : Int) ∧ 1 ≤ L ∧ L ≤ 100 := by
    have : a3 = 0 ∨ a3 = 1 := by omega
    rcases this with rfl | rfl
    · exact ⟨(1 + a1).toNat, by rw [Int.toNat_of_nonneg (by omega)]; rfl, by omega, by omega⟩
    · exact ⟨(1 + a2).toNat, by rw [Int.toNat_of_nonneg (by omega)]; rfl, by omega, by omega⟩
  obtain ⟨a4, w4, e4, a40, a41, g4⟩ := Z.take_ok (by omega) g3 (many := ((S n).length : Int)) (by omega) (by omega)
  obtain ⟨a5, w5, e5, a50, a51, g5⟩ := Z.take_ok (by omega) g4 (many := ((S n).length : Int)) (by omega) (by omega)
  have hx : (S n)[a4.toNat]? = some (S n)[a4.toNat] := List.getElem?_eq_getElem (by omega)
  have hy : (S n)[a5.toNat]? = some (S n)[a5.toNat] := List.getElem?_eq_getElem (by omega)
  generalize (S n)[a4.toNat] = x at hx
  generalize (S n)[a5.toNat] = y at hy
  have mx := List.mem_of_getElem? hx
  have my := List.mem_of_getElem? hy
  have mnx : -x ∈ S n := (S_iff h1 h4).mpr ((S_iff h1 h4).mp mx).neg
  have hnum : ∀ x : Int, m_l_number x x = some true := fun x => by
    unfold m_l_number
    rw [decide_eq_true rfl]
    rfl
  refine ⟨w5, ?_, g5⟩
  unfold m_l_between
  refine bindS (lsteps_ok h1 h4) (bindS e1 (bindS e2 (bindS e3 (bindS eL (bindS e4 (bindS (idx_of a40 hx) (bindS e5 (bindS (idx_of a50 hy) ?_))))))))
  obtain ⟨s, e, _⟩ := lpR_go (f := (fun (s10 : Unit) (end_here11 : Int) => (((m_l_ends (n : Int) x end_here11 (L : Int)).bind fun t15 => ((m_p_between (n : Int) x end_here11 (L : Int)).bind fun t16 => (m_l_number t16 t15).bind fun t17 => (if (!t17) = true then some (Step.ret (false, w5)) else ((m_p_between (n : Int) end_here11 x (L : Int)).bind fun t18 => (m_l_number t18 t15).bind fun t19 => (if (!t19) = true then some (Step.ret (false, w5)) else some (Step.go ())))))) : Option (Step (Bool × (List Int)) Unit)))) (fun _ => True) (xs := [y, x, -x]) (fun v hv s _ => by
    have hv : v ∈ S n := by
      rcases List.mem_cons.mp hv with z | z
      · rw [z]; exact my
      · rcases List.mem_cons.mp z with z | z
        · rw [z]; exact mx
        · rw [List.mem_singleton.mp z]; exact mnx
    refine ⟨(), bindS (ends_ok h1 h4 x v l1 (by omega)) (bindS (betw_ok h1 h4 mx hv l1 (by omega)) (bindS (hnum _) ?_)), trivial⟩
    rw [if_neg (by decide)]
    refine bindS (betw_ok h1 h4 hv mx l1 (by omega)) ?_
    rw [cF_sym]
    refine bindS (hnum _) ?_
    rw [if_neg (by decide)]) (s0 := ()) trivial
  have TN : Told n [] := ⟨(fun _ z => nomatch z), by simp⟩
  have hfw := fw_off h1 h4 [] 3
  have off_le : O5.off n 3 ≤ 100000 := by
    have : n = 1 ∨ n = 2 ∨ n = 3 ∨ n = 4 := by omega
    rcases this with rfl | rfl | rfl | rfl <;> decide
  have all3 : m_l_all (n : Int) [] ((3 : Nat) : Int) = some (FW n [] 3) := all_ok h1 h4 TN (L := 3) (by decide) fun i hi => off3 h1 h4 hi
  have bet3 : m_p_between (n : Int) x y ((3 : Nat) : Int) = some (cF x (tF n (3 - 1)) y) := betw_ok h1 h4 mx my (L := 3) (by decide) (by decide)
  rw [show ((3 : Nat) : Int) = 3 from rfl] at all3 bet3
  obtain ⟨W3, hW3⟩ : ∃ W3, W3 = FW n [] 3 := ⟨_, rfl⟩
  rw [← hW3] at all3 hfw
  refine bindS e ?_
  rw [Sum.elim_inr]
  refine bindS all3 ?_
  refine (bindS (lcG_some (fun w => if decide (w[0]? = some x ∧ w[2]? = some y) = true then some w else none) (by rw [sizeL]; omega) fun w hw => ?_) ?_)
  · rw [hW3] at hw
    have l3 := (fw_mem'.mp hw).1.2
    obtain ⟨p, q, r, rfl⟩ : ∃ p q r, w = [p, q, r] := by
      match w, l3 with
      | [p, q, r], _ => exact ⟨p, q, r, rfl⟩
    show ((if decide (p = x) = true then some (decide (r = y)) else some false).bind fun t26 => _) = some (if decide (some p = some x ∧ some r = some y) = true then some [p, q, r] else none)
    by_cases q1 : p = x
    · rw [if_pos (decide_eq_true q1)]
      by_cases q2 : r = y
      · rw [Option.bind_some, decide_eq_true q2, if_pos rfl, if_pos (decide_eq_true ⟨congrArg some q1, congrArg some q2⟩)]
      · rw [Option.bind_some, decide_eq_false q2, if_neg (by decide), if_neg]
        rw [decide_eq_true_eq]
        rintro ⟨_, z⟩
        exact q2 (Option.some.inj z)
    · rw [if_neg (by rw [decide_eq_true_eq]; exact q1), Option.bind_some, if_neg (by decide), if_neg]
      rw [decide_eq_true_eq]
      rintro ⟨z, _⟩
      exact q1 (Option.some.inj z)
  · refine bindS bet3 (bindS (a := true) ?_ rfl)
    rw [hW3]
    have el : (((FW n [] 3).filterMap fun w => if decide (w[0]? = some x ∧ w[2]? = some y) = true then some w else none).length : Int) = cF x (tF n 2) y := by
      have e0 : ((FW n [] 3).filterMap fun w => if decide (w[0]? = some x ∧ w[2]? = some y) = true then some w else none) = (FW n [] 3).filter fun w => decide (w[0]? = some x ∧ w[2]? = some y) := by
        have := fm_ff (c := fun w : List Int => decide (w[0]? = some x ∧ w[2]? = some y)) (q := fun w : List Int => decide (w[0]? = some x ∧ w[2]? = some y)) (r := fun _ => true) (f := fun w => w) (l := FW n [] 3) fun _ _ => (Bool.and_true _).symm
        rw [this, List.map_id', List.filter_eq_self.mpr (fun _ _ => rfl)]
      rw [e0, fw_none, three_ok n (ns h1 h4) x mx y my]
      have dp := dd_pos h1 (n := n)
      have dn : ((dd n : Nat) : Int) = 2 * (n : Int) - 1 := by
        unfold dd
        omega
      unfold cF
      have t2 : tF n 2 = (1 * (2 * (n : Int) - 1) - 0, 1 * (2 * (n : Int) - 1) - (1 - 0), 1 * (2 * (n : Int) - 1) - (1 - 0), 1 * (2 * (n : Int) - 1) * (2 * (n : Int) - 1)) := rfl
      rw [t2]
      dsimp only
      split
      · omega
      · split <;> omega
    rw [el]
    exact hnum _
structure Ld (n : Nat) (t : List Int) : Prop where
  ok : O5.ok n none t
  l1 : 1 ≤ t.length
  l5 : t.length ≤ 5
omit h1 h4 in
theorem Ld.told {T : List (List Int)} (h : ∀ t ∈ T, Ld n t) (hl : T.length ≤ 20) : Told n T := ⟨fun t ht => ⟨ok_gd (h t ht).ok, (h t ht).l1, (h t ht).l5, ok_S (h t ht).ok⟩, hl⟩
omit h1 h4 in
theorem order_ok (w : List Int) : lcF (fun (step8 : Int) => (!decide ((cut w (some (-1)) none) = [(-step8)]))) (fun (step8 : Int) => step8) (S n) = some (alw n w.getLast?) := by
  have hl := S_le n
  unfold lcF
  rw [if_pos (by rw [sizeL]; omega), O5.cut_last, List.map_id']
  refine congrArg some ?_
  unfold alw
  exact List.filter_congr fun s _ => last_test _ s
theorem line_ok {k : Nat} (hk : k < 2 ^ 50) {w : List Int} (h : WeOk k w) {m : Int} (m0 : 0 ≤ m) (m1 : m ≤ 100) : ∃ r w', m_l_line w (n : Int) m = some (r, w') ∧ ok n none r ∧ r.length = m.toNat ∧ WeOk (k + 100) w' := by
  obtain ⟨s, e, g1, g2, g3⟩ := lp_goN (f := fun (s2 : ((List Int) × (List Int))) (turn3 : Int) => ((m_l_steps (n : Int)).bind fun t7 => (lcF (fun (step8 : Int) => (!decide ((cut s2.1 (some (-1)) none) = [(-step8)]))) (fun (step8 : Int) => step8) t7).bind fun t10 => ((m_l_take s2.2 (t10.length : Int)).bind fun t11 => (idx t10 t11.1).bind fun t12 => (catO (α := Int) s2.1 ([t12])).bind fun t13 => some (t13, t11.2)))) (xs := range' 0 m) (fun i s => ok n none s.1 ∧ s.1.length = i ∧ WeOk (k + i) s.2) (fun i x s hx hs => by
    obtain ⟨_, hi⟩ := rng_at hx
    obtain ⟨o, l, hw⟩ := hs
    have pk : pok n s.1.getLast? := fun y hy => ok_S o y (List.mem_of_getLast? hy)
    have al := alw_len h1 h4 pk
    have d := dd_pos h1 (n := n)
    obtain ⟨v, w', ev, v0, v1, hw'⟩ := Z.take_ok (by omega) hw (many := ((alw n s.1.getLast?).length : Int)) (by omega) (by omega)
    have hv : (alw n s.1.getLast?)[v.toNat]? = some (alw n s.1.getLast?)[v.toNat] := List.getElem?_eq_getElem (by omega)
    generalize (alw n s.1.getLast?)[v.toNat] = y at hv
    refine ⟨(s.1 ++ [y], w'), bindS (lsteps_ok h1 h4) (bindS (order_ok s.1) (bindS ev (bindS (idx_of v0 hv) (bindS (cat_ok (xs := s.1) (ys := [y]) (by rw [List.length_singleton, sizeL]; show s.1.length + 1 ≤ _; omega)) rfl)))), ?_, ?_, hw'⟩
    · refine ok_app.mpr ⟨o, ?_⟩
      have : ((none : Option Int).toList ++ s.1).getLast? = s.1.getLast? := rfl
      rw [this]
      exact ⟨List.mem_of_getElem? hv, trivial⟩
    · show (s.1 ++ [y]).length = _
      rw [List.length_append, List.length_singleton]
      omega) (s0 := ([], w)) ⟨trivial, rfl, h⟩
  rw [rng_len, Int.sub_zero] at g2 g3
  exact ⟨s.1, s.2, by unfold m_l_line; exact bindS (rngO_ok (by omega)) (bindS e rfl), g1, g2, g3.mono (by omega)⟩
omit h1 h4 in
theorem ld_take {t : List Int} (h : Ld n t) {i : Nat} (hi : 1 ≤ i) : Ld n (t.take i) := by
  have o : ok n none (t.take i ++ t.drop i) := by rw [List.take_append_drop]; exact h.ok
  have := h.l1
  have := h.l5
  refine ⟨(ok_app.mp o).1, ?_, ?_⟩ <;> rw [List.length_take] <;> omega
theorem fin_told {k : Nat} (hk : k < 2 ^ 40) {w : List Int} (hw : WeOk k w) {T0 : List (List Int)} (h0 : ∀ t ∈ T0, Ld n t) (hl : T0.length ≤ 8) : ∃ T w', ((m_l_take w (9 - (T0.length : Int))).bind fun t14 => (rngO 0 t14.1).bind fun t15 => ((lp (fun (s16 : ((List Int) × (List (List Int)))) (turn17 : Int) => ((if (!decide (s16.2 = ([] : (List (List Int))))) = true then ((m_l_take s16.1 4).bind fun t21 => some ((decide (t21.1 = 0)), t21.2)) else some (false, s16.1)).bind fun t22 => (if t22.1 = true then ((m_l_take t22.2 (s16.2.length : Int)).bind fun t23 => (idx s16.2 t23.1).bind fun t24 => ((m_l_take t23.2 (t24.length : Int)).bind fun t25 => (appO s16.2 (cut t24 none (some (1 + t25.1)))).bind fun t26 => some (t25.2, t26))) else ((m_l_take t22.2 5).bind fun t27 => (m_l_line t27.2 (n : Int) (1 + t27.1)).bind fun t28 => (appO s16.2 t28.1).bind fun t29 => some (t28.2, t29))))) t15 (t14.2, T0)).bind fun f18 => ((m_l_take f18.1 ((f18.2.length : Int) + 1)).bind fun t31 => ((catO (α := (List Int)) (cut f18.2 (some t31.1) none) (cut f18.2 none (some t31.1))).bind fun t32 => some (t32, t31.2))))) = some (T, w') ∧ (∀ t ∈ T, Ld n t) ∧ T.length ≤ 8 ∧ WeOk (k + 2000) w' := by
  obtain ⟨a1, w1, e1, a10, a11, g1⟩ := Z.take_ok (by omega) hw (many := 9 - (T0.length : Int)) (by omega) (by omega)
  obtain ⟨s, e, q1, q2, q3⟩ := lp_goN (f := fun (s16 : ((List Int) × (List (List Int)))) (turn17 : Int) => ((if (!decide (s16.2 = ([] : (List (List Int))))) = true then ((m_l_take s16.1 4).bind fun t21 => some ((decide (t21.1 = 0)), t21.2)) else some (false, s16.1)).bind fun t22 => (if t22.1 = true then ((m_l_take t22.2 (s16.2.length : Int)).bind fun t23 => (idx s16.2 t23.1).bind fun t24 => ((m_l_take t23.2 (t24.length : Int)).bind fun t25 => (appO s16.2 (cut t24 none (some (1 + t25.1)))).bind fun t26 => some (t25.2, t26))) else ((m_l_take t22.2 5).bind fun t27 => (m_l_line t27.2 (n : Int) (1 + t27.1)).bind fun t28 => (appO s16.2 t28.1).bind fun t29 => some (t28.2, t29))))) (xs := range' 0 a1) (fun i s => WeOk (k + 1 + 110 * i) s.1 ∧ (∀ t ∈ s.2, Ld n t) ∧ s.2.length = T0.length + i) (fun i x s hx hs => by
    obtain ⟨_, hi⟩ := rng_at hx
    obtain ⟨hw, hT, hL⟩ := hs
    have hB : ∃ b w7, (if (!decide (s.2 = ([] : (List (List Int))))) = true then ((m_l_take s.1 4).bind fun t18 => some ((decide (t18.1 = 0)), t18.2)) else some (false, s.1)) = some (b, w7) ∧ (b = true → 1 ≤ s.2.length) ∧ WeOk (k + 1 + 110 * i + 1) w7 := by
      by_cases hz : s.2 = []
      · rw [if_neg (by rw [decide_eq_true hz]; simp)]
        exact ⟨false, s.1, rfl, fun z => (nomatch z), hw.mono (by omega)⟩
      · rw [if_pos (by rw [decide_eq_false hz]; rfl)]
        obtain ⟨a, w7, e, _, _, g⟩ := Z.take_ok (by omega) hw (many := 4) (by decide) (by decide)
        exact ⟨_, w7, bindS e rfl, fun _ => List.length_pos_iff.mpr hz, g⟩
    obtain ⟨b, w7, e7, hb, g7⟩ := hB
    have app : ∀ t : List Int, appO s.2 t = some (s.2 ++ [t]) := fun t => Z.app_ok (by rw [sizeL]; omega)
    have fin : ∀ (t : List Int) (w8 : List Int), Ld n t → WeOk (k + 1 + 110 * (i + 1)) w8 → WeOk (k + 1 + 110 * (i + 1)) w8 ∧ (∀ t' ∈ s.2 ++ [t], Ld n t') ∧ (s.2 ++ [t]).length = T0.length + (i + 1) := fun t w8 ht hw8 => ⟨hw8, fun t' h' => (List.mem_append.mp h').elim (hT t') fun z => by rw [List.mem_singleton.mp z]; exact ht, by rw [List.length_append, List.length_singleton]; omega⟩
    cases b with
    | true =>
      have := hb rfl
      obtain ⟨a, x1, y1, a0, al, z1⟩ := Z.take_ok (by omega) g7 (many := (s.2.length : Int)) (by omega) (by omega)
      have hv : s.2[a.toNat]? = some s.2[a.toNat] := List.getElem?_eq_getElem (by omega)
      have hm := List.mem_of_getElem? hv
      generalize s.2[a.toNat] = t at hv hm
      have ht := hT t hm
      have := ht.l5
      have := ht.l1
      obtain ⟨c, x2, y2, c0, cl, z2⟩ := Z.take_ok (by omega) z1 (many := (t.length : Int)) (by omega) (by omega)
      refine ⟨(x2, s.2 ++ [t.take (1 + c).toNat]), bindS e7 ?_, fin _ _ (ld_take ht (by omega)) (z2.mono (by omega))⟩
      rw [if_pos rfl]
      refine bindS y1 (bindS (idx_of a0 hv) (bindS y2 ?_))
      rw [cut_to _ (by omega)]
      exact bindS (app _) rfl
    | false =>
      obtain ⟨c, x2, y2, c0, cl, z2⟩ := Z.take_ok (by omega) g7 (many := 5) (by omega) (by omega)
      obtain ⟨r, x3, y3, o, l, z3⟩ := line_ok h1 h4 (by omega) z2 (m := 1 + c) (by omega) (by omega)
      refine ⟨(x3, s.2 ++ [r]), bindS e7 ?_, fin _ _ ⟨o, by omega, by omega⟩ (z3.mono (by omega))⟩
      rw [if_neg (by simp)]
      exact bindS y2 (bindS y3 (bindS (app _) rfl))) (s0 := (w1, T0)) ⟨g1, h0, rfl⟩
  rw [rng_len] at q1 q3
  obtain ⟨v, w3, e3, v0, v1, g3⟩ := Z.take_ok (by omega) q1 (many := (s.2.length : Int) + 1) (by omega) (by omega)
  refine ⟨s.2.drop v.toNat ++ s.2.take v.toNat, w3, bindS e1 (bindS (rngO_ok (by omega)) (bindS e (bindS e3 ?_))), fun t ht => (List.mem_append.mp ht).elim (fun z => q2 t (List.mem_of_mem_drop z)) fun z => q2 t (List.mem_of_mem_take z), ?_, g3.mono (by omega)⟩
  · rw [cut_to _ v0, cut_from _ v0]
    exact bindS (cat_ok (by rw [List.length_drop, List.length_take, sizeL]; omega)) rfl
  · rw [List.length_append, List.length_drop, List.length_take]
    omega
theorem told_ok {k : Nat} (hk : k < 2 ^ 39) {w : List Int} (hw : WeOk k w) : ∃ T w', m_l_told w (n : Int) = some (T, w') ∧ (∀ t ∈ T, Ld n t) ∧ T.length ≤ 8 ∧ WeOk (k + 3000) w' := by
  have hS := S_le n
  have hSl : (S n).length = 2 * n := by
    unfold S
    rw [List.length_take]
    show min (2 * n) 8 = _
    omega
  have one : ∀ s ∈ S n, Ld n [s] := fun s hs => ⟨⟨by unfold alw; exact List.mem_filter.mpr ⟨hs, by simp⟩, trivial⟩, by simp, by simp⟩
  obtain ⟨a1, w1, e1, a10, a11, g1⟩ := Z.take_ok (by omega) hw (many := 4) (by decide) (by decide)
  unfold m_l_told
  by_cases hz : a1 = 1
  · obtain ⟨a4, w4, e4, a40, a41, g4⟩ := Z.take_ok (by omega) g1 (many := ((S n).length : Int)) (by omega) (by omega)
    obtain ⟨T, w', e, q1, q2, q3⟩ := fin_told h1 h4 (by omega) g4 (T0 := ((S n).take a4.toNat ++ (S n).drop (a4 + 1).toNat).map fun s => [s]) (fun t ht => by
      obtain ⟨s, hs, rfl⟩ := List.mem_map.mp ht
      exact one s ((List.mem_append.mp hs).elim List.mem_of_mem_take List.mem_of_mem_drop)) (by rw [List.length_map, List.length_append, List.length_take, List.length_drop]; omega)
    refine ⟨T, w', bindS (lsteps_ok h1 h4) (bindS e1 ?_), q1, q2, q3.mono (by omega)⟩
    rw [if_pos (decide_eq_true hz)]
    refine bindS e4 ?_
    rw [cut_to _ a40, cut_from _ (by omega)]
    refine bindS (cat_ok (by rw [List.length_take, List.length_drop, sizeL]; omega)) (bindS (lcT_some _ (by rw [List.length_append, List.length_take, List.length_drop, sizeL]; omega)) ?_)
    rw [if_neg (by rw [decide_eq_true_eq]; show ¬ a1 = 2; omega)]
    exact e
  · by_cases hy : a1 = 2
    · obtain ⟨a4, w4, e4, a40, a41, g4⟩ := Z.take_ok (by omega) g1 (many := ((S n).length : Int)) (by omega) (by omega)
      have hx : (S n)[a4.toNat]? = some (S n)[a4.toNat] := List.getElem?_eq_getElem (by omega)
      generalize (S n)[a4.toNat] = x at hx
      have mx := List.mem_of_getElem? hx
      obtain ⟨T, w', e, q1, q2, q3⟩ := fin_told h1 h4 (by omega) g4 (T0 := cut (((S n).filter fun (step11 : Int) => (!decide (step11 = (-x)))).map fun (step11 : Int) => [x, step11]) none (some 8)) (fun t ht => by
        rw [cut_to _ (by decide)] at ht
        obtain ⟨s, hs, rfl⟩ := List.mem_map.mp (List.mem_of_mem_take ht)
        obtain ⟨m1, m2⟩ := List.mem_filter.mp hs
        rw [Bool.not_eq_true', decide_eq_false_iff_not] at m2
        refine ⟨⟨by unfold alw; exact List.mem_filter.mpr ⟨mx, by simp⟩, ?_, trivial⟩, by simp, by simp⟩
        unfold alw
        refine List.mem_filter.mpr ⟨m1, decide_eq_true fun z => m2 ?_⟩
        have := Option.some.inj z
        omega) (by rw [cut_to _ (by decide), List.length_take]; exact Nat.min_le_left _ _)
      refine ⟨T, w', bindS (lsteps_ok h1 h4) (bindS e1 ?_), q1, q2, q3.mono (by omega)⟩
      rw [if_neg (by rw [decide_eq_true_eq]; exact hz), if_pos (decide_eq_true hy)]
      refine bindS e4 (bindS (idx_of a40 hx) (bindS (if_pos (by rw [sizeL]; omega)) ?_))
      exact e
    · obtain ⟨T, w', e, q1, q2, q3⟩ := fin_told h1 h4 (by omega) g1 (T0 := []) (fun _ z => nomatch z) (by simp)
      refine ⟨T, w', bindS (lsteps_ok h1 h4) (bindS e1 ?_), q1, q2, q3.mono (by omega)⟩
      rw [if_neg (by rw [decide_eq_true_eq]; exact hz), if_neg (by rw [decide_eq_true_eq]; exact hy)]
      exact e
end
theorem bndW {α : Type} {m : Option α} {k : α → Option (Bool × List Int)} {a : α} (h : m = some a) (h2 : ∃ w', k a = some (true, w')) : ∃ w', m.bind k = some (true, w') := by
  rw [h]; exact h2
theorem sizes : ∀ n ∈ [(1 : Nat), 2, 3, 4], ∃ c : Nat, idx [8, 6, 4, 4] ((n : Int) - 1) = some (c : Int) ∧ 1 ≤ c ∧ c ≤ 8 ∧ (∀ j, j < c → O5.off n j ≤ 100000) ∧ ∀ j, j < c → ∀ i, i < j → O5.off n i ≤ 110 := by
  intro n hn
  simp only [List.mem_cons, List.not_mem_nil, or_false] at hn
  rcases hn with rfl | rfl | rfl | rfl
  · exact ⟨8, rfl, by decide, by decide, by decide, by decide⟩
  · exact ⟨6, rfl, by decide, by decide, by decide, by decide⟩
  · exact ⟨4, rfl, by decide, by decide, by decide, by decide⟩
  · exact ⟨4, rfl, by decide, by decide, by decide, by decide⟩
theorem off01 : ∀ n ∈ [(1 : Nat), 2, 3, 4], ∀ j, j < 3 → O5.off n j ≤ 100 := by decide
theorem right_ok {w : List Int} (h : WeOk 0 w) : ∃ w', m_l_right w = some (true, w') := by
  obtain ⟨a1, w1, e1, a10, a11, g1⟩ := Z.take_ok (by decide) h (many := 4) (by decide) (by decide)
  obtain ⟨n, hn⟩ : ∃ n : Nat, 1 + a1 = (n : Int) := ⟨(1 + a1).toNat, by omega⟩
  have h1 : 1 ≤ n := by omega
  have h4 : n ≤ 4 := by omega
  obtain ⟨T, w2, e2, Tq, Tl, g2⟩ := told_ok h1 h4 (by decide) g1
  obtain ⟨c, ec, c1, c8, hc1, hc2⟩ := sizes n (ns h1 h4)
  obtain ⟨a3, w3, e3, a30, a31, g3⟩ := Z.take_ok (by decide) g2 (many := (c : Int)) (by omega) (by omega)
  obtain ⟨x, rfl⟩ := Int.eq_ofNat_of_zero_le a30
  obtain ⟨a4, w4, e4, a40, a41, g4⟩ := Z.take_ok (by decide) g3 (many := 3) (by decide) (by decide)
  obtain ⟨y, rfl⟩ := Int.eq_ofNat_of_zero_le a40
  have T0 := Ld.told Tq (by omega)
  have TN : Told n [] := ⟨(fun _ z => nomatch z), by simp⟩
  have o3 := off01 n (ns h1 h4)
  obtain ⟨w5, e5, g5⟩ := great_ok h1 h4 (by decide) g4 T0 Tl
  obtain ⟨w6, e6, g6⟩ := lbet_ok h1 h4 (by decide) g5
  unfold m_l_right
  refine bndW e1 ?_
  rw [hn]
  refine bndW e2 (bndW ec (bndW e3 (bndW (short_ok h1 h4 T0 (L := x) (by omega) (hc2 x (by omega)) (hc1 x (by omega))) (bndW (a := (false, w4)) ?_ ?_))))
  · rw [if_neg (by simp)]
    exact bindS e4 (bindS (short_ok h1 h4 TN (L := y) (by omega) (fun i hi => Nat.le_trans (o3 i (by omega)) (by decide)) (Nat.le_trans (o3 y (by omega)) (by decide))) rfl)
  rw [if_neg (by simp)]
  refine bndW (short_ok h1 h4 T0 (L := 1) (by decide) (fun i hi => Nat.le_trans (o3 i (by omega)) (by decide)) (Nat.le_trans (o3 1 (by decide)) (by decide))) (bndW (a := false) ?_ ?_)
  · rw [if_neg (by simp)]
    exact bindS (short_ok h1 h4 T0 (L := 0) (by decide) (fun i hi => Nat.le_trans (o3 i (by omega)) (by decide)) (Nat.le_trans (o3 0 (by decide)) (by decide))) rfl
  rw [if_neg (by simp)]
  refine bndW e5 (bndW (a := (true, w6)) ?_ ⟨w6, rfl⟩)
  rw [if_pos rfl]
  exact bindS e6 rfl
theorem law_true : ∀ ns : List Int, ns.length ≤ 63 → m_l_law ns = some true := fun ns hn => by
  unfold m_l_law
  have hr : rngO 0 (maxI 1 (minI 3 (ns.length : Int))) = some (range' 0 (maxI 1 (minI 3 (ns.length : Int)))) := rngO_ok (by
    unfold maxI minI
    split <;> split <;> omega)
  refine bindS hr ?_
  obtain ⟨s, e, _⟩ := lpR_go (f := (fun (s2 : Unit) (k_3 : Int) => (((m_l_well ns k_3).bind fun t7 => (m_l_right t7).bind fun t8 => (if (!t8.1) = true then some (Step.ret false) else some (Step.go ()))) : Option (Step Bool Unit)))) (fun _ => True) (xs := range' 0 (maxI 1 (minI 3 (ns.length : Int)))) (fun k hk s _ => by
    obtain ⟨k0, _⟩ := mem_rng hk
    obtain ⟨w, ew, hw⟩ := well_ok (ns := ns) (k := k) (by rw [sizeL]; omega) k0
    obtain ⟨w', e⟩ := right_ok hw
    exact ⟨(), bindS (show m_l_well ns k = some w from ew) (bindS e rfl), trivial⟩) (s0 := ()) trivial
  exact bindS e rfl
end L06
namespace L06
open PySem PySem.Spec PyProof.Rows L2 Z
theorem tops {l : PySem.W.OpenLaw} {w : World} {K : PySem.W.Frag} {h : Heap} {mg : Str → Option Value} {fa f0 f1 f2 f3 f4 f5 f6 f7 f8 f9 f10 f11 f12 f13 f14 f15 f16 f17 f18 f19 f20 f21 f22 f23 f24 f25 f26 f27 f28 f29 f30 f31 f32 f33 f34 f35 : Addr} (IK : K.In h) (IG : h.Ns mainGlobals mg) (hfa : mg "law" = some (.ref fa))
    {od0 od1 od2 od3 od4 od5 od6 od7 od8 od9 od10 od11 od12 od13 od14 od15 od16 od17 od18 od19 od20 od21 od22 od23 od24 od25 od26 od27 od28 od29 od30 od31 od32 od33 od34 od35 an0 an1 an2 an3 an4 an5 an6 an7 an8 an9 an10 an11 an12 an13 an14 an15 an16 an17 an18 an19 an20 an21 an22 an23 an24 an25 an26 an27 an28 an29 an30 an31 an32 an33 an34 an35 : Option Addr} {sl0 sl1 sl2 sl3 sl4 sl5 sl6 sl7 sl8 sl9 sl10 sl11 sl12 sl13 sl14 sl15 sl16 sl17 sl18 sl19 sl20 sl21 sl22 sl23 sl24 sl25 sl26 sl27 sl28 sl29 sl30 sl31 sl32 sl33 sl34 sl35 : Array (Option Value)} {oc0 oc1 oc2 oc3 oc4 oc5 oc6 oc7 oc8 oc9 oc10 oc11 oc12 oc13 oc14 oc15 oc16 oc17 oc18 oc19 oc20 oc21 oc22 oc23 oc24 oc25 oc26 oc27 oc28 oc29 oc30 oc31 oc32 oc33 oc34 oc35 kV0 kV1 kV2 kV3 kV4 kV5 kV6 kV7 kV8 kV9 kV10 kV11 kV12 kV13 kV14 kV15 kV16 kV17 kV18 kV19 kV20 kV21 kV22 kV23 kV24 kV25 kV26 kV27 kV28 kV29 kV30 kV31 kV32 kV33 kV34 kV35 dc0 dc1 dc2 dc3 dc4 dc5 dc6 dc7 dc8 dc9 dc10 dc11 dc12 dc13 dc14 dc15 dc16 dc17 dc18 dc19 dc20 dc21 dc22 dc23 dc24 dc25 dc26 dc27 dc28 dc29 dc30 dc31 dc32 dc33 dc34 dc35 pm0 pm1 pm2 pm3 pm4 pm5 pm6 pm7 pm8 pm9 pm10 pm11 pm12 pm13 pm14 pm15 pm16 pm17 pm18 pm19 pm20 pm21 pm22 pm23 pm24 pm25 pm26 pm27 pm28 pm29 pm30 pm31 pm32 pm33 pm34 pm35 cd0 cd1 cd2 cd3 cd4 cd5 cd6 cd7 cd8 cd9 cd10 cd11 cd12 cd13 cd14 cd15 cd16 cd17 cd18 cd19 cd20 cd21 cd22 cd23 cd24 cd25 cd26 cd27 cd28 cd29 cd30 cd31 cd32 cd33 cd34 cd35 ct0 ct1 ct2 ct3 ct4 ct5 ct6 ct7 ct8 ct9 ct10 ct11 ct12 ct13 ct14 ct15 ct16 ct17 ct18 ct19 ct20 ct21 ct22 ct23 ct24 ct25 ct26 ct27 ct28 ct29 ct30 ct31 ct32 ct33 ct34 ct35 : Value}
    (a0 : PySem.W.nsIn K mainGlobals "steps_of" = some (some (.ref f0)))
    (b0 : K.lookup f0 = some ⟨oc0, od0, .func (PySem.W.fnOf "steps_of" "steps_of" (defArgs s_p_steps_of) (defBody s_p_steps_of) (defScope s_p_steps_of) .none kV0 dc0 pm0 an0 cd0 ct0), sl0⟩)
    (c0 : PySem.W.codeIn K cd0 "steps_of" = true) (d0 : PySem.W.keepIn K (.ref f0) = true)
    (a1 : PySem.W.nsIn K mainGlobals "straightened" = some (some (.ref f1)))
    (b1 : K.lookup f1 = some ⟨oc1, od1, .func (PySem.W.fnOf "straightened" "straightened" (defArgs s_p_straightened) (defBody s_p_straightened) (defScope s_p_straightened) .none kV1 dc1 pm1 an1 cd1 ct1), sl1⟩)
    (c1 : PySem.W.codeIn K cd1 "straightened" = true) (d1 : PySem.W.keepIn K (.ref f1) = true)
    (a2 : PySem.W.nsIn K mainGlobals "is_integer" = some (some (.ref f2)))
    (b2 : K.lookup f2 = some ⟨oc2, od2, .func (PySem.W.fnOf "is_integer" "is_integer" (defArgs s_p_is_integer) (defBody s_p_is_integer) (defScope s_p_is_integer) .none kV2 dc2 pm2 an2 cd2 ct2), sl2⟩)
    (c2 : PySem.W.codeIn K cd2 "is_integer" = true) (d2 : PySem.W.keepIn K (.ref f2) = true)
    (a3 : PySem.W.nsIn K mainGlobals "is_letters" = some (some (.ref f3)))
    (b3 : K.lookup f3 = some ⟨oc3, od3, .func (PySem.W.fnOf "is_letters" "is_letters" (defArgs s_p_is_letters) (defBody s_p_is_letters) (defScope s_p_is_letters) .none kV3 dc3 pm3 an3 cd3 ct3), sl3⟩)
    (c3 : PySem.W.codeIn K cd3 "is_letters" = true) (d3 : PySem.W.keepIn K (.ref f3) = true)
    (a4 : PySem.W.nsIn K mainGlobals "is_step" = some (some (.ref f4)))
    (b4 : K.lookup f4 = some ⟨oc4, od4, .func (PySem.W.fnOf "is_step" "is_step" (defArgs s_p_is_step) (defBody s_p_is_step) (defScope s_p_is_step) .none kV4 dc4 pm4 an4 cd4 ct4), sl4⟩)
    (c4 : PySem.W.codeIn K cd4 "is_step" = true) (d4 : PySem.W.keepIn K (.ref f4) = true)
    (a5 : PySem.W.nsIn K mainGlobals "is_a_walk" = some (some (.ref f5)))
    (b5 : K.lookup f5 = some ⟨oc5, od5, .func (PySem.W.fnOf "is_a_walk" "is_a_walk" (defArgs s_p_is_a_walk) (defBody s_p_is_a_walk) (defScope s_p_is_a_walk) .none kV5 dc5 pm5 an5 cd5 ct5), sl5⟩)
    (c5 : PySem.W.codeIn K cd5 "is_a_walk" = true) (d5 : PySem.W.keepIn K (.ref f5) = true)
    (a6 : PySem.W.nsIn K mainGlobals "need_letters" = some (some (.ref f6)))
    (b6 : K.lookup f6 = some ⟨oc6, od6, .func (PySem.W.fnOf "need_letters" "need_letters" (defArgs s_p_need_letters) (defBody s_p_need_letters) (defScope s_p_need_letters) .none kV6 dc6 pm6 an6 cd6 ct6), sl6⟩)
    (c6 : PySem.W.codeIn K cd6 "need_letters" = true) (d6 : PySem.W.keepIn K (.ref f6) = true)
    (a7 : PySem.W.nsIn K mainGlobals "need_number" = some (some (.ref f7)))
    (b7 : K.lookup f7 = some ⟨oc7, od7, .func (PySem.W.fnOf "need_number" "need_number" (defArgs s_p_need_number) (defBody s_p_need_number) (defScope s_p_need_number) .none kV7 dc7 pm7 an7 cd7 ct7), sl7⟩)
    (c7 : PySem.W.codeIn K cd7 "need_number" = true) (d7 : PySem.W.keepIn K (.ref f7) = true)
    (a8 : PySem.W.nsIn K mainGlobals "steps_behind" = some (some (.ref f8)))
    (b8 : K.lookup f8 = some ⟨oc8, od8, .func (PySem.W.fnOf "steps_behind" "steps_behind" (defArgs s_p_steps_behind) (defBody s_p_steps_behind) (defScope s_p_steps_behind) .none kV8 dc8 pm8 an8 cd8 ct8), sl8⟩)
    (c8 : PySem.W.codeIn K cd8 "steps_behind" = true) (d8 : PySem.W.keepIn K (.ref f8) = true)
    (a9 : PySem.W.nsIn K mainGlobals "between" = some (some (.ref f9)))
    (b9 : K.lookup f9 = some ⟨oc9, od9, .func (PySem.W.fnOf "between" "between" (defArgs s_p_between) (defBody s_p_between) (defScope s_p_between) .none kV9 dc9 pm9 an9 cd9 ct9), sl9⟩)
    (c9 : PySem.W.codeIn K cd9 "between" = true) (d9 : PySem.W.keepIn K (.ref f9) = true)
    (a10 : PySem.W.nsIn K mainGlobals "need_told" = some (some (.ref f10)))
    (b10 : K.lookup f10 = some ⟨oc10, od10, .func (PySem.W.fnOf "need_told" "need_told" (defArgs s_p_need_told) (defBody s_p_need_told) (defScope s_p_need_told) .none kV10 dc10 pm10 an10 cd10 ct10), sl10⟩)
    (c10 : PySem.W.codeIn K cd10 "need_told" = true) (d10 : PySem.W.keepIn K (.ref f10) = true)
    (a11 : PySem.W.nsIn K mainGlobals "end_kept" = some (some (.ref f11)))
    (b11 : K.lookup f11 = some ⟨oc11, od11, .func (PySem.W.fnOf "end_kept" "end_kept" (defArgs s_p_end_kept) (defBody s_p_end_kept) (defScope s_p_end_kept) .none kV11 dc11 pm11 an11 cd11 ct11), sl11⟩)
    (c11 : PySem.W.codeIn K cd11 "end_kept" = true) (d11 : PySem.W.keepIn K (.ref f11) = true)
    (a12 : PySem.W.nsIn K mainGlobals "machine" = some (some (.ref f12)))
    (b12 : K.lookup f12 = some ⟨oc12, od12, .func (PySem.W.fnOf "machine" "machine" (defArgs s_p_machine) (defBody s_p_machine) (defScope s_p_machine) .none kV12 dc12 pm12 an12 cd12 ct12), sl12⟩)
    (c12 : PySem.W.codeIn K cd12 "machine" = true) (d12 : PySem.W.keepIn K (.ref f12) = true)
    (a13 : PySem.W.nsIn K mainGlobals "counts_by_length" = some (some (.ref f13)))
    (b13 : K.lookup f13 = some ⟨oc13, od13, .func (PySem.W.fnOf "counts_by_length" "counts_by_length" (defArgs s_p_counts_by_length) (defBody s_p_counts_by_length) (defScope s_p_counts_by_length) .none kV13 dc13 pm13 an13 cd13 ct13), sl13⟩)
    (c13 : PySem.W.codeIn K cd13 "counts_by_length" = true) (d13 : PySem.W.keepIn K (.ref f13) = true)
    (a14 : PySem.W.nsIn K mainGlobals "how_many_without" = some (some (.ref f14)))
    (b14 : K.lookup f14 = some ⟨oc14, od14, .func (PySem.W.fnOf "how_many_without" "how_many_without" (defArgs s_p_how_many_without) (defBody s_p_how_many_without) (defScope s_p_how_many_without) .none kV14 dc14 pm14 an14 cd14 ct14), sl14⟩)
    (c14 : PySem.W.codeIn K cd14 "how_many_without" = true) (d14 : PySem.W.keepIn K (.ref f14) = true)
    (a15 : PySem.W.nsIn K mainGlobals "first_without" = some (some (.ref f15)))
    (b15 : K.lookup f15 = some ⟨oc15, od15, .func (PySem.W.fnOf "first_without" "first_without" (defArgs s_p_first_without) (defBody s_p_first_without) (defScope s_p_first_without) .none kV15 dc15 pm15 an15 cd15 ct15), sl15⟩)
    (c15 : PySem.W.codeIn K cd15 "first_without" = true) (d15 : PySem.W.keepIn K (.ref f15) = true)
    (a16 : PySem.W.nsIn K mainGlobals "_law_well" = some (some (.ref f16)))
    (b16 : K.lookup f16 = some ⟨oc16, od16, .func (PySem.W.fnOf "_law_well" "_law_well" (defArgs s_l_well) (defBody s_l_well) (defScope s_l_well) .none kV16 dc16 pm16 an16 cd16 ct16), sl16⟩)
    (c16 : PySem.W.codeIn K cd16 "_law_well" = true) (d16 : PySem.W.keepIn K (.ref f16) = true)
    (a17 : PySem.W.nsIn K mainGlobals "_law_take" = some (some (.ref f17)))
    (b17 : K.lookup f17 = some ⟨oc17, od17, .func (PySem.W.fnOf "_law_take" "_law_take" (defArgs s_l_take) (defBody s_l_take) (defScope s_l_take) .none kV17 dc17 pm17 an17 cd17 ct17), sl17⟩)
    (c17 : PySem.W.codeIn K cd17 "_law_take" = true) (d17 : PySem.W.keepIn K (.ref f17) = true)
    (a18 : PySem.W.nsIn K mainGlobals "_law_steps" = some (some (.ref f18)))
    (b18 : K.lookup f18 = some ⟨oc18, od18, .func (PySem.W.fnOf "_law_steps" "_law_steps" (defArgs s_l_steps) (defBody s_l_steps) (defScope s_l_steps) .none kV18 dc18 pm18 an18 cd18 ct18), sl18⟩)
    (c18 : PySem.W.codeIn K cd18 "_law_steps" = true) (d18 : PySem.W.keepIn K (.ref f18) = true)
    (a19 : PySem.W.nsIn K mainGlobals "_law_is" = some (some (.ref f19)))
    (b19 : K.lookup f19 = some ⟨oc19, od19, .func (PySem.W.fnOf "_law_is" "_law_is" (defArgs s_l_is) (defBody s_l_is) (defScope s_l_is) .none kV19 dc19 pm19 an19 cd19 ct19), sl19⟩)
    (c19 : PySem.W.codeIn K cd19 "_law_is" = true) (d19 : PySem.W.keepIn K (.ref f19) = true)
    (a20 : PySem.W.nsIn K mainGlobals "_law_line" = some (some (.ref f20)))
    (b20 : K.lookup f20 = some ⟨oc20, od20, .func (PySem.W.fnOf "_law_line" "_law_line" (defArgs s_l_line) (defBody s_l_line) (defScope s_l_line) .none kV20 dc20 pm20 an20 cd20 ct20), sl20⟩)
    (c20 : PySem.W.codeIn K cd20 "_law_line" = true) (d20 : PySem.W.keepIn K (.ref f20) = true)
    (a21 : PySem.W.nsIn K mainGlobals "_law_told" = some (some (.ref f21)))
    (b21 : K.lookup f21 = some ⟨oc21, od21, .func (PySem.W.fnOf "_law_told" "_law_told" (defArgs s_l_told) (defBody s_l_told) (defScope s_l_told) .none kV21 dc21 pm21 an21 cd21 ct21), sl21⟩)
    (c21 : PySem.W.codeIn K cd21 "_law_told" = true) (d21 : PySem.W.keepIn K (.ref f21) = true)
    (a22 : PySem.W.nsIn K mainGlobals "_law_free" = some (some (.ref f22)))
    (b22 : K.lookup f22 = some ⟨oc22, od22, .func (PySem.W.fnOf "_law_free" "_law_free" (defArgs s_l_free) (defBody s_l_free) (defScope s_l_free) .none kV22 dc22 pm22 an22 cd22 ct22), sl22⟩)
    (c22 : PySem.W.codeIn K cd22 "_law_free" = true) (d22 : PySem.W.keepIn K (.ref f22) = true)
    (a23 : PySem.W.nsIn K mainGlobals "_law_all" = some (some (.ref f23)))
    (b23 : K.lookup f23 = some ⟨oc23, od23, .func (PySem.W.fnOf "_law_all" "_law_all" (defArgs s_l_all) (defBody s_l_all) (defScope s_l_all) .none kV23 dc23 pm23 an23 cd23 ct23), sl23⟩)
    (c23 : PySem.W.codeIn K cd23 "_law_all" = true) (d23 : PySem.W.keepIn K (.ref f23) = true)
    (a24 : PySem.W.nsIn K mainGlobals "_law_end" = some (some (.ref f24)))
    (b24 : K.lookup f24 = some ⟨oc24, od24, .func (PySem.W.fnOf "_law_end" "_law_end" (defArgs s_l_end) (defBody s_l_end) (defScope s_l_end) .none kV24 dc24 pm24 an24 cd24 ct24), sl24⟩)
    (c24 : PySem.W.codeIn K cd24 "_law_end" = true) (d24 : PySem.W.keepIn K (.ref f24) = true)
    (a25 : PySem.W.nsIn K mainGlobals "_law_ways" = some (some (.ref f25)))
    (b25 : K.lookup f25 = some ⟨oc25, od25, .func (PySem.W.fnOf "_law_ways" "_law_ways" (defArgs s_l_ways) (defBody s_l_ways) (defScope s_l_ways) .none kV25 dc25 pm25 an25 cd25 ct25), sl25⟩)
    (c25 : PySem.W.codeIn K cd25 "_law_ways" = true) (d25 : PySem.W.keepIn K (.ref f25) = true)
    (a26 : PySem.W.nsIn K mainGlobals "_law_counts" = some (some (.ref f26)))
    (b26 : K.lookup f26 = some ⟨oc26, od26, .func (PySem.W.fnOf "_law_counts" "_law_counts" (defArgs s_l_counts) (defBody s_l_counts) (defScope s_l_counts) .none kV26 dc26 pm26 an26 cd26 ct26), sl26⟩)
    (c26 : PySem.W.codeIn K cd26 "_law_counts" = true) (d26 : PySem.W.keepIn K (.ref f26) = true)
    (a27 : PySem.W.nsIn K mainGlobals "_law_first" = some (some (.ref f27)))
    (b27 : K.lookup f27 = some ⟨oc27, od27, .func (PySem.W.fnOf "_law_first" "_law_first" (defArgs s_l_first) (defBody s_l_first) (defScope s_l_first) .none kV27 dc27 pm27 an27 cd27 ct27), sl27⟩)
    (c27 : PySem.W.codeIn K cd27 "_law_first" = true) (d27 : PySem.W.keepIn K (.ref f27) = true)
    (a28 : PySem.W.nsIn K mainGlobals "_law_number" = some (some (.ref f28)))
    (b28 : K.lookup f28 = some ⟨oc28, od28, .func (PySem.W.fnOf "_law_number" "_law_number" (defArgs s_l_number) (defBody s_l_number) (defScope s_l_number) .none kV28 dc28 pm28 an28 cd28 ct28), sl28⟩)
    (c28 : PySem.W.codeIn K cd28 "_law_number" = true) (d28 : PySem.W.keepIn K (.ref f28) = true)
    (a29 : PySem.W.nsIn K mainGlobals "_law_without" = some (some (.ref f29)))
    (b29 : K.lookup f29 = some ⟨oc29, od29, .func (PySem.W.fnOf "_law_without" "_law_without" (defArgs s_l_without) (defBody s_l_without) (defScope s_l_without) .none kV29 dc29 pm29 an29 cd29 ct29), sl29⟩)
    (c29 : PySem.W.codeIn K cd29 "_law_without" = true) (d29 : PySem.W.keepIn K (.ref f29) = true)
    (a30 : PySem.W.nsIn K mainGlobals "_law_short" = some (some (.ref f30)))
    (b30 : K.lookup f30 = some ⟨oc30, od30, .func (PySem.W.fnOf "_law_short" "_law_short" (defArgs s_l_short) (defBody s_l_short) (defScope s_l_short) .none kV30 dc30 pm30 an30 cd30 ct30), sl30⟩)
    (c30 : PySem.W.codeIn K cd30 "_law_short" = true) (d30 : PySem.W.keepIn K (.ref f30) = true)
    (a31 : PySem.W.nsIn K mainGlobals "_law_great" = some (some (.ref f31)))
    (b31 : K.lookup f31 = some ⟨oc31, od31, .func (PySem.W.fnOf "_law_great" "_law_great" (defArgs s_l_great) (defBody s_l_great) (defScope s_l_great) .none kV31 dc31 pm31 an31 cd31 ct31), sl31⟩)
    (c31 : PySem.W.codeIn K cd31 "_law_great" = true) (d31 : PySem.W.keepIn K (.ref f31) = true)
    (a32 : PySem.W.nsIn K mainGlobals "_law_ends" = some (some (.ref f32)))
    (b32 : K.lookup f32 = some ⟨oc32, od32, .func (PySem.W.fnOf "_law_ends" "_law_ends" (defArgs s_l_ends) (defBody s_l_ends) (defScope s_l_ends) .none kV32 dc32 pm32 an32 cd32 ct32), sl32⟩)
    (c32 : PySem.W.codeIn K cd32 "_law_ends" = true) (d32 : PySem.W.keepIn K (.ref f32) = true)
    (a33 : PySem.W.nsIn K mainGlobals "_law_between" = some (some (.ref f33)))
    (b33 : K.lookup f33 = some ⟨oc33, od33, .func (PySem.W.fnOf "_law_between" "_law_between" (defArgs s_l_between) (defBody s_l_between) (defScope s_l_between) .none kV33 dc33 pm33 an33 cd33 ct33), sl33⟩)
    (c33 : PySem.W.codeIn K cd33 "_law_between" = true) (d33 : PySem.W.keepIn K (.ref f33) = true)
    (a34 : PySem.W.nsIn K mainGlobals "_law_right" = some (some (.ref f34)))
    (b34 : K.lookup f34 = some ⟨oc34, od34, .func (PySem.W.fnOf "_law_right" "_law_right" (defArgs s_l_right) (defBody s_l_right) (defScope s_l_right) .none kV34 dc34 pm34 an34 cd34 ct34), sl34⟩)
    (c34 : PySem.W.codeIn K cd34 "_law_right" = true) (d34 : PySem.W.keepIn K (.ref f34) = true)
    (a35 : PySem.W.nsIn K mainGlobals "law" = some (some (.ref f35)))
    (b35 : K.lookup f35 = some ⟨oc35, od35, .func (PySem.W.fnOf "law" "law" (defArgs s_l_law) (defBody s_l_law) (defScope s_l_law) .none kV35 dc35 pm35 an35 cd35 ct35), sl35⟩)
    (c35 : PySem.W.codeIn K cd35 "law" = true) (d35 : PySem.W.keepIn K (.ref f35) = true)
    (g_range : PySem.W.nsIn K mainGlobals "range" = some none)
    (g_len : PySem.W.nsIn K mainGlobals "len" = some none)
    (g_tuple : PySem.W.nsIn K mainGlobals "tuple" = some none)
    (g_isinstance : PySem.W.nsIn K mainGlobals "isinstance" = some none)
    (g_int : PySem.W.nsIn K mainGlobals "int" = some none)
    (g_bool : PySem.W.nsIn K mainGlobals "bool" = some none)
    {tk_MOST_LETTERS : Tok}
    (g_MOST_LETTERS : PySem.W.nsIn K mainGlobals "MOST_LETTERS" = some (some (.int 4 tk_MOST_LETTERS)))
    (g_abs : PySem.W.nsIn K mainGlobals "abs" = some none)
    (g_all : PySem.W.nsIn K mainGlobals "all" = some none)
    (g_sum : PySem.W.nsIn K mainGlobals "sum" = some none)
    (g_list : PySem.W.nsIn K mainGlobals "list" = some none)
    {tk_MOST_TOLD : Tok}
    (g_MOST_TOLD : PySem.W.nsIn K mainGlobals "MOST_TOLD" = some (some (.int 5 tk_MOST_TOLD)))
    (g_any : PySem.W.nsIn K mainGlobals "any" = some none)
    (g_max : PySem.W.nsIn K mainGlobals "max" = some none)
    (g_dict : PySem.W.nsIn K mainGlobals "dict" = some none)
    (g_repr : PySem.W.nsIn K mainGlobals "repr" = some none)
    (g_min : PySem.W.nsIn K mainGlobals "min" = some none)
    : ∃ fd : FuncData, (∀ (s : Shared) (v : Value), BindsTo s fd ⟨[v], []⟩ [("_law_script", v)]) ∧ ∀ base : Heap, K.In base → base.Ns mainGlobals mg → FnG l.prog w K mg base CX0 9 fa fd ["_law_script"] (LawSp K m_l_law) := by
  have e := hfa.symm.trans (PySem.W.mg_of IK IG a35)
  cases e
  have h_g_range := PySem.W.mg_none_of IK IG g_range
  have h_g_len := PySem.W.mg_none_of IK IG g_len
  have h_g_tuple := PySem.W.mg_none_of IK IG g_tuple
  have h_g_isinstance := PySem.W.mg_none_of IK IG g_isinstance
  have h_g_int := PySem.W.mg_none_of IK IG g_int
  have h_g_bool := PySem.W.mg_none_of IK IG g_bool
  have h_g_MOST_LETTERS := PySem.W.mg_of IK IG g_MOST_LETTERS
  have h_g_abs := PySem.W.mg_none_of IK IG g_abs
  have h_g_all := PySem.W.mg_none_of IK IG g_all
  have h_g_sum := PySem.W.mg_none_of IK IG g_sum
  have h_g_list := PySem.W.mg_none_of IK IG g_list
  have h_g_MOST_TOLD := PySem.W.mg_of IK IG g_MOST_TOLD
  have h_g_any := PySem.W.mg_none_of IK IG g_any
  have h_g_max := PySem.W.mg_none_of IK IG g_max
  have h_g_dict := PySem.W.mg_none_of IK IG g_dict
  have h_g_repr := PySem.W.mg_none_of IK IG g_repr
  have h_g_min := PySem.W.mg_none_of IK IG g_min
  have F0 := fun_mk (st := s_p_steps_of) b0 c0 d0
  have B0 := F0.binds (ps := ["letters"]) fun _ _ _ _ _ _ us hl => match us, hl with | [_], _ => rfl
  have F1 := fun_mk (st := s_p_straightened) b1 c1 d1
  have B1 := F1.binds (ps := ["walk"]) fun _ _ _ _ _ _ us hl => match us, hl with | [_], _ => rfl
  have F2 := fun_mk (st := s_p_is_integer) b2 c2 d2
  have B2 := F2.binds (ps := ["value"]) fun _ _ _ _ _ _ us hl => match us, hl with | [_], _ => rfl
  have F3 := fun_mk (st := s_p_is_letters) b3 c3 d3
  have B3 := F3.binds (ps := ["value"]) fun _ _ _ _ _ _ us hl => match us, hl with | [_], _ => rfl
  have F4 := fun_mk (st := s_p_is_step) b4 c4 d4
  have B4 := F4.binds (ps := ["value", "letters"]) fun _ _ _ _ _ _ us hl => match us, hl with | [_, _], _ => rfl
  have F5 := fun_mk (st := s_p_is_a_walk) b5 c5 d5
  have B5 := F5.binds (ps := ["value", "letters"]) fun _ _ _ _ _ _ us hl => match us, hl with | [_, _], _ => rfl
  have F6 := fun_mk (st := s_p_need_letters) b6 c6 d6
  have B6 := F6.binds (ps := ["letters"]) fun _ _ _ _ _ _ us hl => match us, hl with | [_], _ => rfl
  have F7 := fun_mk (st := s_p_need_number) b7 c7 d7
  have B7 := F7.binds (ps := ["number", "low", "high"]) fun _ _ _ _ _ _ us hl => match us, hl with | [_, _, _], _ => rfl
  have F8 := fun_mk (st := s_p_steps_behind) b8 c8 d8
  have B8 := F8.binds (ps := ["letters", "walk"]) fun _ _ _ _ _ _ us hl => match us, hl with | [_, _], _ => rfl
  have F9 := fun_mk (st := s_p_between) b9 c9 d9
  have B9 := F9.binds (ps := ["letters", "first", "last", "length"]) fun _ _ _ _ _ _ us hl => match us, hl with | [_, _, _, _], _ => rfl
  have F10 := fun_mk (st := s_p_need_told) b10 c10 d10
  have B10 := F10.binds (ps := ["letters", "told"]) fun _ _ _ _ _ _ us hl => match us, hl with | [_, _], _ => rfl
  have F11 := fun_mk (st := s_p_end_kept) b11 c11 d11
  have B11 := F11.binds (ps := ["walk", "begins"]) fun _ _ _ _ _ _ us hl => match us, hl with | [_, _], _ => rfl
  have F12 := fun_mk (st := s_p_machine) b12 c12 d12
  have B12 := F12.binds (ps := ["letters", "told"]) fun _ _ _ _ _ _ us hl => match us, hl with | [_, _], _ => rfl
  have F13 := fun_mk (st := s_p_counts_by_length) b13 c13 d13
  have B13 := F13.binds (ps := ["table", "length"]) fun _ _ _ _ _ _ us hl => match us, hl with | [_, _], _ => rfl
  have F14 := fun_mk (st := s_p_how_many_without) b14 c14 d14
  have B14 := F14.binds (ps := ["letters", "told", "length"]) fun _ _ _ _ _ _ us hl => match us, hl with | [_, _, _], _ => rfl
  have F15 := fun_mk (st := s_p_first_without) b15 c15 d15
  have B15 := F15.binds (ps := ["letters", "told", "length"]) fun _ _ _ _ _ _ us hl => match us, hl with | [_, _, _], _ => rfl
  have F16 := fun_mk (st := s_l_well) b16 c16 d16
  have B16 := F16.binds (ps := ["_law_script", "_law_k"]) fun _ _ _ _ _ _ us hl => match us, hl with | [_, _], _ => rfl
  have F17 := fun_mk (st := s_l_take) b17 c17 d17
  have B17 := F17.binds (ps := ["_law_well_here", "_law_many"]) fun _ _ _ _ _ _ us hl => match us, hl with | [_, _], _ => rfl
  have F18 := fun_mk (st := s_l_steps) b18 c18 d18
  have B18 := F18.binds (ps := ["_law_letters"]) fun _ _ _ _ _ _ us hl => match us, hl with | [_], _ => rfl
  have F19 := fun_mk (st := s_l_is) b19 c19 d19
  have B19 := F19.binds (ps := ["_law_found", "_law_due"]) fun _ _ _ _ _ _ us hl => match us, hl with | [_, _], _ => rfl
  have F20 := fun_mk (st := s_l_line) b20 c20 d20
  have B20 := F20.binds (ps := ["_law_well_here", "_law_letters", "_law_size"]) fun _ _ _ _ _ _ us hl => match us, hl with | [_, _, _], _ => rfl
  have F21 := fun_mk (st := s_l_told) b21 c21 d21
  have B21 := F21.binds (ps := ["_law_well_here", "_law_letters"]) fun _ _ _ _ _ _ us hl => match us, hl with | [_, _], _ => rfl
  have F22 := fun_mk (st := s_l_free) b22 c22 d22
  have B22 := F22.binds (ps := ["_law_told_here", "_law_walk"]) fun _ _ _ _ _ _ us hl => match us, hl with | [_, _], _ => rfl
  have F23 := fun_mk (st := s_l_all) b23 c23 d23
  have B23 := F23.binds (ps := ["_law_letters", "_law_told_here", "_law_length"]) fun _ _ _ _ _ _ us hl => match us, hl with | [_, _, _], _ => rfl
  have F24 := fun_mk (st := s_l_end) b24 c24 d24
  have B24 := F24.binds (ps := ["_law_told_here", "_law_walk"]) fun _ _ _ _ _ _ us hl => match us, hl with | [_, _], _ => rfl
  have F25 := fun_mk (st := s_l_ways) b25 c25 d25
  have B25 := F25.binds (ps := ["_law_letters", "_law_told_here"]) fun _ _ _ _ _ _ us hl => match us, hl with | [_, _], _ => rfl
  have F26 := fun_mk (st := s_l_counts) b26 c26 d26
  have B26 := F26.binds (ps := ["_law_ways_here", "_law_length"]) fun _ _ _ _ _ _ us hl => match us, hl with | [_, _], _ => rfl
  have F27 := fun_mk (st := s_l_first) b27 c27 d27
  have B27 := F27.binds (ps := ["_law_ways_here", "_law_counts_here"]) fun _ _ _ _ _ _ us hl => match us, hl with | [_, _], _ => rfl
  have F28 := fun_mk (st := s_l_number) b28 c28 d28
  have B28 := F28.binds (ps := ["_law_found", "_law_due"]) fun _ _ _ _ _ _ us hl => match us, hl with | [_, _], _ => rfl
  have F29 := fun_mk (st := s_l_without) b29 c29 d29
  have B29 := F29.binds (ps := ["_law_letters", "_law_told_here", "_law_length", "_law_due", "_law_first_here"]) fun _ _ _ _ _ _ us hl => match us, hl with | [_, _, _, _, _], _ => rfl
  have F30 := fun_mk (st := s_l_short) b30 c30 d30
  have B30 := F30.binds (ps := ["_law_letters", "_law_told_here", "_law_length"]) fun _ _ _ _ _ _ us hl => match us, hl with | [_, _, _], _ => rfl
  have F31 := fun_mk (st := s_l_great) b31 c31 d31
  have B31 := F31.binds (ps := ["_law_well_here", "_law_letters", "_law_told_here"]) fun _ _ _ _ _ _ us hl => match us, hl with | [_, _, _], _ => rfl
  have F32 := fun_mk (st := s_l_ends) b32 c32 d32
  have B32 := F32.binds (ps := ["_law_letters", "_law_first_here", "_law_last", "_law_length"]) fun _ _ _ _ _ _ us hl => match us, hl with | [_, _, _, _], _ => rfl
  have F33 := fun_mk (st := s_l_between) b33 c33 d33
  have B33 := F33.binds (ps := ["_law_well_here", "_law_letters"]) fun _ _ _ _ _ _ us hl => match us, hl with | [_, _], _ => rfl
  have F34 := fun_mk (st := s_l_right) b34 c34 d34
  have B34 := F34.binds (ps := ["_law_well_here"]) fun _ _ _ _ _ _ us hl => match us, hl with | [_], _ => rfl
  have F35 := fun_mk (st := s_l_law) b35 c35 d35
  have B35 := F35.binds (ps := ["_law_script"]) fun _ _ _ _ _ _ us hl => match us, hl with | [_], _ => rfl
  refine ⟨PySem.W.fnOf "law" "law" (defArgs s_l_law) (defBody s_l_law) (defScope s_l_law) .none kV35 dc35 pm35 an35 cd35 ct35, fun s v => .of_eq rfl, fun base _ _ => ?_⟩
  have C_p_steps_of := cal_p_steps_of (P := l.prog) (w := w) (base := base) F0 (PySem.W.mg_of IK IG a0) B0 h_g_range
  have C_p_straightened := cal_p_straightened (P := l.prog) (w := w) (base := base) F1 (PySem.W.mg_of IK IG a1) B1 h_g_len h_g_tuple
  have C_p_is_integer := cal_p_is_integer (P := l.prog) (w := w) (base := base) F2 (PySem.W.mg_of IK IG a2) B2 h_g_isinstance h_g_int h_g_bool
  have C_p_is_letters := cal_p_is_letters (P := l.prog) (w := w) (base := base) F3 (PySem.W.mg_of IK IG a3) B3 C_p_is_integer h_g_MOST_LETTERS
  have C_p_is_step := cal_p_is_step (P := l.prog) (w := w) (base := base) F4 (PySem.W.mg_of IK IG a4) B4 C_p_is_integer h_g_abs
  have C_p_is_a_walk := cal_p_is_a_walk (P := l.prog) (w := w) (base := base) F5 (PySem.W.mg_of IK IG a5) B5 h_g_isinstance h_g_tuple h_g_all C_p_is_step
  have C_p_need_letters := cal_p_need_letters (P := l.prog) (w := w) (base := base) F6 (PySem.W.mg_of IK IG a6) B6 C_p_is_letters
  have C_p_need_number := cal_p_need_number (P := l.prog) (w := w) (base := base) F7 (PySem.W.mg_of IK IG a7) B7 
  have C_p_steps_behind := cal_p_steps_behind (P := l.prog) (w := w) (base := base) F8 (PySem.W.mg_of IK IG a8) B8 C_p_steps_of
  have C_p_between := cal_p_between (P := l.prog) (w := w) (base := base) F9 (PySem.W.mg_of IK IG a9) B9 C_p_need_letters C_p_is_step C_p_need_number C_p_steps_of h_g_int h_g_range h_g_sum h_g_list
  have C_p_need_told := cal_p_need_told (P := l.prog) (w := w) (base := base) F10 (PySem.W.mg_of IK IG a10) B10 C_p_is_a_walk h_g_len h_g_MOST_TOLD C_p_straightened
  have C_p_need_toldO := cal_p_need_toldO (P := l.prog) (w := w) (base := base) F10 (PySem.W.mg_of IK IG a10) B10 C_p_is_a_walk h_g_len h_g_MOST_TOLD C_p_straightened
  have C_p_end_kept := cal_p_end_kept (P := l.prog) (w := w) (base := base) F11 (PySem.W.mg_of IK IG a11) B11 h_g_range h_g_len
  have C_p_machine := cal_p_machine (P := l.prog) (w := w) (base := base) F12 (PySem.W.mg_of IK IG a12) B12 h_g_range h_g_len C_p_steps_behind h_g_any C_p_end_kept
  have C_p_machineO := cal_p_machineO (P := l.prog) (w := w) (base := base) F12 (PySem.W.mg_of IK IG a12) B12 h_g_range h_g_len C_p_steps_behind h_g_any C_p_end_kept
  have C_p_counts_by_length := cal_p_counts_by_length (P := l.prog) (w := w) (base := base) F13 (PySem.W.mg_of IK IG a13) B13 h_g_range h_g_sum
  have C_p_how_many_without := cal_p_how_many_without (P := l.prog) (w := w) (base := base) F14 (PySem.W.mg_of IK IG a14) B14 C_p_need_letters C_p_need_told C_p_need_number C_p_counts_by_length C_p_machine
  have C_p_how_many_withoutO := cal_p_how_many_withoutO (P := l.prog) (w := w) (base := base) F14 (PySem.W.mg_of IK IG a14) B14 C_p_need_letters C_p_need_toldO C_p_need_number C_p_counts_by_length C_p_machineO
  have C_p_first_without := cal_p_first_without (P := l.prog) (w := w) (base := base) F15 (PySem.W.mg_of IK IG a15) B15 C_p_need_letters C_p_need_told C_p_need_number C_p_machine C_p_counts_by_length h_g_range
  have C_p_first_withoutO := cal_p_first_withoutO (P := l.prog) (w := w) (base := base) F15 (PySem.W.mg_of IK IG a15) B15 C_p_need_letters C_p_need_toldO C_p_need_number C_p_machineO C_p_counts_by_length h_g_range
  have C_l_well := cal_l_well (P := l.prog) (w := w) (base := base) F16 (PySem.W.mg_of IK IG a16) B16 h_g_len h_g_sum h_g_int h_g_abs h_g_max
  have C_l_take := cal_l_take (P := l.prog) (w := w) (base := base) F17 (PySem.W.mg_of IK IG a17) B17 h_g_int
  have C_l_steps := cal_l_steps (P := l.prog) (w := w) (base := base) F18 (PySem.W.mg_of IK IG a18) B18 h_g_range
  have C_l_is := cal_l_is (P := l.prog) (w := w) (base := base) F19 (PySem.W.mg_of IK IG a19) B19 h_g_isinstance h_g_tuple h_g_all h_g_int h_g_bool
  have C_l_isN := cal_l_isN (P := l.prog) (w := w) (base := base) F19 (PySem.W.mg_of IK IG a19) B19 h_g_isinstance h_g_tuple
  have C_l_line := cal_l_line (P := l.prog) (w := w) (base := base) F20 (PySem.W.mg_of IK IG a20) B20 h_g_range C_l_steps C_l_take h_g_len
  have C_l_told := cal_l_told (P := l.prog) (w := w) (base := base) F21 (PySem.W.mg_of IK IG a21) B21 C_l_steps C_l_take h_g_len h_g_range C_l_line
  have C_l_free := cal_l_free (P := l.prog) (w := w) (base := base) F22 (PySem.W.mg_of IK IG a22) B22 h_g_len
  have C_l_all := cal_l_all (P := l.prog) (w := w) (base := base) F23 (PySem.W.mg_of IK IG a23) B23 h_g_range C_l_steps C_l_free
  have C_l_end := cal_l_end (P := l.prog) (w := w) (base := base) F24 (PySem.W.mg_of IK IG a24) B24 h_g_range h_g_len
  have C_l_ways := cal_l_ways (P := l.prog) (w := w) (base := base) F25 (PySem.W.mg_of IK IG a25) B25 h_g_range h_g_len C_l_steps C_l_free C_l_end
  have C_l_counts := cal_l_counts (P := l.prog) (w := w) (base := base) F26 (PySem.W.mg_of IK IG a26) B26 h_g_dict h_g_range h_g_sum
  have C_l_first := cal_l_first (P := l.prog) (w := w) (base := base) F27 (PySem.W.mg_of IK IG a27) B27 h_g_range h_g_len
  have C_l_number := cal_l_number (P := l.prog) (w := w) (base := base) F28 (PySem.W.mg_of IK IG a28) B28 h_g_isinstance h_g_int h_g_bool
  have C_l_without := cal_l_without (P := l.prog) (w := w) (base := base) F29 (PySem.W.mg_of IK IG a29) B29 h_g_repr h_g_list C_l_number C_p_how_many_withoutO C_p_first_withoutO C_p_how_many_without C_p_first_without C_l_isN C_l_is
  have C_l_short := cal_l_short (P := l.prog) (w := w) (base := base) F30 (PySem.W.mg_of IK IG a30) B30 C_l_all C_l_without h_g_len h_g_int
  have C_l_great := cal_l_great (P := l.prog) (w := w) (base := base) F31 (PySem.W.mg_of IK IG a31) B31 C_l_ways C_l_take h_g_int C_l_counts C_l_without C_l_first
  have C_l_ends := cal_l_ends (P := l.prog) (w := w) (base := base) F32 (PySem.W.mg_of IK IG a32) B32 h_g_range
  have C_l_between := cal_l_between (P := l.prog) (w := w) (base := base) F33 (PySem.W.mg_of IK IG a33) B33 C_l_steps C_l_take h_g_len C_l_ends C_l_number C_p_between C_l_all
  have C_l_right := cal_l_right (P := l.prog) (w := w) (base := base) F34 (PySem.W.mg_of IK IG a34) B34 C_l_take C_l_told C_l_short C_l_great C_l_between
  have C_l_law := cal_l_law (P := l.prog) (w := w) (base := base) F35 (PySem.W.mg_of IK IG a35) B35 h_g_range h_g_max h_g_min h_g_len C_l_right C_l_well
  obtain ⟨f_, fd_, Fn_, G_, hm_, _⟩ := C_l_law.ex
  have e := hm_.symm.trans (PySem.W.mg_of IK IG a35)
  cases e
  obtain ⟨_, _, _, _, _, _, _, _, _, rfl, lk_, _⟩ := Fn_.ex
  rw [b35] at lk_
  cases lk_
  exact G_
end L06
open PySem PySem.W PyProof.Rows
set_option maxRecDepth 100000 in
set_option maxHeartbeats 0 in
theorem PySem.Challenge.cw_walkclubs_k06_walks_without_told_ones_holds : PySem.Challenge.rw_walkclubs_k06_walks_without_told_ones.Holds := by
  w_on; o_law; k_head; (case hw => w_witness2)
  k_fill
  refine Z.walk_ofG (l := PySem.Challenge.rw_walkclubs_k06_walks_without_told_ones) (n := 63) (k := 9) (x := "_law_script") (m := L06.m_l_law) rfl (by decide) rfl ⟨rfl, by decide, by decide⟩ (fun w h Y => PySem.W.kIn_of Y) ?F L06.law_true
  case F =>
    intro w mg fa h KI KG hmg
    refine' L06.tops KI KG hmg ?a0 ?b0 ?c0 ?d0 ?a1 ?b1 ?c1 ?d1 ?a2 ?b2 ?c2 ?d2 ?a3 ?b3 ?c3 ?d3 ?a4 ?b4 ?c4 ?d4 ?a5 ?b5 ?c5 ?d5 ?a6 ?b6 ?c6 ?d6 ?a7 ?b7 ?c7 ?d7 ?a8 ?b8 ?c8 ?d8 ?a9 ?b9 ?c9 ?d9 ?a10 ?b10 ?c10 ?d10 ?a11 ?b11 ?c11 ?d11 ?a12 ?b12 ?c12 ?d12 ?a13 ?b13 ?c13 ?d13 ?a14 ?b14 ?c14 ?d14 ?a15 ?b15 ?c15 ?d15 ?a16 ?b16 ?c16 ?d16 ?a17 ?b17 ?c17 ?d17 ?a18 ?b18 ?c18 ?d18 ?a19 ?b19 ?c19 ?d19 ?a20 ?b20 ?c20 ?d20 ?a21 ?b21 ?c21 ?d21 ?a22 ?b22 ?c22 ?d22 ?a23 ?b23 ?c23 ?d23 ?a24 ?b24 ?c24 ?d24 ?a25 ?b25 ?c25 ?d25 ?a26 ?b26 ?c26 ?d26 ?a27 ?b27 ?c27 ?d27 ?a28 ?b28 ?c28 ?d28 ?a29 ?b29 ?c29 ?d29 ?a30 ?b30 ?c30 ?d30 ?a31 ?b31 ?c31 ?d31 ?a32 ?b32 ?c32 ?d32 ?a33 ?b33 ?c33 ?d33 ?a34 ?b34 ?c34 ?d34 ?a35 ?b35 ?c35 ?d35 ?g_range ?g_len ?g_tuple ?g_isinstance ?g_int ?g_bool ?g_MOST_LETTERS ?g_abs ?g_all ?g_sum ?g_list ?g_MOST_TOLD ?g_any ?g_max ?g_dict ?g_repr ?g_min
    (case a0 => k_is)
    (case b0 => k_is)
    (case c0 => k_is)
    (case d0 => k_is)
    (case a1 => k_is)
    (case b1 => k_is)
    (case c1 => k_is)
    (case d1 => k_is)
    (case a2 => k_is)
    (case b2 => k_is)
    (case c2 => k_is)
    (case d2 => k_is)
    (case a3 => k_is)
    (case b3 => k_is)
    (case c3 => k_is)
    (case d3 => k_is)
    (case a4 => k_is)
    (case b4 => k_is)
    (case c4 => k_is)
    (case d4 => k_is)
    (case a5 => k_is)
    (case b5 => k_is)
    (case c5 => k_is)
    (case d5 => k_is)
    (case a6 => k_is)
    (case b6 => k_is)
    (case c6 => k_is)
    (case d6 => k_is)
    (case a7 => k_is)
    (case b7 => k_is)
    (case c7 => k_is)
    (case d7 => k_is)
    (case a8 => k_is)
    (case b8 => k_is)
    (case c8 => k_is)
    (case d8 => k_is)
    (case a9 => k_is)
    (case b9 => k_is)
    (case c9 => k_is)
    (case d9 => k_is)
    (case a10 => k_is)
    (case b10 => k_is)
    (case c10 => k_is)
    (case d10 => k_is)
    (case a11 => k_is)
    (case b11 => k_is)
    (case c11 => k_is)
    (case d11 => k_is)
    (case a12 => k_is)
    (case b12 => k_is)
    (case c12 => k_is)
    (case d12 => k_is)
    (case a13 => k_is)
    (case b13 => k_is)
    (case c13 => k_is)
    (case d13 => k_is)
    (case a14 => k_is)
    (case b14 => k_is)
    (case c14 => k_is)
    (case d14 => k_is)
    (case a15 => k_is)
    (case b15 => k_is)
    (case c15 => k_is)
    (case d15 => k_is)
    (case a16 => k_is)
    (case b16 => k_is)
    (case c16 => k_is)
    (case d16 => k_is)
    (case a17 => k_is)
    (case b17 => k_is)
    (case c17 => k_is)
    (case d17 => k_is)
    (case a18 => k_is)
    (case b18 => k_is)
    (case c18 => k_is)
    (case d18 => k_is)
    (case a19 => k_is)
    (case b19 => k_is)
    (case c19 => k_is)
    (case d19 => k_is)
    (case a20 => k_is)
    (case b20 => k_is)
    (case c20 => k_is)
    (case d20 => k_is)
    (case a21 => k_is)
    (case b21 => k_is)
    (case c21 => k_is)
    (case d21 => k_is)
    (case a22 => k_is)
    (case b22 => k_is)
    (case c22 => k_is)
    (case d22 => k_is)
    (case a23 => k_is)
    (case b23 => k_is)
    (case c23 => k_is)
    (case d23 => k_is)
    (case a24 => k_is)
    (case b24 => k_is)
    (case c24 => k_is)
    (case d24 => k_is)
    (case a25 => k_is)
    (case b25 => k_is)
    (case c25 => k_is)
    (case d25 => k_is)
    (case a26 => k_is)
    (case b26 => k_is)
    (case c26 => k_is)
    (case d26 => k_is)
    (case a27 => k_is)
    (case b27 => k_is)
    (case c27 => k_is)
    (case d27 => k_is)
    (case a28 => k_is)
    (case b28 => k_is)
    (case c28 => k_is)
    (case d28 => k_is)
    (case a29 => k_is)
    (case b29 => k_is)
    (case c29 => k_is)
    (case d29 => k_is)
    (case a30 => k_is)
    (case b30 => k_is)
    (case c30 => k_is)
    (case d30 => k_is)
    (case a31 => k_is)
    (case b31 => k_is)
    (case c31 => k_is)
    (case d31 => k_is)
    (case a32 => k_is)
    (case b32 => k_is)
    (case c32 => k_is)
    (case d32 => k_is)
    (case a33 => k_is)
    (case b33 => k_is)
    (case c33 => k_is)
    (case d33 => k_is)
    (case a34 => k_is)
    (case b34 => k_is)
    (case c34 => k_is)
    (case d34 => k_is)
    (case a35 => k_is)
    (case b35 => k_is)
    (case c35 => k_is)
    (case d35 => k_is)
    (case g_range => k_is)
    (case g_len => k_is)
    (case g_tuple => k_is)
    (case g_isinstance => k_is)
    (case g_int => k_is)
    (case g_bool => k_is)
    (case g_MOST_LETTERS => k_is)
    (case g_abs => k_is)
    (case g_all => k_is)
    (case g_sum => k_is)
    (case g_list => k_is)
    (case g_MOST_TOLD => k_is)
    (case g_any => k_is)
    (case g_max => k_is)
    (case g_dict => k_is)
    (case g_repr => k_is)
    (case g_min => k_is)
