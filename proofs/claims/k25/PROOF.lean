import PyProof.Rows.All
import Wide.All
import OpenK.AllK
import Wide.FinOn
import HandS.ForMost
import HandS.Wide
import HandS.TupAny
import HandS.RaiseMore
import PyProof.ReprRoads
import HandS.Style
import HandS.IsInst
import HandS.Gcd
import KE.KMathGC
import HandS.Conv
import HandS.TupMul
import HandS.RevTup
import PyProof.ListMulRoad
import PyProof.FactsAll.tuple_2
import HandS.Iter
import KE.GoesEnum
import KE.GoesMore
import HandS.Dict
import HandS.SetKeys
import HandS.DictComp
import KE.KDictSum
import HandS.Small
import HandS.NoneIn
import KE.KDictDisplayH
import HandS.Zip
import HandS.WideBits
import HandS.SortInts
import KE.DataCmp
import HandS.Finally
import HandS.TupSets
import HandS.Deep
import KE.DataMinKey
import HandS.SortKw
import KE.KDictPairs
import HandS.TryOnly
import KE.SortData
import PySem.Challenge.RW_walkclubs_k25_walks_with_wanted_powers
set_option Elab.async false
set_option linter.all false
set_option maxRecDepth 100000
set_option maxHeartbeats 1000000
namespace Z
open PySem PySem.Spec PyProof.Rows L2
def kPD : Key → PyData
  | .inl i => .int i
  | .inr x => .str x
mutual
inductive Dq (H : Hp) : V → PyData → Prop
  | non : Dq H .non .none
  | bl (b : Bool) : Dq H (.bl b) (.bool b)
  | int (i : Int) : Dq H (.int i) (.int i)
  | str (x : Str) : Dq H (.str x) (.str x)
  | lst {a : Addr} {xs : List V} {ds : List PyData} : H a = some (.lst xs) → DqAll H xs ds → Dq H (.ref a) (.list ds)
  | tup {a : Addr} {xs : List V} {ds : List PyData} : H a = some (.tup xs) → DqAll H xs ds → Dq H (.ref a) (.tuple ds)
  | dctK {a : Addr} {o : Obj} {kvs : List (Key × V)} {ps : List (PyData × PyData)} : H a = some (.frz o (.dK kvs)) → kvs.map (fun p => kPD p.1) = ps.map (·.1) → DqAll H (kvs.map (·.2)) (ps.map (·.2)) → Dq H (.ref a) (.dict ps)
  | dctT {a : Addr} {o : Obj} {kvs : List (List Key × V)} {ps : List (PyData × PyData)} : H a = some (.frz o (.dT kvs)) → kvs.map (fun p => PyData.tuple (p.1.map kPD)) = ps.map (·.1) → DqAll H (kvs.map (·.2)) (ps.map (·.2)) → Dq H (.ref a) (.dict ((.none, .none) :: ps))
inductive DqAll (H : Hp) : List V → List PyData → Prop
  | nil : DqAll H [] []
  | cons {v : V} {vs : List V} {d : PyData} {ds : List PyData} : Dq H v d → DqAll H vs ds → DqAll H (v :: vs) (d :: ds)
end
mutual
theorem dq_monoH {H H' : Hp} (e : Same H H') : ∀ {v : V} {d : PyData}, Dq H v d → Dq H' v d
  | _, _, .non => .non
  | _, _, .bl _ => .bl _
  | _, _, .int _ => .int _
  | _, _, .str _ => .str _
  | _, _, .lst hs ha => .lst (e _ _ hs) (dqall_monoH e ha)
  | _, _, .tup hs ha => .tup (e _ _ hs) (dqall_monoH e ha)
  | _, _, .dctK hs hk ha => .dctK (e _ _ hs) hk (dqall_monoH e ha)
  | _, _, .dctT hs hk ha => .dctT (e _ _ hs) hk (dqall_monoH e ha)
theorem dqall_monoH {H H' : Hp} (e : Same H H') : ∀ {vs : List V} {ds : List PyData}, DqAll H vs ds → DqAll H' vs ds
  | _, _, .nil => .nil
  | _, _, .cons h1 h2 => .cons (dq_monoH e h1) (dqall_monoH e h2)
end
theorem dq_mono {H H' : Hp} (e : Same H H') (d : PyData) (v : V) (h : Dq H v d) : Dq H' v d := dq_monoH e h
theorem dqall_mono {H H' : Hp} (e : Same H H') (ds : List PyData) (vs : List V) (h : DqAll H vs ds) : DqAll H' vs ds := dqall_monoH e h
mutual
theorem nod_lay : ∀ d : PyData, d.canLay0 = true → d.hasDict = false
  | .none, _ => by simp [PyData.hasDict]
  | .bool _, _ => by simp [PyData.hasDict]
  | .int _, _ => by simp [PyData.hasDict]
  | .str _, _ => by simp [PyData.hasDict]
  | .list ds, c => by
    simp only [PyData.hasDict]
    exact nodall_lay ds (by simpa [PyData.canLay0] using c)
  | .tuple ds, c => by
    simp only [PyData.hasDict]
    exact nodall_lay ds (by simpa [PyData.canLay0] using c)
  | .dict _, c => by simp [PyData.canLay0] at c
theorem nodall_lay : ∀ ds : List PyData, PyData.canLayAll0 ds = true → PyData.hasDictAll ds = false
  | [], _ => by simp [PyData.hasDictAll]
  | d :: ds, c => by
    have c2 : d.canLay0 = true ∧ PyData.canLayAll0 ds = true := by simpa [PyData.canLayAll0] using c
    simp [PyData.hasDictAll, nod_lay d c2.1, nodall_lay ds c2.2]
end
mutual
theorem dq_dp (K : PySem.W.Frag) {H : Hp} : ∀ (d : PyData) (v : V), d.hasDict = false → Dq H v d → Dp K H v d
  | .none, _, _, h => by cases h; exact .non
  | .bool _, _, _, h => by cases h; exact .bl _
  | .int _, _, _, h => by cases h; exact .int _
  | .str _, _, _, h => by cases h; exact .str _
  | .list ds, _, c, h => by
    cases h with
    | lst hs ha => exact .lst (.of hs) (dqall_dp K ds _ (by simpa [PyData.hasDict] using c) ha)
  | .tuple ds, _, c, h => by
    cases h with
    | tup hs ha => exact .tup (.of hs) (dqall_dp K ds _ (by simpa [PyData.hasDict] using c) ha)
  | .dict _, _, c, h => by simp [PyData.hasDict] at c
theorem dqall_dp (K : PySem.W.Frag) {H : Hp} : ∀ (ds : List PyData) (vs : List V), PyData.hasDictAll ds = false → DqAll H vs ds → DpAll K H vs ds
  | [], _, _, h => by cases h; exact .nil
  | d :: ds, _, c, h => by
    have c2 : d.hasDict = false ∧ PyData.hasDictAll ds = false := by simpa [PyData.hasDictAll] using c
    cases h with
    | cons h1 h2 => exact .cons (dq_dp K d _ c2.1 h1) (dqall_dp K ds _ c2.2 h2)
end
theorem same_upd {H : Hp} {p : Addr} {o : HO} (h : H p = none) : Same H (upd H p o) := fun b x e => by
  rw [upd_ne (ne_of_none e h)]
  exact e
theorem dqall_len {H : Hp} : ∀ {ds : List PyData} {vs : List V}, DqAll H vs ds → vs.length = ds.length
  | [], _, h => by cases h; rfl
  | d :: ds, _, h => by
    cases h with
    | cons h1 h2 => rw [List.length_cons, List.length_cons, dqall_len h2]
theorem dqall_get' {H : Hp} : ∀ {ds : List PyData} {vs : List V} {i : Nat} {d : PyData}, DqAll H vs ds → ds[i]? = some d → ∃ v, vs[i]? = some v ∧ Dq H v d
  | [], _, i, v, h, e => by simp at e
  | d :: ds, _, i, v, h, e => by
    cases h with
    | cons h1 h2 =>
      cases i with
      | zero =>
        simp at e
        subst e
        exact ⟨_, rfl, h1⟩
      | succ i => exact dqall_get' (i := i) h2 (by simpa using e)
theorem dqall_app {H : Hp} : ∀ {ds es : List PyData} {vs us : List V}, DqAll H vs ds → DqAll H us es → DqAll H (vs ++ us) (ds ++ es)
  | [], _, _, _, h, g => by cases h; exact g
  | d :: ds, _, _, _, h, g => by
    cases h with
    | cons h1 h2 => exact .cons h1 (dqall_app h2 g)
theorem dqall_take {H : Hp} : ∀ {ds : List PyData} {vs : List V} (n : Nat), DqAll H vs ds → DqAll H (vs.take n) (ds.take n)
  | _, _, 0, _ => .nil
  | [], _, n + 1, h => by cases h; exact .nil
  | d :: ds, _, n + 1, h => by
    cases h with
    | cons h1 h2 => exact .cons h1 (dqall_take n h2)
theorem dqall_drop {H : Hp} : ∀ {ds : List PyData} {vs : List V} (n : Nat), DqAll H vs ds → DqAll H (vs.drop n) (ds.drop n)
  | _, _, 0, h => h
  | [], _, n + 1, h => by cases h; exact .nil
  | d :: ds, _, n + 1, h => by
    cases h with
    | cons h1 h2 => exact dqall_drop n h2
theorem dqall_set {H : Hp} {v : V} {d : PyData} (hd : Dq H v d) : ∀ {ds : List PyData} {vs : List V} (i : Nat), DqAll H vs ds → DqAll H (vs.set i v) (ds.set i d)
  | [], _, _, h => by cases h; exact .nil
  | d :: ds, _, 0, h => by
    cases h with
    | cons h1 h2 => exact .cons hd h2
  | d :: ds, _, i + 1, h => by
    cases h with
    | cons h1 h2 => exact .cons h1 (dqall_set hd i h2)
theorem dqall_ints {H : Hp} : ∀ (ns : List Int), DqAll H (ns.map V.int) (ns.map PyData.int)
  | [] => .nil
  | n :: ns => .cons (.int n) (dqall_ints ns)
theorem dqall_of_ints {H : Hp} : ∀ (ns : List Int) {vs : List V}, DqAll H vs (ns.map PyData.int) → vs = ns.map V.int
  | [], _, h => by cases h; rfl
  | n :: ns, _, h => by
    cases h with
    | cons h1 h2 =>
      cases h1
      rw [dqall_of_ints ns h2, List.map_cons]
theorem dqall_of_bools {H : Hp} : ∀ (ns : List Bool) {vs : List V}, DqAll H vs (ns.map PyData.bool) → vs = ns.map V.bl
  | [], _, h => by cases h; rfl
  | n :: ns, _, h => by
    cases h with
    | cons h1 h2 =>
      cases h1
      rw [dqall_of_bools ns h2, List.map_cons]
/-- an entry: its address, what is frozen, its own piece of the heap -/
abbrev Ent := Addr → Hp → Hp → Prop
abbrev Os := List (Addr × Ent)
abbrev VP := Hp → V → Prop
abbrev Slot := Hp → Option V → Prop
def Cl (φ : VP) (F : Hp) (v : V) : Prop := ∀ F', Same F F' → φ F' v
theorem Cl.mono {φ : VP} {F F' : Hp} {v : V} (h : Cl φ F v) (e : Same F F') : Cl φ F' v := fun G g => h G (e.trans g)
theorem Cl.now {φ : VP} {F : Hp} {v : V} (h : Cl φ F v) : φ F v := h F (Same.refl F)
def dat (d : PyData) : VP := fun F v => Dq F v d
def own (p : Addr) : VP := fun _ v => v = .ref p
theorem cl_dat {d : PyData} {F : Hp} {v : V} (h : Dq F v d) : Cl (dat d) F v := fun _ e => dq_mono e d v h
theorem cl_own {p : Addr} {F : Hp} : Cl (own p) F (.ref p) := fun _ _ => rfl
/-- the heap with one thing alone -/
def one (p : Addr) (o : HO) : Hp := upd (fun _ => none) p o
theorem one_at {p : Addr} {o : HO} : one p o p = some o := upd_same
theorem one_ne {p q : Addr} {o : HO} (h : q ≠ p) : one p o q = none := by unfold one; rw [upd_ne h]
theorem one_of {p q : Addr} {o : HO} (h : one p o q ≠ none) : q = p := Classical.byContradiction fun k => h (one_ne k)
/-- a list of one's own, its items data -/
def ol (ds : List PyData) : Ent := fun p F h => ∃ vs, h = one p (.lst vs) ∧ DqAll F vs ds
def sl (φ : VP) : Slot := fun F o => ∃ v, o = some v ∧ φ F v
def un : Slot := fun _ _ => True
/-- h over H -/
def ov (h H : Hp) : Hp := fun a => match h a with
  | some o => some o
  | none => H a
theorem ov_some {h H : Hp} {a : Addr} {o : HO} (e : h a = some o) : ov h H a = some o := by unfold ov; rw [e]
theorem ov_none {h H : Hp} {a : Addr} (e : h a = none) : ov h H a = H a := by unfold ov; rw [e]
theorem ov_one {p : Addr} {o : HO} {H : Hp} : ov (one p o) H = upd H p o := by
  funext a
  by_cases h : a = p
  · subst h; rw [ov_some one_at, upd_same]
  · rw [ov_none (one_ne h), upd_ne h]
/-- apart -/
def Ap (h k : Hp) : Prop := ∀ a, h a ≠ none → k a = none
theorem Ap.symm {h k : Hp} (x : Ap h k) : Ap k h := fun a e => Classical.byContradiction fun q => e (x a q)
inductive Pcs (F : Hp) : Os → List Hp → Prop
  | nil : Pcs F [] []
  | cons {q : Addr × Ent} {os : Os} {h : Hp} {hs : List Hp} : (∀ F', Same F F' → q.2 q.1 F' h) → Pcs F os hs → Pcs F (q :: os) (h :: hs)
theorem Pcs.mono {F F' : Hp} (e : Same F F') : ∀ {os : Os} {hs : List Hp}, Pcs F os hs → Pcs F' os hs
  | _, _, .nil => .nil
  | _, _, .cons h1 h2 => .cons (fun G g => h1 G (e.trans g)) (h2.mono e)
theorem Pcs.perm {F : Hp} {os os' : Os} (p : os.Perm os') : ∀ {hs : List Hp}, Pcs F os hs → ∃ hs', Pcs F os' hs' ∧ hs.Perm hs' := by
  induction p with
  | nil => intro hs h; exact ⟨hs, h, List.Perm.refl _⟩
  | cons x p ih =>
    intro hs h
    cases h with
    | cons h1 h2 =>
      obtain ⟨hs', a, b⟩ := ih h2
      exact ⟨_, .cons h1 a, b.cons _⟩
  | swap x y l =>
    intro hs h
    cases h with
    | cons h1 h2 =>
      cases h2 with
      | cons h2 h3 => exact ⟨_, .cons h2 (.cons h1 h3), List.Perm.swap _ _ _⟩
  | trans p q ih1 ih2 =>
    intro hs h
    obtain ⟨hs1, a, b⟩ := ih1 h
    obtain ⟨hs2, c, d⟩ := ih2 a
    exact ⟨hs2, c, b.trans d⟩
/-- no tuples -/
def NT (h : Hp) : Prop := ∀ a xs, h a ≠ some (.tup xs)
theorem nt_one {p : Addr} {o : HO} (h : ∀ xs, o ≠ .tup xs) : NT (one p o) := fun a xs e => by
  by_cases q : a = p
  · rw [q, one_at] at e
    exact h xs (Option.some.inj e)
  · rw [one_ne q] at e
    cases e
structure Ow (F : Hp) (os : Os) (H : Hp) : Prop where
  ex : Same F H
  ps : ∃ hs, Pcs F os hs ∧ (∀ h ∈ hs, Same h H ∧ Ap F h ∧ NT h) ∧ hs.Pairwise Ap
section
variable {F F' H H' : Hp} {os os' : Os} {p : Addr} {e e' : Ent} {o : HO}
theorem Ow.perm (h : Ow F os H) (hp : os.Perm os') : Ow F os' H := by
  obtain ⟨hs, a, b, c⟩ := h.ps
  obtain ⟨hs', a', q⟩ := a.perm hp
  exact ⟨h.ex, hs', a', fun k hk => b k (q.mem_iff.mpr hk), q.pairwise c fun x => x.symm⟩
/-- what is new is frozen -/
theorem Ow.frozen (h : Ow F os H) (hp : H p = none) : Ow (upd F p o) os (upd H p o) := by
  have fp : F p = none := h.ex.free hp
  obtain ⟨hs, a, b, c⟩ := h.ps
  refine ⟨fun q x eb => ?_, hs, a.mono (same_upd fp), fun k hk => ?_, c⟩
  · by_cases hb : q = p
    · subst hb
      rw [upd_same] at eb ⊢
      exact eb
    · rw [upd_ne hb] at eb ⊢
      exact h.ex q x eb
  · obtain ⟨s, x, nt⟩ := b k hk
    have kp : k p = none := s.free hp
    refine ⟨s.trans (same_upd hp), fun q eq => ?_, nt⟩
    by_cases hb : q = p
    · rw [hb]; exact kp
    · rw [upd_ne hb] at eq
      exact x q eq
/-- a piece of new things -/
theorem Ow.newP {k : Hp} (h : Ow F os H) (hk : ∀ a, k a ≠ none → H a = none) (nt : NT k) (he : ∀ F', Same F F' → e p F' k) : Ow F ((p, e) :: os) (ov k H) := by
  obtain ⟨hs, a, b, c⟩ := h.ps
  have s : Same H (ov k H) := fun q x eq => by
    cases z : k q with
    | none => rw [ov_none z]; exact eq
    | some u => rw [hk q (by rw [z]; simp)] at eq; cases eq
  refine ⟨h.ex.trans s, k :: hs, .cons he a, fun g hg => ?_, List.pairwise_cons.mpr ⟨fun g hg => ?_, c⟩⟩
  · rcases List.mem_cons.mp hg with rfl | hg
    · exact ⟨fun q x eq => ov_some eq, Ap.symm fun q eq => h.ex.free (hk q eq), nt⟩
    · exact ⟨(b g hg).1.trans s, (b g hg).2⟩
  · exact fun q eq => (b g hg).1.free (hk q eq)
theorem Ow.new (h : Ow F os H) (hp : H p = none) (he : ∀ F', Same F F' → e p F' (one p o)) (nt : ∀ xs, o ≠ .tup xs := by intro _ z; cases z) : Ow F ((p, e) :: os) (upd H p o) := by
  rw [← ov_one]
  exact h.newP (fun a ha => by rw [one_of ha]; exact hp) (nt_one nt) he
/-- the first piece, and what may stand in its place -/
theorem Ow.wr (h : Ow F ((p, e) :: os) H) : ∃ k, (∀ F', Same F F' → e p F' k) ∧ Same k H ∧ Ap F k ∧ NT k ∧
    ∀ q e' k', (∀ a, k' a ≠ none → k a ≠ none ∨ H a = none) → NT k' → (∀ F', Same F F' → e' q F' k') → Ow F ((q, e') :: os) (ov k' H) := by
  obtain ⟨hs, a, b, c⟩ := h.ps
  cases a with
  | @cons _ _ k hs h1 h2 =>
    obtain ⟨c1, c2⟩ := List.pairwise_cons.mp c
    obtain ⟨s, x, nt⟩ := b k List.mem_cons_self
    refine ⟨k, h1, s, x, nt, fun q e' k' hk nt' he => ?_⟩
    have out : ∀ g : Hp, Same g H → Ap k g → Same g (ov k' H) ∧ Ap k' g := fun g sg ag => by
      have z : ∀ a, k' a ≠ none → g a = none := fun a ha => by
        rcases hk a ha with r | r
        · exact ag a r
        · exact sg.free r
      refine ⟨fun a u eu => ?_, z⟩
      cases y : k' a with
      | none => rw [ov_none y]; exact sg a u eu
      | some w =>
        rw [z a (by rw [y]; simp)] at eu
        cases eu
    obtain ⟨f1, f2⟩ := out F h.ex x.symm
    refine ⟨f1, k' :: hs, .cons he h2, fun g hg => ?_, List.pairwise_cons.mpr ⟨fun g hg => ?_, c2⟩⟩
    · rcases List.mem_cons.mp hg with rfl | hg
      · exact ⟨fun a u eu => ov_some eu, f2.symm, nt'⟩
      · exact ⟨(out g (b g (List.mem_cons_of_mem _ hg)).1 (c1 g hg)).1, (b g (List.mem_cons_of_mem _ hg)).2⟩
    · exact (out g (b g (List.mem_cons_of_mem _ hg)).1 (c1 g hg)).2
theorem Ow.drop (h : Ow F ((p, e) :: os) H) : Ow F os H := by
  obtain ⟨hs, a, b, c⟩ := h.ps
  cases a with
  | cons h1 h2 => exact ⟨h.ex, _, h2, fun g hg => b g (List.mem_cons_of_mem _ hg), (List.pairwise_cons.mp c).2⟩
theorem Ow.freeze (h : Ow F ((p, e) :: os) H) : ∃ k, (∀ F', Same F F' → e p F' k) ∧ Same k H ∧ Ap F k ∧ Same F (ov k F) ∧ Ow (ov k F) os H := by
  obtain ⟨hs, a, b, c⟩ := h.ps
  cases a with
  | @cons _ _ k hs h1 h2 =>
    obtain ⟨c1, c2⟩ := List.pairwise_cons.mp c
    obtain ⟨s, x, _⟩ := b k List.mem_cons_self
    have sf : Same F (ov k F) := fun a u eu => by
      rw [ov_none (x a (by rw [eu]; simp))]
      exact eu
    refine ⟨k, h1, s, x, sf, fun a u eu => ?_, hs, h2.mono sf, fun g hg => ⟨(b g (List.mem_cons_of_mem _ hg)).1, fun a ha => ?_, (b g (List.mem_cons_of_mem _ hg)).2.2⟩, c2⟩
    · cases y : k a with
      | none => rw [ov_none y] at eu; exact h.ex a u eu
      | some w => rw [ov_some y] at eu; cases eu; exact s a _ y
    · cases y : k a with
      | none => rw [ov_none y] at ha; exact (b g (List.mem_cons_of_mem _ hg)).2.1 a ha
      | some w => exact c1 g hg a (by rw [y]; simp)
theorem Ow.grow (h : Ow F os H) (k : Same H H') : Ow F os H' := by
  obtain ⟨hs, a, b, c⟩ := h.ps
  exact ⟨h.ex.trans k, hs, a, fun g hg => ⟨(b g hg).1.trans k, (b g hg).2⟩, c⟩
/-- a tuple that stands is frozen -/
theorem Ow.tup {xs : List V} (h : Ow F os H) (hp : H p = some (.tup xs)) : Same F (upd F p (.tup xs)) ∧ Ow (upd F p (.tup xs)) os H := by
  obtain ⟨hs, a, b, c⟩ := h.ps
  have sf : Same F (upd F p (.tup xs)) := fun q u eu => by
    by_cases z : q = p
    · subst z
      rw [upd_same, ← h.ex q u eu, hp]
    · rw [upd_ne z]
      exact eu
  refine ⟨sf, fun q u eu => ?_, hs, a.mono sf, fun g hg => ⟨(b g hg).1, fun q eq => ?_, (b g hg).2.2⟩, c⟩
  · by_cases z : q = p
    · subst z
      rw [upd_same] at eu
      rw [hp, eu]
    · rw [upd_ne z] at eu
      exact h.ex q u eu
  · by_cases z : q = p
    · subst z
      cases y : g q with
      | none => rfl
      | some w =>
        have e1 := (b g hg).1 q w y
        rw [hp] at e1
        cases e1
        exact ((b g hg).2.2 q xs y).elim
    · rw [upd_ne z] at eq
      exact (b g hg).2.1 q eq
/-- an entry known by less -/
theorem Ow.weak (h : Ow F ((p, e) :: os) H) (k : ∀ F' g, e p F' g → e' p F' g) : Ow F ((p, e') :: os) H := by
  obtain ⟨hs, a, b, c⟩ := h.ps
  cases a with
  | cons h1 h2 => exact ⟨h.ex, _, .cons (fun G g => k G _ (h1 G g)) h2, b, c⟩
/-- entries of one thing -/
def Uni (e : Ent) (r : Hp → HO → Prop) : Prop := ∀ p F h, e p F h → ∃ o, h = one p o ∧ r F o
theorem Ow.atU {r : Hp → HO → Prop} (u : Uni e r) (h : Ow F ((p, e) :: os) H) : F p = none ∧ ∃ o, H p = some o ∧ e p F (one p o) ∧ r F o := by
  obtain ⟨k, h1, s, x, _, _⟩ := h.wr
  obtain ⟨o, rfl, hr⟩ := u p F k (h1 F (Same.refl F))
  exact ⟨Classical.byContradiction fun q => (by have := x p q; rw [one_at] at this; cases this), o, s p o one_at, h1 F (Same.refl F), hr⟩
theorem Ow.putU {r : Hp → HO → Prop} (u : Uni e r) (h : Ow F ((p, e) :: os) H) (he : ∀ F', Same F F' → e' p F' (one p o)) (nt : ∀ xs, o ≠ .tup xs := by intro _ z; cases z) : Ow F ((p, e') :: os) (upd H p o) := by
  obtain ⟨k, h1, s, x, _, w⟩ := h.wr
  obtain ⟨o', rfl, hr⟩ := u p F k (h1 F (Same.refl F))
  rw [← ov_one]
  exact w p e' _ (fun a ha => .inl (by rw [one_of ha, one_at]; simp)) (nt_one nt) he
theorem Ow.freezeU {r : Hp → HO → Prop} (u : Uni e r) (h : Ow F ((p, e) :: os) H) : ∃ o, H p = some o ∧ r F o ∧ Same F (upd F p o) ∧ Ow (upd F p o) os H := by
  obtain ⟨k, h1, s, x, sf, w⟩ := h.freeze
  obtain ⟨o, rfl, hr⟩ := u p F k (h1 F (Same.refl F))
  rw [ov_one] at sf w
  exact ⟨o, s p o one_at, hr, sf, w⟩
theorem uni_ol {ds : List PyData} : Uni (ol ds) (fun F o => ∃ vs, o = .lst vs ∧ DqAll F vs ds) := fun p F h ⟨vs, e, d⟩ => ⟨_, e, vs, rfl, d⟩
theorem Ow.atL {ds : List PyData} (h : Ow F ((p, ol ds) :: os) H) : F p = none ∧ ∃ vs, H p = some (.lst vs) ∧ DqAll F vs ds := by
  obtain ⟨a, o, b, _, vs, rfl, d⟩ := h.atU uni_ol
  exact ⟨a, vs, b, d⟩
theorem Ow.putL {ds ds' : List PyData} {vs : List V} (h : Ow F ((p, ol ds) :: os) H) (hd : DqAll F vs ds') : Ow F ((p, ol ds') :: os) (upd H p (.lst vs)) :=
  h.putU uni_ol fun G g => ⟨vs, rfl, dqall_mono g _ _ hd⟩
end
theorem perm_at {α : Type} : ∀ {l : List α} {k : Nat} {q : α}, l[k]? = some q → l.Perm (q :: l.eraseIdx k)
  | [], k, q, h => by simp at h
  | x :: l, 0, q, h => by
    simp at h
    subst h
    exact List.Perm.refl _
  | x :: l, k + 1, q, h => by
    have h1 : l[k]? = some q := by simpa using h
    exact ((perm_at h1).cons x).trans (List.Perm.swap q x _)
theorem perm_set {α : Type} : ∀ {l : List α} {k : Nat} {q q' : α}, l[k]? = some q → (q' :: l.eraseIdx k).Perm (l.set k q')
  | [], k, q, q', h => by simp at h
  | x :: l, 0, q, q', h => List.Perm.refl _
  | x :: l, k + 1, q, q', h => by
    have h1 : l[k]? = some q := by simpa using h
    exact (List.Perm.swap x q' _).trans ((perm_set (q' := q') h1).cons x)
structure Sl (F : Hp) (es : List Slot) (σ : L2.St) : Prop where
  len : σ.length = es.length
  get : ∀ (i : Nat) (s : Slot), es[i]? = some s → ∃ v : Option V, σ[i]? = some v ∧ ∀ F', Same F F' → s F' v
section
variable {F F' H : Hp} {es : List Slot} {σ : L2.St} {i : Nat} {φ : VP} {v : V}
theorem Sl.mono (h : Sl F es σ) (e : Same F F') : Sl F' es σ := ⟨h.len, fun i s q => let ⟨v, a, b⟩ := h.get i s q; ⟨v, a, fun G g => b G (e.trans g)⟩⟩
theorem Sl.val (h : Sl F es σ) (q : es[i]? = some (sl φ)) : ∃ v, σ[i]? = some (some v) ∧ Cl φ F v := by
  obtain ⟨o, a, b⟩ := h.get i _ q
  obtain ⟨v, rfl, _⟩ := b F (Same.refl F)
  refine ⟨v, a, fun G g => ?_⟩
  obtain ⟨u, e, z⟩ := b G g
  cases e
  exact z
theorem Sl.set (h : Sl F es σ) {s : Slot} {o : Option V} (k : ∀ F', Same F F' → s F' o) : Sl F (es.set i s) (σ.set i o) := by
  refine ⟨by rw [List.length_set, List.length_set, h.len], fun j t q => ?_⟩
  by_cases hj : i = j
  · subst hj
    have hi : i < es.length := by
      have := (List.getElem?_eq_some_iff.mp q).1
      rw [List.length_set] at this
      exact this
    rw [List.getElem?_set_self hi] at q
    cases q
    exact ⟨o, List.getElem?_set_self (by rw [h.len]; exact hi), k⟩
  · rw [List.getElem?_set_ne hj] at q ⊢
    exact h.get j t q
theorem Sl.put (h : Sl F es σ) (k : Cl φ F v) : Sl F (es.set i (sl φ)) (σ.set i (some v)) := h.set fun G g => ⟨v, rfl, k G g⟩
/-- slots may be forgotten: each new one is the old one or un -/
def Wk : List Slot → List Slot → Prop
  | [], [] => True
  | s :: ss, t :: ts => (t = s ∨ t = un) ∧ Wk ss ts
  | _, _ => False
theorem wk_get : ∀ {es es' : List Slot} {i : Nat} {t : Slot}, Wk es es' → es'[i]? = some t → ∃ s, es[i]? = some s ∧ (t = s ∨ t = un)
  | [], [], i, t, _, h => by simp at h
  | [], _ :: _, _, _, h, _ => h.elim
  | _ :: _, [], _, _, h, _ => h.elim
  | s :: ss, t :: ts, 0, u, h, e => by
    simp at e
    subst e
    exact ⟨s, rfl, h.1⟩
  | s :: ss, t :: ts, i + 1, u, h, e => wk_get (i := i) h.2 (by simpa using e)
theorem wk_len : ∀ {es es' : List Slot}, Wk es es' → es.length = es'.length
  | [], [], _ => rfl
  | [], _ :: _, h => h.elim
  | _ :: _, [], h => h.elim
  | s :: ss, t :: ts, h => by rw [List.length_cons, List.length_cons, wk_len h.2]
theorem Sl.weak {es' : List Slot} (h : Sl F es σ) (w : Wk es es') : Sl F es' σ := by
  refine ⟨h.len.trans (wk_len w), fun i t q => ?_⟩
  obtain ⟨s, a, b⟩ := wk_get w q
  obtain ⟨v, c, d⟩ := h.get i s a
  refine ⟨v, c, fun G g => ?_⟩
  rcases b with rfl | rfl
  · exact d G g
  · trivial
end
section
variable (X : Cx)
def WE (e : Expr) (σ : L2.St) (H : Hp) (Q : VK) : Prop := ∀ pins s, Inv X pins σ H s → wpAny (model X.prog X.w) X.A (eval e X.env) (EP X pins σ Q) X.xe s
def WT (e : Expr) (σ : L2.St) (H : Hp) (Q : Bool → Hp → Prop) : Prop := ∀ pins s, Inv X pins σ H s → wpAny (model X.prog X.w) X.A (isTrue e X.env (eval e X.env)) (TP X pins σ Q) X.xe s
def WW (e : Expr) (σ : L2.St) (H : Hp) (Q : Bool → Hp → Prop) : Prop := ∀ (whole : Sem Value) pins s, Inv X pins σ H s → wpAny (model X.prog X.w) X.A (isTrue e X.env whole) (TP X pins σ Q) X.xe s
def WA (es : List Expr) (σ : L2.St) (H : Hp) (Q : List V → Hp → Prop) : Prop := ∀ pos pins s, Inv X pins σ H s → wpAny (model X.prog X.w) X.A (spliced (backTo pos (starEach es X.env))) (AP X pins σ Q) X.xe s
def WS (st : Stmt) (D : Ends) (σ : L2.St) (H : Hp) : Prop := ∀ pins s, Inv X pins σ H s → wpAny (model X.prog X.w) X.A (exec st X.env) (SP X pins D) X.xe s
def WPs (sts : List Stmt) (D : Ends) (σ : L2.St) (H : Hp) : Prop := ∀ pins s, Inv X pins σ H s → wpAny (model X.prog X.w) X.A (execs sts X.env) (SP X pins D) X.xe s
end
section
variable {X : Cx} {e : Expr} {es : List Expr} {st : Stmt} {sts : List Stmt} {σ : L2.St} {H : Hp} {Q : VK} {te : TE} {tt : TT} {ta : TA} {ts : TS}
theorem pe_u : PE X e (WE X e) := ⟨fun pins s _ _ _ I h => h pins s I⟩
theorem pt_u : PT X e (WT X e) := ⟨fun pins s _ _ _ I h => h pins s I⟩
theorem pw_u : PW X e (WW X e) := ⟨fun w pins s _ _ _ I h => h w pins s I⟩
theorem pa_u : PA X es (WA X es) := ⟨fun pos pins s _ _ _ I h => h pos pins s I⟩
theorem ps_u : PS X st (WS X st) := ⟨fun pins s _ _ _ I h => h pins s I⟩
theorem pss_u : PSs X sts (WPs X sts) := ⟨fun pins s _ _ _ I h => h pins s I⟩
theorem we_of (h : PE X e te) (q : te σ H Q) : WE X e σ H Q := fun pins s I => h.run pins s σ H Q I q
theorem wt_of {Q : Bool → Hp → Prop} (h : PT X e tt) (q : tt σ H Q) : WT X e σ H Q := fun pins s I => h.run pins s σ H Q I q
theorem ww_of {Q : Bool → Hp → Prop} (h : PW X e tt) (q : tt σ H Q) : WW X e σ H Q := fun w pins s I => h.run w pins s σ H Q I q
theorem wa_of {Q : List V → Hp → Prop} (h : PA X es ta) (q : ta σ H Q) : WA X es σ H Q := fun pos pins s I => h.run pos pins s σ H Q I q
theorem ws_of {D : Ends} (h : PS X st ts) (q : ts D σ H) : WS X st D σ H := fun pins s I => h.run pins s σ H D I q
theorem wps_of {D : Ends} (h : PSs X sts ts) (q : ts D σ H) : WPs X sts D σ H := fun pins s I => h.run pins s σ H D I q
theorem wps_cons {D : Ends} (h : WS X st { D with nx := WPs X sts D } σ H) : WPs X (st :: sts) D σ H := wps_of (pss_cons ps_u pss_u) h
theorem wps_nil {D : Ends} (h : D.nx σ H) : WPs X [] D σ H := wps_of pss_nil h
end
def ClA : List VP → Hp → List V → Prop
  | [], _, vs => vs = []
  | φ :: φs, F, vs => ∃ v r, vs = v :: r ∧ Cl φ F v ∧ ClA φs F r
theorem cla_len {F : Hp} : ∀ {φs : List VP} {vs : List V}, ClA φs F vs → vs.length = φs.length
  | [], _, h => by rw [h]; rfl
  | φ :: φs, _, ⟨v, r, e1, h1, h2⟩ => by rw [e1, List.length_cons, List.length_cons, cla_len h2]
section
variable (X : Cx) (es : List Slot) (os : Os)
/-- e gives a value of which φ holds; what is owned goes from os to os' -/
def EX (e : Expr) (φ : VP) (os' : Os) : Prop := ∀ F σ H Q, Ow F os H → Sl F es σ → (∀ F' H' v, Same F F' → Ow F' os' H' → Cl φ F' v → Q v H') → WE X e σ H Q
/-- e gives a new list, owned from now on -/
def EN (e : Expr) (n : Ent) (os' : Os) : Prop := ∀ F σ H Q, Ow F os H → Sl F es σ → (∀ F' H' p, Same F F' → Ow F' ((p, n) :: os') H' → Q (.ref p) H') → WE X e σ H Q
def TX (e : Expr) (b : Bool) (os' : Os) : Prop := ∀ F σ H Q, Ow F os H → Sl F es σ → (∀ F' H', Same F F' → Ow F' os' H' → Q b H') → WT X e σ H Q
def WX (e : Expr) (b : Bool) (os' : Os) : Prop := ∀ F σ H Q, Ow F os H → Sl F es σ → (∀ F' H', Same F F' → Ow F' os' H' → Q b H') → WW X e σ H Q
def AX (as : List Expr) (φs : List VP) (os' : Os) : Prop := ∀ F σ H Q, Ow F os H → Sl F es σ → (∀ F' H' vs, Same F F' → Ow F' os' H' → ClA φs F' vs → Q vs H') → WA X as σ H Q
def SX (F0 : Hp) (sts : List Stmt) (D : Ends) : Prop := ∀ F σ H, Same F0 F → Ow F os H → Sl F es σ → WPs X sts D σ H
end
end Z
namespace Z
open PySem PySem.Spec PyProof.Rows L2
section
variable {X : Cx} {es : List Slot} {os os1 os2 os3 : Os} {a b c : Expr} {pos : Pos}
theorem EX.is {φ ψ : VP} {e : Expr} (h : EX X es os e φ os1) (k : φ = ψ) : EX X es os e ψ os1 := k ▸ h
theorem EX.perm {φ : VP} {e : Expr} (h : EX X es os e φ os1) (k : os1.Perm os2) : EX X es os e φ os2 := fun F σ H Q ow sl q =>
  h F σ H Q ow sl fun F' H' v e o c => q F' H' v e (o.perm k) c
theorem EX.pre {φ : VP} {e : Expr} (h : EX X es os e φ os1) (k : os2.Perm os) : EX X es os2 e φ os1 := fun F σ H Q ow sl q => h F σ H Q (ow.perm k) sl q
/-- a new list, given away: it is data from now on -/
theorem EN.ex {e : Expr} {ds : List PyData} (h : EN X es os e (ol ds) os1) : EX X es os e (dat (.list ds)) os1 := fun F σ H Q ow sl q =>
  h F σ H Q ow sl fun F' H' p e o => by
    obtain ⟨u, hu, ⟨vs, rfl, hv⟩, s, o2⟩ := o.freezeU uni_ol
    exact q _ H' (.ref p) (e.trans s) o2 (cl_dat (.lst upd_same (dqall_mono s _ _ hv)))
theorem ex_name {i : Nat} {x : Str} {φ : VP} (hN : X.N[i]? = some x) (hv : Vis X.env.scope x) (hd : (x == ("__debug__" : Str)) = false) (hcd : (x == ("__classdict__" : Str)) = false) (h : es[i]? = some (sl φ)) : EX X es os (.Name x pos) φ os := fun F σ H Q ow sl q => by
  obtain ⟨v, e, k⟩ := sl.val h
  exact we_of (pe_var hN hv hd hcd) ⟨v, e, q F H v (Same.refl F) ow k⟩
theorem ex_int {i : Int} {j} : EX X es os (.Constant (.int i) j pos) (dat (.int i)) os := fun F σ H Q ow sl q => we_of pe_int (q F H _ (Same.refl F) ow (cl_dat (.int i)))
theorem ex_bool {i : Bool} {j} : EX X es os (.Constant (.bool i) j pos) (dat (.bool i)) os := fun F σ H Q ow sl q => we_of pe_bl (q F H _ (Same.refl F) ow (cl_dat (.bl i)))
theorem ex_none {j} : EX X es os (.Constant .none j pos) (dat .none) os := fun F σ H Q ow sl q => we_of pe_non (q F H _ (Same.refl F) ow (cl_dat .non))
/-- a module's constant that holds an int -/
theorem ex_gint {x : Str} {i : Int} {t : Tok} (hg : Gl X x) (hm : X.mg x = some (.int i t)) (hd : (x == ("__debug__" : Str)) = false) : EX X es os (.Name x pos) (dat (.int i)) os := fun F σ H Q ow sl q =>
  we_of (pe_glob (v := .int i) hg hm ⟨t, rfl⟩ hd) (q F H _ (Same.refl F) ow (cl_dat (.int i)))
theorem clv_int {F : Hp} {v : V} {i : Int} (h : Cl (dat (.int i)) F v) : v = .int i := by
  have := h.now
  cases this
  rfl
theorem clv_bool {F : Hp} {v : V} {i : Bool} (h : Cl (dat (.bool i)) F v) : v = .bl i := by
  have := h.now
  cases this
  rfl
/-- by values: r gives a datum where the operands are φ and ψ -/
def R2X (X : Cx) (r : R2) (φ ψ : VP) (os : Os) (d : VP) : Prop := ∀ F H x y Q, Ow F os H → Cl φ F x → Cl ψ F y → (∀ F' H' v, Same F F' → Ow F' os H' → Cl d F' v → Q v H') → r x y H Q
theorem ex_bin {op : Operator} {r : R2} {φ ψ d : VP} (ho : OpR X (binaryOp op) r) (hr : R2X X r φ ψ os2 d) (ha : EX X es os a φ os1) (hb : EX X es os1 b ψ os2) : EX X es os (.BinOp a op b pos) d os2 := fun F σ H Q ow sl q =>
  we_of (pe_op ho pe_u pe_u) (ha F σ H _ ow sl fun F1 H1 x e1 o1 c1 => hb F1 σ H1 _ o1 (sl.mono e1) fun F2 H2 y e2 o2 c2 =>
    hr F2 H2 x y Q o2 (c1.mono e2) c2 fun F3 H3 v e3 o3 c3 => q F3 H3 v ((e1.trans e2).trans e3) o3 c3)
theorem r2_I {C : Int → Int → Prop} {g : Int → Int → Int} {i j : Int} (h : C i j) : R2X X (rI C fun i j => .int (g i j)) (dat (.int i)) (dat (.int j)) os (dat (.int (g i j))) := fun F H x y Q ow cx cy q =>
  ⟨i, j, clv_int cx, clv_int cy, h, q F H _ (Same.refl F) ow (cl_dat (.int _))⟩
theorem r2_I0 {g : Int → Int → Int} {i j : Int} : R2X X (rI0 fun i j => .int (g i j)) (dat (.int i)) (dat (.int j)) os (dat (.int (g i j))) := fun F H x y Q ow cx cy q =>
  ⟨i, j, clv_int cx, clv_int cy, q F H _ (Same.refl F) ow (cl_dat (.int _))⟩
theorem r2_B0 {g : Int → Int → Bool} {i j : Int} : R2X X (rI0 fun i j => .bl (g i j)) (dat (.int i)) (dat (.int j)) os (dat (.bool (g i j))) := fun F H x y Q ow cx cy q =>
  ⟨i, j, clv_int cx, clv_int cy, q F H _ (Same.refl F) ow (cl_dat (.bl _))⟩
theorem ex_add {i j : Int} (ha : EX X es os a (dat (.int i)) os1) (hb : EX X es os1 b (dat (.int j)) os2) : EX X es os (.BinOp a .Add b pos) (dat (.int (i + j))) os2 := ex_bin op_add r2_I0 ha hb
theorem ex_sub {i j : Int} (ha : EX X es os a (dat (.int i)) os1) (hb : EX X es os1 b (dat (.int j)) os2) : EX X es os (.BinOp a .Sub b pos) (dat (.int (i - j))) os2 := ex_bin op_sub r2_I0 ha hb
/-- a product: told by mulO, which is none where both factors are very great -/
def mulO (i j : Int) : Option Int := if i.natAbs.log2 + j.natAbs.log2 < 1000000 then some (i * j) else none
theorem ex_mul {i j m : Int} (hm : mulO i j = some m) (ha : EX X es os a (dat (.int i)) os1) (hb : EX X es os1 b (dat (.int j)) os2) : EX X es os (.BinOp a .Mult b pos) (dat (.int m)) os2 := by
  unfold mulO at hm
  split at hm
  · rename_i h
    cases hm
    exact ex_bin op_mulW (r2_I h) ha hb
  · cases hm
/-- a product with a written factor -/
theorem ex_mulL {i j : Int} (h : -(2 ^ 64) < i ∧ i < 2 ^ 64) (ha : EX X es os a (dat (.int i)) os1) (hb : EX X es os1 b (dat (.int j)) os2) : EX X es os (.BinOp a .Mult b pos) (dat (.int (i * j))) os2 := ex_bin op_mul (r2_I (.inl h)) ha hb
theorem ex_mulR {i j : Int} (h : -(2 ^ 64) < j ∧ j < 2 ^ 64) (ha : EX X es os a (dat (.int i)) os1) (hb : EX X es os1 b (dat (.int j)) os2) : EX X es os (.BinOp a .Mult b pos) (dat (.int (i * j))) os2 := ex_bin op_mul (r2_I (.inr h)) ha hb
/-- i // j, i % j: for a positive j below 2 ^ 9000 -/
def fdivO (i j : Int) : Option Int := if 0 < j ∧ j.natAbs.log2 < 9000 then some (i / j) else none
def modO (i j : Int) : Option Int := if 0 < j then some (i % j) else none
theorem ex_fdiv {i j m : Int} (hm : fdivO i j = some m) (ha : EX X es os a (dat (.int i)) os1) (hb : EX X es os1 b (dat (.int j)) os2) : EX X es os (.BinOp a .FloorDiv b pos) (dat (.int m)) os2 := by
  unfold fdivO at hm
  split at hm
  · rename_i h
    cases hm
    exact ex_bin op_fdivW (r2_I h) ha hb
  · cases hm
theorem ex_mod {i j m : Int} (hm : modO i j = some m) (ha : EX X es os a (dat (.int i)) os1) (hb : EX X es os1 b (dat (.int j)) os2) : EX X es os (.BinOp a .Mod b pos) (dat (.int m)) os2 := by
  unfold modO at hm
  split at hm
  · rename_i h
    cases hm
    exact ex_bin op_mod (r2_I (C := fun _ j => 0 < j) h) ha hb
  · cases hm
/-- i ** j -/
def powO (i j : Int) : Option Int := if 0 ≤ j ∧ (Builtin.Int.intBits i : Int) * j ≤ 2 ^ 27 then some (i ^ j.toNat) else none
theorem op_powW : OpR X (binaryOp .Pow) (rI (fun i j => 0 ≤ j ∧ (Builtin.Int.intBits i : Int) * j ≤ 2 ^ 27) fun i j => .int (i ^ j.toNat)) := opI fun _ _ _ _ _ _ _ hc q => pow_int hc.1 hc.2 q
theorem ex_pow {i j m : Int} (hm : powO i j = some m) (ha : EX X es os a (dat (.int i)) os1) (hb : EX X es os1 b (dat (.int j)) os2) : EX X es os (.BinOp a .Pow b pos) (dat (.int m)) os2 := by
  unfold powO at hm
  split at hm
  · rename_i h
    cases hm
    exact ex_bin op_powW (r2_I h) ha hb
  · cases hm
theorem ex_neg {i : Int} (ha : EX X es os a (dat (.int i)) os1) : EX X es os (.UnaryOp .USub a pos) (dat (.int (-i))) os1 := fun F σ H Q ow sl q =>
  we_of (pe_un un_neg pe_u) (ha F σ H _ ow sl fun F1 H1 x e1 o1 c1 => ⟨i, clv_int c1, q F1 H1 _ e1 o1 (cl_dat (.int _))⟩)
theorem ex_cmp {op : CmpOp} {r : R2} {φ ψ d : VP} (ho : OpR X (compareOp op) r) (hr : R2X X r φ ψ os2 d) (hm : behindInMarks op b = false) (ha : EX X es os a φ os1) (hb : EX X es os1 b ψ os2) : EX X es os (.Compare a [op] [b] pos) d os2 := fun F σ H Q ow sl q =>
  we_of (pe_cmpR ho pe_u pe_u hm) (ha F σ H _ ow sl fun F1 H1 x e1 o1 c1 => hb F1 σ H1 _ o1 (sl.mono e1) fun F2 H2 y e2 o2 c2 =>
    hr F2 H2 x y Q o2 (c1.mono e2) c2 fun F3 H3 v e3 o3 c3 => q F3 H3 v ((e1.trans e2).trans e3) o3 c3)
theorem tx_cmp {op : CmpOp} {r : R2} {φ ψ : VP} {k : Bool} (ho : OpR X (compareOp op) r) (hr : R2X X r φ ψ os2 (dat (.bool k))) (hm : behindInMarks op b = false) (ha : EX X es os a φ os1) (hb : EX X es os1 b ψ os2) : TX X es os (.Compare a [op] [b] pos) k os2 := fun F σ H Q ow sl q =>
  wt_of (pt_cmpR ho pe_u pe_u hm) (ha F σ H _ ow sl fun F1 H1 x e1 o1 c1 => hb F1 σ H1 _ o1 (sl.mono e1) fun F2 H2 y e2 o2 c2 =>
    hr F2 H2 x y _ o2 (c1.mono e2) c2 fun F3 H3 v e3 o3 c3 => ⟨k, clv_bool c3, q F3 H3 ((e1.trans e2).trans e3) o3⟩)
theorem r2_lt {i j : Int} : R2X X (rI0 fun i j => .bl (decide (i < j))) (dat (.int i)) (dat (.int j)) os (dat (.bool (decide (i < j)))) := r2_B0
theorem r2_le {i j : Int} : R2X X (rI0 fun i j => .bl (decide (i ≤ j))) (dat (.int i)) (dat (.int j)) os (dat (.bool (decide (i ≤ j)))) := r2_B0
theorem r2_gt {i j : Int} : R2X X (rI0 fun i j => .bl (decide (j < i))) (dat (.int i)) (dat (.int j)) os (dat (.bool (decide (j < i)))) := r2_B0
theorem r2_ge {i j : Int} : R2X X (rI0 fun i j => .bl (decide (j ≤ i))) (dat (.int i)) (dat (.int j)) os (dat (.bool (decide (j ≤ i)))) := r2_B0
theorem shaped_lay {d : PyData} (h : SeqAt.shaped d = true) : d.hasDict = false := by
  unfold SeqAt.shaped at h
  rw [Bool.and_eq_true] at h
  exact nod_lay d h.1
theorem r2_eqI {i j : Int} : R2X X rEq (dat (.int i)) (dat (.int j)) os (dat (.bool (decide (i = j)))) := fun F H x y Q ow cx cy q => by
  rw [clv_int cx, clv_int cy]
  refine ⟨rfl, ?_⟩
  rw [dec_int, Bool.beq_eq_decide_eq]
  exact q F H _ (Same.refl F) ow (cl_dat (.bl _))
theorem r2_neI {i j : Int} : R2X X rNe (dat (.int i)) (dat (.int j)) os (dat (.bool (!decide (i = j)))) := fun F H x y Q ow cx cy q => by
  rw [clv_int cx, clv_int cy]
  refine ⟨rfl, ?_⟩
  rw [dec_int, Bool.beq_eq_decide_eq]
  exact q F H _ (Same.refl F) ow (cl_dat (.bl _))
/-- a < b < c -/
theorem ex_chain {op op' : CmpOp} {r r' : R2} {φ ψ χ : VP} {k k' : Bool} (ho : OpR X (compareOp op) r) (ho' : OpR X (compareOp op') r') (hr : R2X X r φ ψ os2 (dat (.bool k))) (hr' : R2X X r' ψ χ os3 (dat (.bool k'))) (h23 : k = false → os2 = os3)
    (ha : EX X es os a φ os1) (hb : EX X es os1 b ψ os2) (hc : k = true → EX X es os2 c χ os3) (hlm : lastMarks [op, op'] [b, c] = false := by rfl) : EX X es os (.Compare a [op, op'] [b, c] pos) (dat (.bool (k && k'))) os3 := fun F σ H Q ow sl q =>
  we_of (pe_chain ho ho' pe_u pe_u pe_u hlm) (ha F σ H _ ow sl fun F1 H1 x e1 o1 c1 => hb F1 σ H1 _ o1 (sl.mono e1) fun F2 H2 y e2 o2 c2 =>
    hr F2 H2 x y _ o2 (c1.mono e2) c2 fun F3 H3 v e3 o3 c3 => ⟨k, clv_bool c3, by
      have e := (e1.trans e2).trans e3
      cases k with
      | true =>
        rw [if_pos rfl]
        refine hc rfl F3 σ H3 _ o3 (sl.mono e) fun F4 H4 z e4 o4 c4 => ?_
        exact hr' F4 H4 y z Q o4 ((c2.mono e3).mono e4) c4 fun F5 H5 v e5 o5 c5 => q F5 H5 v ((e.trans e4).trans e5) o5 (by simpa using c5)
      | false =>
        rw [if_neg Bool.false_ne_true]
        exact q F3 H3 _ e (h23 rfl ▸ o3) (cl_dat (.bl _))⟩)
theorem tx_val {e : Expr} {k : Bool} (h : EX X es os e (dat (.bool k)) os1) (he : ∀ whole, isTrue e X.env whole = (do let v ← whole; standAt e.pos; holding [v] (truthy v)) := by intro _; rfl) : TX X es os e k os1 := fun F σ H Q ow sl q =>
  wt_of (pt_val pe_u he) (h F σ H _ ow sl fun F1 H1 x e1 o1 c1 => ⟨k, clv_bool c1, q F1 H1 e1 o1⟩)
theorem tx_not {k : Bool} (h : TX X es os a k os1) : TX X es os (.UnaryOp .Not a pos) (!k) os1 := fun F σ H Q ow sl q =>
  wt_of (pt_not pt_u) (h F σ H _ ow sl fun F1 H1 e1 o1 => q F1 H1 e1 o1)
theorem WX.tx {e : Expr} {k : Bool} (h : WX X es os e k os1) : TX X es os e k os1 := fun F σ H Q ow sl q => wt_of (PW.pt pw_u) (h F σ H Q ow sl q)
theorem wx_and1 {k : Bool} (h : TX X es os a k os1) : WX X es os (.BoolOp .And [a] pos) k os1 := fun F σ H Q ow sl q => ww_of (pw_and1 pt_u) (h F σ H Q ow sl q)
theorem wx_or1 {k : Bool} (h : TX X es os a k os1) : WX X es os (.BoolOp .Or [a] pos) k os1 := fun F σ H Q ow sl q => ww_of (pw_or1 pt_u) (h F σ H Q ow sl q)
theorem wx_and {rest : List Expr} {k l m : Bool} (h1 : TX X es os a k os1) (h2 : k = true → WX X es os1 (.BoolOp .And (b :: rest) pos) l os2) (hf : k = false → os1 = os2) (hm : (k && l) = m) : WX X es os (.BoolOp .And (a :: b :: rest) pos) m os2 := fun F σ H Q ow sl q =>
  ww_of (pw_and pt_u pw_u) (h1 F σ H _ ow sl fun F1 H1 e1 o1 => by
    cases k with
    | true =>
      rw [if_pos rfl]
      exact h2 rfl F1 σ H1 Q o1 (sl.mono e1) fun F2 H2 e2 o2 => by rw [← hm] at q; exact q F2 H2 (e1.trans e2) o2
    | false =>
      rw [if_neg Bool.false_ne_true]
      rw [← hm] at q
      exact q F1 H1 e1 (hf rfl ▸ o1))
theorem wx_or {rest : List Expr} {k l m : Bool} (h1 : TX X es os a k os1) (h2 : k = false → WX X es os1 (.BoolOp .Or (b :: rest) pos) l os2) (hf : k = true → os1 = os2) (hm : (k || l) = m) : WX X es os (.BoolOp .Or (a :: b :: rest) pos) m os2 := fun F σ H Q ow sl q =>
  ww_of (pw_or pt_u pw_u) (h1 F σ H _ ow sl fun F1 H1 e1 o1 => by
    cases k with
    | false =>
      rw [if_neg Bool.false_ne_true]
      exact h2 rfl F1 σ H1 Q o1 (sl.mono e1) fun F2 H2 e2 o2 => by rw [← hm] at q; exact q F2 H2 (e1.trans e2) o2
    | true =>
      rw [if_pos rfl]
      rw [← hm] at q
      exact q F1 H1 e1 (hf rfl ▸ o1))
/-- as values -/
theorem ex_one {op} {φ : VP} (h : EX X es os a φ os1) : EX X es os (.BoolOp op [a] pos) φ os1 := fun F σ H Q ow sl q => we_of (pe_one pe_u) (h F σ H Q ow sl q)
theorem ex_and {rest : List Expr} {k l m : Bool} (h1 : EX X es os a (dat (.bool k)) os1) (h2 : k = true → EX X es os1 (.BoolOp .And (b :: rest) pos) (dat (.bool l)) os2) (hf : k = false → os1 = os2) (hm : (k && l) = m) :
    EX X es os (.BoolOp .And (a :: b :: rest) pos) (dat (.bool m)) os2 := fun F σ H Q ow sl q =>
  we_of (pe_and pe_u pe_u) (h1 F σ H _ ow sl fun F1 H1 x e1 o1 c1 => ⟨k, clv_bool c1, by
    subst hm
    cases k with
    | true =>
      rw [if_pos rfl]
      exact h2 rfl F1 σ H1 Q o1 (sl.mono e1) fun F2 H2 v e2 o2 c2 => q F2 H2 v (e1.trans e2) o2 (by simpa using c2)
    | false =>
      rw [if_neg Bool.false_ne_true]
      exact q F1 H1 _ e1 (hf rfl ▸ o1) (cl_dat (.bl _))⟩)
theorem ex_not {k : Bool} (h : EX X es os a (dat (.bool k)) os1) : EX X es os (.UnaryOp .Not a pos) (dat (.bool (!k))) os1 := fun F σ H Q ow sl q =>
  we_of (pe_not pe_u) (h F σ H _ ow sl fun F1 H1 x e1 o1 c1 => ⟨k, clv_bool c1, q F1 H1 _ e1 o1 (cl_dat (.bl _))⟩)
theorem ex_if {k : Bool} {φ : VP} (hc : TX X es os c k os1) (ha : k = true → EX X es os1 a φ os2) (hb : k = false → EX X es os1 b φ os2) : EX X es os (.IfExp c a b pos) φ os2 := fun F σ H Q ow sl q =>
  we_of (pe_ifExp pt_u pe_u pe_u) (hc F σ H _ ow sl fun F1 H1 e1 o1 => by
    cases k with
    | true =>
      rw [if_pos rfl]
      exact ha rfl F1 σ H1 Q o1 (sl.mono e1) fun F2 H2 v e2 => q F2 H2 v (e1.trans e2)
    | false =>
      rw [if_neg Bool.false_ne_true]
      exact hb rfl F1 σ H1 Q o1 (sl.mono e1) fun F2 H2 v e2 => q F2 H2 v (e1.trans e2))
theorem ax_nil : AX X es os [] [] os := fun F σ H Q ow sl q => wa_of pa_nil (q F H [] (Same.refl F) ow rfl)
theorem ax_cons {as : List Expr} {φ : VP} {φs : List VP} (ha : EX X es os a φ os1) (hr : AX X es os1 as φs os2) (hs : starEach (a :: as) X.env = (false, eval a X.env) :: starEach as X.env := by rfl) : AX X es os (a :: as) (φ :: φs) os2 := fun F σ H Q ow sl q =>
  wa_of (pa_cons pe_u pa_u hs) (ha F σ H _ ow sl fun F1 H1 x e1 o1 c1 => hr F1 σ H1 _ o1 (sl.mono e1) fun F2 H2 vs e2 o2 c2 => q F2 H2 _ (e1.trans e2) o2 ⟨x, vs, rfl, c1.mono e2, c2⟩)
theorem cla_dq {F : Hp} : ∀ {ds : List PyData} {vs : List V}, ClA (ds.map dat) F vs → DqAll F vs ds
  | [], _, h => by
    have e : _ = [] := h
    rw [e]
    exact .nil
  | d :: ds, _, ⟨v, r, e, h1, h2⟩ => by
    rw [e]
    exact .cons h1.now (cla_dq h2)
theorem ex_tup {as : List Expr} {x1} {ds : List PyData} (h : AX X es os as (ds.map dat) os1) (hl : ds.length ≤ sizeLine := by decide) : EX X es os (.Tuple as x1 pos) (dat (.tuple ds)) os1 := fun F σ H Q ow sl q =>
  we_of (pe_tup pa_u) (h F σ H _ ow sl fun F1 H1 vs e1 o1 c1 => by
    have hd := cla_dq c1
    refine ⟨by rw [dqall_len hd]; exact hl, fun p hp => ?_⟩
    have fp := o1.ex.free hp
    exact q _ _ _ (e1.trans (same_upd fp)) (o1.frozen hp) (cl_dat (.tup upd_same (dqall_mono (same_upd fp) _ _ hd))))
theorem en_lst {as : List Expr} {ds : List PyData} (h : AX X es os as (ds.map dat) os1) (hl : ds.length ≤ sizeLine := by decide) : EN X es os (.List as pos) (ol ds) os1 := fun F σ H Q ow sl q =>
  we_of (pe_lst pa_u) (h F σ H _ ow sl fun F1 H1 vs e1 o1 c1 => by
    have hd := cla_dq c1
    refine ⟨by rw [dqall_len hd]; exact hl, fun p hp => ?_⟩
    exact q _ _ _ e1 (o1.new hp fun G g => ⟨vs, rfl, dqall_mono g _ _ hd⟩))
/-- of every value of φ (its object owned or not): it is read as a list of ds -/
def RdL (X : Cx) (φ : VP) (os : Os) (ds : List PyData) : Prop := ∀ F H v, Ow F os H → Cl φ F v → ∃ a vs, v = .ref a ∧ SqL X.K H a vs ∧ DqAll F vs ds
def RdT (φ : VP) (ds : List PyData) : Prop := ∀ F v, Cl φ F v → ∃ a vs, v = .ref a ∧ F a = some (.tup vs) ∧ DqAll F vs ds
theorem rdl_dat {ds : List PyData} : RdL X (dat (.list ds)) os ds := fun F H v ow c => by
  have h := c.now
  cases h with
  | lst h1 h2 => exact ⟨_, _, rfl, .of (ow.ex _ _ h1), h2⟩
theorem rdl_own {p : Addr} {ds : List PyData} (k : Nat) (h : os[k]? = some (p, ol ds)) : RdL X (own p) os ds := fun F H v ow c => by
  obtain ⟨_, vs, ho, hv⟩ := (ow.perm (perm_at h)).atL
  exact ⟨p, vs, c.now, .of ho, hv⟩
/-- the script -/
def scr (K : PySem.W.Frag) (ns : List Int) : VP := fun F v => ∃ a, v = .ref a ∧ SqL K F a (ns.map V.int)
theorem rdl_scr {ns : List Int} : RdL X (scr X.K ns) os (ns.map PyData.int) := fun F H v ow c => by
  obtain ⟨a, rfl, h⟩ := c.now
  exact ⟨a, _, rfl, ow.ex.seq h, dqall_ints ns⟩
theorem rdt_dat {ds : List PyData} : RdT (dat (.tuple ds)) ds := fun F v c => by
  have h := c.now
  cases h with
  | tup h1 h2 => exact ⟨_, _, rfl, h1, h2⟩
/-- xs[i], i of any sign -/
def idx {α : Type} (xs : List α) (i : Int) : Option α := atI xs i
theorem atI_map {α β : Type} (f : α → β) {xs : List α} {i : Int} {v : α} (h : atI xs i = some v) : atI (xs.map f) i = some (f v) := by
  unfold atI at h ⊢
  rw [List.length_map]
  cases e : ixN xs.length i with
  | none => rw [e] at h; cases h
  | some j =>
    rw [e] at h
    have h' : xs[j]? = some v := h
    show (xs.map f)[j]? = some (f v)
    rw [List.getElem?_map, h']
    rfl
theorem atI_dq {F : Hp} {vs : List V} {ds : List PyData} {i : Int} {d : PyData} (h : DqAll F vs ds) (k : atI ds i = some d) : ∃ v, atI vs i = some v ∧ Dq F v d := by
  unfold atI at k ⊢
  rw [dqall_len h]
  cases e : ixN ds.length i with
  | none => rw [e] at k; cases k
  | some j =>
    rw [e] at k
    exact dqall_get' h k
theorem ex_ixL {φ : VP} {ds : List PyData} {i : Int} {d : PyData} (hr : RdL X φ os2 ds) (hk : atI ds i = some d) (ha : EX X es os a φ os1) (hb : EX X es os1 b (dat (.int i)) os2) (hp : PlainIx b := by exact fun _ _ => rfl) : EX X es os (.Subscript a b pos) (dat d) os2 := fun F σ H Q ow sl q =>
  we_of (pe_ix ix_list pe_u pe_u hp) (ha F σ H _ ow sl fun F1 H1 x e1 o1 c1 => hb F1 σ H1 _ o1 (sl.mono e1) fun F2 H2 y e2 o2 c2 => by
    obtain ⟨p, vs, rfl, hs, hv⟩ := hr F2 H2 x o2 (c1.mono e2)
    obtain ⟨v, hi, hd⟩ := atI_dq hv hk
    exact ⟨p, vs, i, v, rfl, clv_int c2, hs, hi, q F2 H2 v (e1.trans e2) o2 (cl_dat hd)⟩)
theorem ex_ixT {φ : VP} {ds : List PyData} {i : Int} {d : PyData} (hr : RdT φ ds) (hk : atI ds i = some d) (ha : EX X es os a φ os1) (hb : EX X es os1 b (dat (.int i)) os2) (hp : PlainIx b := by exact fun _ _ => rfl) : EX X es os (.Subscript a b pos) (dat d) os2 := fun F σ H Q ow sl q =>
  we_of (pe_ix ix_tup pe_u pe_u hp) (ha F σ H _ ow sl fun F1 H1 x e1 o1 c1 => hb F1 σ H1 _ o1 (sl.mono e1) fun F2 H2 y e2 o2 c2 => by
    obtain ⟨p, vs, rfl, hs, hv⟩ := hr F2 x (c1.mono e2)
    obtain ⟨v, hi, hd⟩ := atI_dq hv hk
    exact ⟨p, vs, i, v, rfl, clv_int c2, .of (o2.ex _ _ hs), hi, q F2 H2 v (e1.trans e2) o2 (cl_dat hd)⟩)
end
end Z
namespace Z
open PySem PySem.Spec PyProof.Rows L2
structure FnG (P : Program) (w : World) (K : PySem.W.Frag) (mg : Str → Option Value) (base : Heap) (C : CXT) (k : Nat) (f : Addr) (fd : FuncData) (ps : List Str) (sp : Sp) : Prop where
  len : ∀ vs H Q E, sp vs H Q E → vs.length = ps.length
  run : ∀ (A : Around) (outer : List Env) (s : Shared) (H : Hp) (args : Args) (us : List Value) (vs : List V) (Q : VK) (E : XK), A.guards = some [] → Room k A →
    Env0 P w K mg base A outer s H → BindsTo s fd args (ps.zip us) → Vals vs us → sp vs H Q E → codeAny (model P w) A (.call (.ref f) args) (CR C outer P w H s Q E) s
section
variable {P : Program} {w : World} {K : PySem.W.Frag} {mg : Str → Option Value} {base : Heap} {C : CXT}
theorem FnG.mono {j k : Nat} {f : Addr} {fd : FuncData} {ps : List Str} {sp : Sp} (F : FnG P w K mg base C j f fd ps sp) (h : j ≤ k) : FnG P w K mg base C k f fd ps sp :=
  ⟨F.len, fun A outer s H args us vs Q E hg hr => F.run A outer s H args us vs Q E hg (hr.mono h)⟩
/-- the body of a def is looked at once -/
theorem fun_ok {x qual : Str} {st : Stmt} {f : Addr} {fd : FuncData} {N ps : List Str} {k : Nat} {sp : Sp} (G : Fun K x qual st f fd) (S : FnScope N ps (defScope st)) (len : ∀ vs H Q E, sp vs H Q E → vs.length = ps.length)
    (body : ∀ (cdv : Value) (A : Around) (outer : List Env) (s : Shared) (H : Hp) (vs : List V) (Q : VK) (E : XK), A.guards = some [] → Room k (A.deeper (envOfC qual (defScope st) s.heap.objs.size f cdv)) → sp vs H Q E →
      WPs (cxOf C P w K mg base N qual (defScope st) f cdv A outer s H E) (defBody st) { nx := fun _ H' => Q .non H', rt := Q } (start N vs) H) : FnG P w K mg base C (k + 1) f fd ps sp := by
  obtain ⟨oc, od, kV, doc, pm, an, cdv, ct, osl, rfl, lk, hcd⟩ := G.ex
  refine ⟨len, ?_⟩
  intro A outer s H args us vs Q E hg hr e0 hb r hsp
  have inh : K.In s.heap := e0.mod.kin.keeps fun b o q => (e0.bs b o q).1
  have nol : s.heap.NoLimit := e0.mod.nolimit.keeps fun b o q => (e0.bs b o q).1
  refine codeAny_call_function hr.depth (inh _ _ lk) rfl S.co S.gen rfl (PySem.W.codeRec_of inh hcd) (hb _ _ _ _ ?_)
  refine wpAny_newFunctionEnv_cells S.kind ?_ ?_
  · rintro ⟨n, v⟩ hy
    rcases S.par n (List.of_mem_zip hy).1 with q | q
    · exact .inl q
    · exact .inr ⟨q, PySem.W.cellsFrom_some _ _ _ (.inl q)⟩
  · intro env he s1 x
    subst he
    refine ⟨nol.keeps x.toInCall.keep, codeAny_func ?_⟩
    have I := inv_start (CX := C) (P := P) (w := w) (E := E) S hr.hd e0 (len _ _ _ _ hsp) r x
    refine wpAny_mono (body cdv A outer s H vs Q E hg (hr.deeper _) hsp [] s1 I) ?_ fun _ _ z => z
    intro fl s' z
    cases fl with
    | ret u =>
      obtain ⟨v, σ', H', J, rv, q⟩ := z
      exact ⟨v, H', J.os, J.bare, J.base, J.hok, rv, q⟩
    | next =>
      obtain ⟨σ', H', J, q⟩ := z
      exact ⟨.non, H', J.os, J.bare, J.base, J.hok, rfl, q⟩
    | brk =>
      obtain ⟨_, _, _, q⟩ := z
      exact q.elim
    | cont =>
      obtain ⟨_, _, _, q⟩ := z
      exact q.elim
end
def visB (sc : Scope) (x : Str) : Bool := match sc.names.lookup x with
  | some .local => true
  | some .cell => true
  | some .free => true
  | _ => false
def locB (sc : Scope) (x : Str) : Bool := match sc.names.lookup x with
  | some .local => true
  | some .cell => true
  | _ => false
def glB (sc : Scope) (x : Str) : Bool := match sc.names.lookup x with
  | some .globalImplicit => true
  | _ => false
def dunB (x : Str) : Bool := !(x == ("__debug__" : Str)) && !(x == ("__classdict__" : Str)) && !(x == ("__name__" : Str))
theorem vis_of {sc : Scope} {x : Str} (h : visB sc x = true) : Vis sc x := by
  unfold visB at h
  split at h
  · exact .inl (by assumption)
  · exact .inr (.inl (by assumption))
  · exact .inr (.inr (by assumption))
  · cases h
theorem loc_of {sc : Scope} {x : Str} (h : locB sc x = true) : Loc sc x := by
  unfold locB at h
  split at h
  · exact .inl (by assumption)
  · exact .inr (by assumption)
  · cases h
/-- in X: the i-th name stands at its slot and is seen; the j-th global one is one -/
structure Bd (X : Cx) (N : List Str) (V G : List Str) (k : Nat) : Prop where
  hN : X.N = N
  nd : N.Nodup
  calm : X.calm = true
  gd : X.A.guards = some []
  room : Room k X.A
  vis : ∀ x ∈ V, Vis X.env.scope x ∧ dunB x = true
  gl : ∀ x ∈ G, Gl X x ∧ dunB x = true
theorem dun_d {x : Str} (h : dunB x = true) : (x == ("__debug__" : Str)) = false := by
  unfold dunB at h
  simp only [Bool.and_eq_true, Bool.not_eq_true'] at h
  exact h.1.1
theorem dun_c {x : Str} (h : dunB x = true) : (x == ("__classdict__" : Str)) = false := by
  unfold dunB at h
  simp only [Bool.and_eq_true, Bool.not_eq_true'] at h
  exact h.1.2
theorem dun_n {x : Str} (h : dunB x = true) : x ≠ "__name__" := by
  unfold dunB at h
  simp only [Bool.and_eq_true, Bool.not_eq_true', beq_eq_false_iff_ne, ne_eq] at h
  exact h.2
/-- the names of a body, all at once -/
def namB (sc : Scope) (V G : List Str) : Bool := (V.all fun x => visB sc x && dunB x) && (G.all fun x => glB sc x && dunB x)
theorem nam_vis {sc : Scope} {V G : List Str} (h : namB sc V G = true) : ∀ x ∈ V, Vis sc x ∧ dunB x = true := fun x hx => by
  unfold namB at h
  rw [Bool.and_eq_true, List.all_eq_true] at h
  have := h.1 x hx
  rw [Bool.and_eq_true] at this
  exact ⟨vis_of this.1, this.2⟩
theorem nam_gl {sc : Scope} {V G : List Str} (h : namB sc V G = true) : ∀ x ∈ G, sc.names.lookup x = some .globalImplicit ∧ dunB x = true := fun x hx => by
  unfold namB at h
  rw [Bool.and_eq_true, List.all_eq_true, List.all_eq_true] at h
  have := h.2 x hx
  rw [Bool.and_eq_true] at this
  refine ⟨?_, this.2⟩
  have q := this.1
  unfold glB at q
  split at q
  · assumption
  · cases q
section
variable {X : Cx} {es : List Slot} {os os1 os2 os3 : Os} {N V G : List Str} {k : Nat} {x : Str} {p pos : Pos} {e : Expr} {as : List Expr}
theorem ex_v {i j : Nat} {φ : VP} (B : Bd X N V G k) (hi : N[i]? = some x) (hj : V[j]? = some x) (h : es[i]? = some (sl φ)) : EX X es os (.Name x pos) φ os :=
  let ⟨a, b⟩ := B.vis x (List.mem_of_getElem? hj)
  ex_name (B.hN ▸ hi) a (dun_d b) (dun_c b) h
theorem ex_g {j : Nat} {i : Int} {t : Tok} (B : Bd X N V G k) (hj : G[j]? = some x) (hm : X.mg x = some (.int i t)) : EX X es os (.Name x pos) (dat (.int i)) os :=
  let ⟨a, b⟩ := B.gl x (List.mem_of_getElem? hj)
  ex_gint a hm (dun_d b)
def RCX (r : List L2.V → Hp → VK → Prop) (φs : List VP) (os : Os) (d : VP) (os' : Os) : Prop := ∀ F H vs Q, Ow F os H → ClA φs F vs → (∀ F' H' v, Same F F' → Ow F' os' H' → Cl d F' v → Q v H') → r vs H Q
def RCN (r : List L2.V → Hp → VK → Prop) (φs : List VP) (os : Os) (n : Ent) (os' : Os) : Prop := ∀ F H vs Q, Ow F os H → ClA φs F vs → (∀ F' H' p, Same F F' → Ow F' ((p, n) :: os') H' → Q (.ref p) H') → r vs H Q
theorem ex_fn {id : String} {r : List L2.V → Hp → VK → Prop} {φs : List VP} {d : VP} {j : Nat} (B : Bd X N V G k) (hj : G[j]? = some x) (hm : X.mg x = none) (hv : bootBuiltins x = some (.builtin id)) (hc : CallR X (.builtin id) r) (hr : RCX r φs os1 d os2)
    (ha : AX X es os (e :: as) φs os1) (he : starEach (e :: as) X.env = (false, eval e X.env) :: starEach as X.env := by rfl) (hpl : (backTo pos (starEach as X.env)).any (·.1) = false := by rfl) : EX X es os (.Call (.Name x p) (e :: as) [] pos) d os2 := fun F σ H Q ow sl q =>
  let ⟨a, b⟩ := B.gl x (List.mem_of_getElem? hj)
  we_of (pe_callB hc a hm hv pa_u (dun_n b) (dun_d b) he hpl) (ha F σ H _ ow sl fun F1 H1 vs e1 o1 c1 => hr F1 H1 vs Q o1 c1 fun F2 H2 v e2 => q F2 H2 v (e1.trans e2))
theorem ex_ty {T : String} {r : List L2.V → Hp → VK → Prop} {φs : List VP} {d : VP} {j : Nat} (B : Bd X N V G k) (hj : G[j]? = some x) (hm : X.mg x = none) (hv : bootBuiltins x = some (.type T)) (hc : CallR X (.type T) r) (hr : RCX r φs os1 d os2)
    (ha : AX X es os (e :: as) φs os1) (he : starEach (e :: as) X.env = (false, eval e X.env) :: starEach as X.env := by rfl) (hpl : (backTo pos (starEach as X.env)).any (·.1) = false := by rfl) : EX X es os (.Call (.Name x p) (e :: as) [] pos) d os2 := fun F σ H Q ow sl q =>
  let ⟨a, b⟩ := B.gl x (List.mem_of_getElem? hj)
  we_of (pe_callTy hc a hm hv pa_u (dun_n b) (dun_d b) he hpl) (ha F σ H _ ow sl fun F1 H1 vs e1 o1 c1 => hr F1 H1 vs Q o1 c1 fun F2 H2 v e2 => q F2 H2 v (e1.trans e2))
theorem en_ty {T : String} {r : List L2.V → Hp → VK → Prop} {φs : List VP} {n : Ent} {j : Nat} (B : Bd X N V G k) (hj : G[j]? = some x) (hm : X.mg x = none) (hv : bootBuiltins x = some (.type T)) (hc : CallR X (.type T) r) (hr : RCN r φs os1 n os2)
    (ha : AX X es os (e :: as) φs os1) (he : starEach (e :: as) X.env = (false, eval e X.env) :: starEach as X.env := by rfl) (hpl : (backTo pos (starEach as X.env)).any (·.1) = false := by rfl) : EN X es os (.Call (.Name x p) (e :: as) [] pos) n os2 := fun F σ H Q ow sl q =>
  let ⟨a, b⟩ := B.gl x (List.mem_of_getElem? hj)
  we_of (pe_callTy hc a hm hv pa_u (dun_n b) (dun_d b) he hpl) (ha F σ H _ ow sl fun F1 H1 vs e1 o1 c1 => hr F1 H1 vs Q o1 c1 fun F2 H2 v e2 => q F2 H2 v (e1.trans e2))
theorem cla1 {φ : VP} {F : Hp} {vs : List L2.V} (h : ClA [φ] F vs) : ∃ v, vs = [v] ∧ Cl φ F v := by
  obtain ⟨v, r, e, h1, h2⟩ := h
  have e2 : r = [] := h2
  subst e2
  exact ⟨v, e, h1⟩
theorem cla2 {φ ψ : VP} {F : Hp} {vs : List L2.V} (h : ClA [φ, ψ] F vs) : ∃ v u, vs = [v, u] ∧ Cl φ F v ∧ Cl ψ F u := by
  obtain ⟨v, r, e, h1, h2⟩ := h
  obtain ⟨u, e2, h3⟩ := cla1 h2
  subst e2
  exact ⟨v, u, e, h1, h3⟩
theorem rc_abs {i : Int} : RCX (fun xs H Q => ∃ i, xs = [L2.V.int i] ∧ Q (.int (if i < 0 then -i else i)) H) [dat (.int i)] os (dat (.int (if i < 0 then -i else i))) os := fun F H vs Q ow c q => by
  obtain ⟨v, rfl, h⟩ := cla1 c
  exact ⟨i, by rw [clv_int h], q F H _ (Same.refl F) ow (cl_dat (.int _))⟩
theorem rc_max {i j : Int} : RCX (fun xs H Q => ∃ i j, xs = [L2.V.int i, .int j] ∧ Q (.int (if j > i then j else i)) H) [dat (.int i), dat (.int j)] os (dat (.int (if j > i then j else i))) os := fun F H vs Q ow c q => by
  obtain ⟨v, u, rfl, h, h2⟩ := cla2 c
  exact ⟨i, j, by rw [clv_int h, clv_int h2], q F H _ (Same.refl F) ow (cl_dat (.int _))⟩
theorem rc_min {i j : Int} : RCX (fun xs H Q => ∃ i j, xs = [L2.V.int i, .int j] ∧ Q (.int (if j < i then j else i)) H) [dat (.int i), dat (.int j)] os (dat (.int (if j < i then j else i))) os := fun F H vs Q ow c q => by
  obtain ⟨v, u, rfl, h, h2⟩ := cla2 c
  exact ⟨i, j, by rw [clv_int h, clv_int h2], q F H _ (Same.refl F) ow (cl_dat (.int _))⟩
theorem rc_intI {i : Int} : RCX (fun xs H Q => (∃ i, xs = [L2.V.int i] ∧ Q (.int i) H) ∨ ∃ k, xs = [.bl k] ∧ Q (.int (if k then 1 else 0)) H) [dat (.int i)] os (dat (.int i)) os := fun F H vs Q ow c q => by
  obtain ⟨v, rfl, h⟩ := cla1 c
  exact .inl ⟨i, by rw [clv_int h], q F H _ (Same.refl F) ow (cl_dat (.int _))⟩
theorem rc_intB {i : Bool} : RCX (fun xs H Q => (∃ i, xs = [L2.V.int i] ∧ Q (.int i) H) ∨ ∃ k, xs = [.bl k] ∧ Q (.int (if k then 1 else 0)) H) [dat (.bool i)] os (dat (.int (if i then 1 else 0))) os := fun F H vs Q ow c q => by
  obtain ⟨v, rfl, h⟩ := cla1 c
  exact .inr ⟨i, by rw [clv_bool h], q F H _ (Same.refl F) ow (cl_dat (.int _))⟩
theorem rc_lenL {φ : VP} {ds : List PyData} (hr : RdL X φ os ds) : RCX (fun xs H Q => ∃ p ys, xs = [L2.V.ref p] ∧ (SqL X.K H p ys ∨ SqT X.K H p ys) ∧ Q (.int ys.length) H) [φ] os (dat (.int (ds.length : Int))) os := fun F H vs Q ow c q => by
  obtain ⟨v, rfl, h⟩ := cla1 c
  obtain ⟨a, us, rfl, h1, h2⟩ := hr F H v ow h
  exact ⟨a, us, rfl, .inl h1, by rw [dqall_len h2]; exact q F H _ (Same.refl F) ow (cl_dat (.int _))⟩
theorem rc_lenT {φ : VP} {ds : List PyData} (hr : RdT φ ds) : RCX (fun xs H Q => ∃ p ys, xs = [L2.V.ref p] ∧ (SqL X.K H p ys ∨ SqT X.K H p ys) ∧ Q (.int ys.length) H) [φ] os (dat (.int (ds.length : Int))) os := fun F H vs Q ow c q => by
  obtain ⟨v, rfl, h⟩ := cla1 c
  obtain ⟨a, us, rfl, h1, h2⟩ := hr F v h
  exact ⟨a, us, rfl, .inr (.of (ow.ex _ _ h1)), by rw [dqall_len h2]; exact q F H _ (Same.refl F) ow (cl_dat (.int _))⟩
theorem rc_all {φ : VP} {bs : List Bool} (hr : RdL X φ os (bs.map PyData.bool)) : RCX (rAll X.K) [φ] os (dat (.bool (bs.all id))) os := fun F H vs Q ow c q => by
  obtain ⟨v, rfl, h⟩ := cla1 c
  obtain ⟨a, us, rfl, h1, h2⟩ := hr F H v ow h
  have e := dqall_of_bools bs h2
  subst e
  exact ⟨a, bs, rfl, h1, q F H _ (Same.refl F) ow (cl_dat (.bl _))⟩
theorem rc_any {φ : VP} {bs : List Bool} (hr : RdL X φ os (bs.map PyData.bool)) : RCX (rAny X.K) [φ] os (dat (.bool (bs.any id))) os := fun F H vs Q ow c q => by
  obtain ⟨v, rfl, h⟩ := cla1 c
  obtain ⟨a, us, rfl, h1, h2⟩ := hr F H v ow h
  have e := dqall_of_bools bs h2
  subst e
  exact ⟨a, bs, rfl, h1, q F H _ (Same.refl F) ow (cl_dat (.bl _))⟩
theorem rc_tupL {φ : VP} {ds : List PyData} (hr : RdL X φ os ds) : RCX (fun xs H Q => ∃ p ys, xs = [L2.V.ref p] ∧ ((SqL X.K H p ys ∧ ∀ l, H l = none → Q (.ref l) (upd H l (.tup ys))) ∨ (SqT X.K H p ys ∧ Q (.ref p) H))) [φ] os (dat (.tuple ds)) os := fun F H vs Q ow c q => by
  obtain ⟨v, rfl, h⟩ := cla1 c
  obtain ⟨a, us, rfl, h1, h2⟩ := hr F H v ow h
  refine ⟨a, us, rfl, .inl ⟨h1, fun l hl => ?_⟩⟩
  have fp := ow.ex.free hl
  exact q _ _ _ (same_upd fp) (ow.frozen hl) (cl_dat (.tup upd_same (dqall_mono (same_upd fp) _ _ h2)))
end
end Z
namespace Z
open PySem PySem.Spec PyProof.Rows L2
/-- a def of the text that keeps a promise, as callers see it -/
structure Cal (P : Program) (w : World) (K : PySem.W.Frag) (mg : Str → Option Value) (base : Heap) (k : Nat) (x : Str) (st : Stmt) (ps : List Str) (sp : Sp) : Prop where
  ex : ∃ (f : Addr) (fd : FuncData), Fun K x x st f fd ∧ FnG P w K mg base CX0 k f fd ps sp ∧ mg x = some (.ref f) ∧ Binds K fd ps []
theorem Cal.mono {P : Program} {w : World} {K : PySem.W.Frag} {mg : Str → Option Value} {base : Heap} {j k : Nat} {x : Str} {st : Stmt} {ps : List Str} {sp : Sp} (c : Cal P w K mg base j x st ps sp) (h : j ≤ k) : Cal P w K mg base k x st ps sp :=
  let ⟨f, fd, a, b, d⟩ := c.ex
  ⟨f, fd, a, b.mono h, d⟩
section
variable {X : Cx} {k : Nat} {f : Addr} {fd : FuncData} {ps : List Str} {sp : Sp} {x : Str} {p pos : Pos} {e : Expr} {as : List Expr} {t tk : TA} {kws : List Keyword}
theorem run_g {pins : List (Addr × Obj)} {σ : L2.St} {H : Hp} {s : Shared} {Q : VK} {us zs : List Value} {kv : List (Str × Value)} {vs : List L2.V} (c : FnG X.prog X.w X.K X.mg X.base CX0 k f fd ps sp) (gd : X.A.guards = some []) (hr : Room k X.A)
    (I : Inv X pins σ H s) (b : BindsTo s fd ⟨us, kv⟩ (ps.zip zs)) (r : Vals vs zs) (h : sp vs H Q E0) : wpAny (model X.prog X.w) X.A (call (.ref f) us kv) (EP X pins σ Q) X.xe s := by
  refine wpAny_call (codeAny_mono (c.run X.A X.stack s H ⟨us, kv⟩ zs vs Q E0 gd hr I.env0 b r h) ?_)
  intro res s' hq
  cases res with
  | error e => exact hq.elim
  | ok fl =>
    cases fl with
    | ret u => exact I.after hq
    | next => exact hq.elim
    | brk => exact hq.elim
    | cont => exact hq.elim
theorem pe_g {st : Stmt} (c : Cal X.prog X.w X.K X.mg X.base k x st ps sp) (gd : X.A.guards = some []) (hr : Room k X.A) (hg : Gl X x) (ha : PA X (e :: as) t) (hdb : (x == ("__debug__" : Str)) = false)
    (he : starEach (e :: as) X.env = (false, eval e X.env) :: starEach as X.env := by rfl) (hpl : (backTo pos (starEach as X.env)).any (·.1) = false := by rfl) : PE X (.Call (.Name x p) (e :: as) [] pos) (fun σ H Q => t σ H fun vs H1 => sp vs H1 Q E0) := by
  obtain ⟨f, fd, Fn, G, hm, hb⟩ := c.ex
  refine ⟨fun pins s σ H Q I h => wpAny_Call_Name_kw (ld_glob I hg hm ?_ hdb)⟩
  refine PySem.W.callWith_K (h₀ := X.base) I.ok.mod.kin Fn.kp (thn (ha.run pos pins s σ H _ I h) ?_) he hpl
  rintro us s1 ⟨vs, H1, I1, r, q⟩
  refine ⟨I1.kIn, run_g G gd hr I1 ?_ r q⟩
  have := hb s1 us I1.kIn (by rw [List.append_nil, ← r.length]; exact G.len _ _ _ _ q)
  rw [List.append_nil] at this
  exact this
def kperm {α : Type} (n m : Nat) (pi : List Nat) (us ws : List α) : List α := if us.length = n ∧ ws.length = m then pi.filterMap fun i => (us ++ ws)[i]? else []
theorem vals_fm {vs : List L2.V} {us : List Value} (h : Vals vs us) : ∀ pi : List Nat, Vals (pi.filterMap fun i => vs[i]?) (pi.filterMap fun i => us[i]?)
  | [] => .nil
  | i :: pi => by
    rw [List.filterMap_cons, List.filterMap_cons]
    cases e : vs[i]? with
    | none =>
      rw [h.none_of e]
      exact vals_fm h pi
    | some v =>
      obtain ⟨u, e2, r⟩ := h.get e
      rw [e2]
      exact .cons r (vals_fm h pi)
theorem vals_kperm {n m : Nat} {pi : List Nat} {vs zs : List L2.V} {us ws : List Value} (h : Vals vs us) (h' : Vals zs ws) : Vals (kperm n m pi vs zs) (kperm n m pi us ws) := by
  unfold kperm
  rw [h.length, h'.length]
  split
  · exact vals_fm (h.append h') pi
  · exact .nil
/-- how the def st binds positional values and keywords ks -/
def KwOk (x : Str) (st : Stmt) (ps ks : List Str) (n : Nat) (pi : List Nat) : Prop := ∀ (kV doc pm : Value) (an : Option Addr) (cdv ct : Value) (us ws : List Value), us.length = n → ws.length = ks.length →
  bindArgs (PySem.W.fnOf x x (defArgs st) (defBody st) (defScope st) .none kV doc pm an cdv ct) ⟨us, ks.zip ws⟩ = pure (ps.zip (pi.filterMap fun i => (us ++ ws)[i]?))
theorem pe_gk0 {st : Stmt} {ks : List Str} {pi : List Nat} (c : Cal X.prog X.w X.K X.mg X.base k x st ps sp) (kw : KwOk x st ps ks 0 pi) (hps : 0 < ps.length) (gd : X.A.guards = some []) (hr : Room k X.A) (hg : Gl X x) (hk : PK X kws tk) (hdb : (x == ("__debug__" : Str)) = false)
    (hall : (backToKw pos (keywordEach kws X.env)).all (·.1.isSome) = true := by rfl) (hks : (backToKw pos (keywordEach kws X.env)).filterMap (·.1) = ks := by rfl)
    (hpl : ((backTo pos (starEach [] X.env)).any (·.1) || (backToKw pos (keywordEach kws X.env)).any (·.1.isNone)) = false := by rfl) :
    PE X (.Call (.Name x p) [] kws pos) (fun σ H Q => tk σ H fun zs H2 => sp (kperm 0 ks.length pi [] zs) H2 Q E0) := by
  obtain ⟨f, fd, Fn, G, hm, hb⟩ := c.ex
  refine ⟨fun pins s σ H Q I h => wpAny_Call_Name_kw (ld_glob I hg hm ?_ hdb)⟩
  refine PySem.W.callWith_KW0 (h₀ := X.base) I.ok.mod.kin Fn.kp hall ?_ hpl
  refine thn (hk.run pos pins s σ H _ I h) ?_
  rintro ws s2 ⟨zs, H2, I2, rz, q2⟩
  refine ⟨I2.kIn, ?_⟩
  rw [hks]
  have rk := vals_kperm (n := 0) (m := ks.length) (pi := pi) (show Vals [] [] from .nil) rz
  refine run_g (us := []) G gd hr I2 (.of_eq ?_) rk q2
  have hl := G.len _ _ _ _ q2
  obtain ⟨oc, od, kV, doc, pm, an, cdv, ct, osl, rfl, _, _⟩ := Fn.ex
  unfold kperm at hl ⊢
  split at hl
  · rename_i hh
    rw [if_pos (by rw [← rz.length]; exact hh)]
    exact kw kV doc pm an cdv ct [] ws rfl (by rw [← rz.length]; exact hh.2)
  · have : ps.length = 0 := hl.symm
    omega
end
/-- it hands back the value of which res tells -/
def spZ {α β : Type} (ps : α → List VP) (pre : α → Os) (m : α → Option β) (res : α → β → VP) (post : α → β → Os) : Sp := fun vs H Q _ =>
  ∃ (a : α) (b : β) (F : Hp) (os : Os), ClA (ps a) F vs ∧ Ow F (pre a ++ os) H ∧ m a = some b ∧ ∀ F' H' v, Same F F' → Ow F' (post a b ++ os) H' → Cl (res a b) F' v → Q v H'
/-- it hands back a new list -/
def spN {α β : Type} (ps : α → List VP) (pre : α → Os) (m : α → Option β) (n : α → β → Ent) (post : α → β → Os) : Sp := fun vs H Q _ =>
  ∃ (a : α) (b : β) (F : Hp) (os : Os), ClA (ps a) F vs ∧ Ow F (pre a ++ os) H ∧ m a = some b ∧ ∀ F' H' p, Same F F' → Ow F' ((p, n a b) :: (post a b ++ os)) H' → Q (.ref p) H'
theorem spZ_len {α β : Type} {ps : α → List VP} {pre : α → Os} {m : α → Option β} {res : α → β → VP} {post : α → β → Os} {n : Nat} (h : ∀ a, (ps a).length = n) : ∀ vs H Q E, spZ ps pre m res post vs H Q E → vs.length = n :=
  fun vs H Q E ⟨a, b, F, os, c, _⟩ => (cla_len c).trans (h a)
theorem spN_len {α β : Type} {ps : α → List VP} {pre : α → Os} {m : α → Option β} {n : α → β → Ent} {post : α → β → Os} {k : Nat} (h : ∀ a, (ps a).length = k) : ∀ vs H Q E, spN ps pre m n post vs H Q E → vs.length = k :=
  fun vs H Q E ⟨a, b, F, os, c, _⟩ => (cla_len c).trans (h a)
section
variable {X : Cx} {es : List Slot} {os os1 os2 rest : Os} {N V G : List Str} {k j : Nat} {x : Str} {p pos : Pos} {e : Expr} {as : List Expr} {kws : List Keyword} {ks : List Str} {st : Stmt} {pn : List Str} {α β : Type} {ps : α → List VP} {pre : α → Os} {m : α → Option β} {res : α → β → VP} {post : α → β → Os} {n : α → β → Ent} {gi : Nat}
theorem ex_call (B : Bd X N V G k) (hj : G[gi]? = some x) (c : Cal X.prog X.w X.K X.mg X.base j x st pn (spZ ps pre m res post)) (hl : j ≤ k) {a : α} {b : β} (hm : m a = some b) (ha : AX X es os (e :: as) (ps a) (pre a ++ rest))
    (he : starEach (e :: as) X.env = (false, eval e X.env) :: starEach as X.env := by rfl) (hpl : (backTo pos (starEach as X.env)).any (·.1) = false := by rfl) : EX X es os (.Call (.Name x p) (e :: as) [] pos) (res a b) (post a b ++ rest) := fun F σ H Q ow sl q =>
  let ⟨u, v⟩ := B.gl x (List.mem_of_getElem? hj)
  we_of (pe_g (c.mono hl) B.gd B.room u pa_u (dun_d v) he hpl) (ha F σ H _ ow sl fun F1 H1 vs e1 o1 c1 => ⟨a, b, F1, rest, c1, o1, hm, fun F2 H2 v e2 o2 c2 => q F2 H2 v (e1.trans e2) o2 c2⟩)
theorem en_call (B : Bd X N V G k) (hj : G[gi]? = some x) (c : Cal X.prog X.w X.K X.mg X.base j x st pn (spN ps pre m n post)) (hl : j ≤ k) {a : α} {b : β} (hm : m a = some b) (ha : AX X es os (e :: as) (ps a) (pre a ++ rest))
    (he : starEach (e :: as) X.env = (false, eval e X.env) :: starEach as X.env := by rfl) (hpl : (backTo pos (starEach as X.env)).any (·.1) = false := by rfl) : EN X es os (.Call (.Name x p) (e :: as) [] pos) (n a b) (post a b ++ rest) := fun F σ H Q ow sl q =>
  let ⟨u, v⟩ := B.gl x (List.mem_of_getElem? hj)
  we_of (pe_g (c.mono hl) B.gd B.room u pa_u (dun_d v) he hpl) (ha F σ H _ ow sl fun F1 H1 vs e1 o1 c1 => ⟨a, b, F1, rest, c1, o1, hm, fun F2 H2 v e2 o2 => q F2 H2 v (e1.trans e2) o2⟩)
/-- the values of keywords -/
def KX (X : Cx) (es : List Slot) (os : Os) (kws : List Keyword) (φs : List VP) (os' : Os) : Prop := ∀ F σ H, Ow F os H → Sl F es σ → ∀ Q : List L2.V → Hp → Prop, (∀ F' H' vs, Same F F' → Ow F' os' H' → ClA φs F' vs → Q vs H') →
  ∀ pos pins s, Inv X pins σ H s → wpAny (model X.prog X.w) X.A (evalAll ((backToKw pos (keywordEach kws X.env)).map (·.2))) (AP X pins σ Q) X.xe s
def WK (X : Cx) (kws : List Keyword) (σ : L2.St) (H : Hp) (Q : List L2.V → Hp → Prop) : Prop := ∀ pos pins s, Inv X pins σ H s → wpAny (model X.prog X.w) X.A (evalAll ((backToKw pos (keywordEach kws X.env)).map (·.2))) (AP X pins σ Q) X.xe s
theorem pk_u : PK X kws (WK X kws) := ⟨fun pos pins s _ _ _ I h => h pos pins s I⟩
theorem kx_nil : KX X es os [] [] os := fun F σ H ow sl Q q pos pins s I => pk_nil.run pos pins s σ H Q I (q F H [] (Same.refl F) ow rfl)
theorem kx_cons {nm : Option Str} {kpos : Pos} {φ : VP} {φs : List VP} (ha : EX X es os e φ os1) (hr : KX X es os1 kws φs os2) : KX X es os (⟨nm, e, kpos⟩ :: kws) (φ :: φs) os2 := fun F σ H ow sl Q q pos pins s I =>
  (pk_cons pe_u pk_u).run pos pins s σ H Q I (ha F σ H _ ow sl fun F1 H1 x e1 o1 c1 => hr F1 σ H1 o1 (sl.mono e1) _ fun F2 H2 vs e2 o2 c2 => q F2 H2 _ (e1.trans e2) o2 ⟨x, vs, rfl, c1.mono e2, c2⟩)
theorem cla_get {F : Hp} : ∀ {φs : List VP} {vs : List L2.V} {i : Nat}, ClA φs F vs → (φs[i]? = none ∧ vs[i]? = none) ∨ ∃ φ v, φs[i]? = some φ ∧ vs[i]? = some v ∧ Cl φ F v
  | [], _, i, h => by
    have e : _ = [] := h
    subst e
    exact .inl ⟨rfl, rfl⟩
  | φ :: φs, _, 0, ⟨v, r, e, h1, h2⟩ => by
    subst e
    exact .inr ⟨φ, v, rfl, rfl, h1⟩
  | φ :: φs, _, i + 1, ⟨v, r, e, h1, h2⟩ => by
    subst e
    rw [List.getElem?_cons_succ, List.getElem?_cons_succ]
    exact cla_get h2
theorem cla_fm {F : Hp} {φs : List VP} {vs : List L2.V} (h : ClA φs F vs) : ∀ pi : List Nat, ClA (pi.filterMap fun i => φs[i]?) F (pi.filterMap fun i => vs[i]?)
  | [] => rfl
  | i :: pi => by
    rw [List.filterMap_cons, List.filterMap_cons]
    rcases cla_get (i := i) h with ⟨e1, e2⟩ | ⟨φ, v, e1, e2, c⟩
    · rw [e1, e2]
      exact cla_fm h pi
    · rw [e1, e2]
      exact ⟨v, _, rfl, c, cla_fm h pi⟩
theorem cla_app {F : Hp} : ∀ {φs ψs : List VP} {vs us : List L2.V}, ClA φs F vs → ClA ψs F us → ClA (φs ++ ψs) F (vs ++ us)
  | [], _, _, _, h, g => by
    have e : _ = [] := h
    subst e
    exact g
  | φ :: φs, _, _, _, ⟨v, r, e, h1, h2⟩, g => by
    subst e
    exact ⟨v, _, rfl, h1, cla_app h2 g⟩
theorem cla_kperm {F : Hp} {φs ψs : List VP} {vs us : List L2.V} {n m : Nat} {pi : List Nat} (h : ClA φs F vs) (g : ClA ψs F us) : ClA (kperm n m pi φs ψs) F (kperm n m pi vs us) := by
  unfold kperm
  rw [cla_len h, cla_len g]
  split
  · exact cla_fm (cla_app h g) pi
  · rfl
theorem ex_callk0 {ψs : List VP} {pi : List Nat} (B : Bd X N V G k) (hj : G[gi]? = some x) (c : Cal X.prog X.w X.K X.mg X.base j x st pn (spZ ps pre m res post)) (hl : j ≤ k) (kw : KwOk x st pn ks 0 pi) (hpn : 0 < pn.length) {a : α} {b : β} (hm : m a = some b) (hk : KX X es os kws ψs (pre a ++ rest))
    (hp : ps a = kperm 0 ks.length pi [] ψs)
    (hall : (backToKw pos (keywordEach kws X.env)).all (·.1.isSome) = true := by rfl) (hks : (backToKw pos (keywordEach kws X.env)).filterMap (·.1) = ks := by rfl)
    (hpl : ((backTo pos (starEach [] X.env)).any (·.1) || (backToKw pos (keywordEach kws X.env)).any (·.1.isNone)) = false := by rfl) : EX X es os (.Call (.Name x p) [] kws pos) (res a b) (post a b ++ rest) := fun F σ H Q ow sl q =>
  let ⟨u, v⟩ := B.gl x (List.mem_of_getElem? hj)
  we_of (pe_gk0 (c.mono hl) kw hpn B.gd B.room u pk_u (dun_d v) hall hks hpl) (hk F σ H ow sl _ fun F2 H2 zs e2 o2 c2 =>
    ⟨a, b, F2, rest, by rw [hp]; exact cla_kperm (φs := []) (vs := []) rfl c2, o2, hm, fun F3 H3 v e3 o3 c3 => q F3 H3 v (e2.trans e3) o3 c3⟩)
end
end Z
namespace Z
open PySem PySem.Spec PyProof.Rows L2
/-- what a body's statements need beside Bd -/
structure Bt (X : Cx) (V : List Str) : Prop where
  fn : ∀ x, X.fn x = true
  loc : ∀ x ∈ V, Loc X.env.scope x
  po : PassesOwn (model X.prog X.w) X.A X.env X.xe
/-- the state fits -/
def At (F0 : Hp) (es : List Slot) (os : Os) (σ : L2.St) (H : Hp) : Prop := ∃ F, Same F0 F ∧ Ow F os H ∧ Sl F es σ
section
variable {X : Cx} {es es' : List Slot} {os os1 os2 : Os} {F0 : Hp} {rest : List Stmt} {D : Ends} {N V G W : List Str} {k i vi : Nat} {x : Str} {pos pos' : Pos} {e : Expr} {φ : VP} {n : Ent}
theorem SX.at (h : SX X es os F0 rest D) {σ : L2.St} {H : Hp} (a : At F0 es os σ H) : WPs X rest D σ H := let ⟨F, s, ow, sl⟩ := a; h F σ H s ow sl
theorem SX.perm (h : SX X es os F0 rest D) (p : os1.Perm os) : SX X es os1 F0 rest D := fun F σ H s ow sl => h F σ H s (ow.perm p) sl
theorem SX.weak (h : SX X es' os F0 rest D) (w : Wk es es') : SX X es os F0 rest D := fun F σ H s ow sl => h F σ H s ow (sl.weak w)
theorem SX.drop {q : Addr × Ent} (h : SX X es os F0 rest D) : SX X es (q :: os) F0 rest D := fun F σ H s ow sl => h F σ H s ow.drop sl
theorem sx_nil (h : ∀ σ H, At F0 es os σ H → D.nx σ H) : SX X es os F0 [] D := fun F σ H s ow sl => wps_nil (h σ H ⟨F, s, ow, sl⟩)
/-- behind a branch the rest goes on -/
theorem sx_fall {D' : Ends} (h : SX X es os F0 rest D') (e : D.nx = WPs X rest D') : SX X es os F0 [] D := sx_nil fun σ H a => by
  rw [e]
  exact h.at a
theorem sx_asg (B : Bd X N W G k) (T : Bt X V) (hi : N[i]? = some x) (hv : V[vi]? = some x) (he : EX X es os e φ os1) (h : SX X (es.set i (sl φ)) os1 F0 rest D) (hs : swapsWith e (some (.Name x pos')) pos.line X.env = pure false := by rfl) :
    SX X es os F0 (.Assign [.Name x pos'] e pos :: rest) D := fun F σ H s ow sl =>
  wps_cons (ws_of (ps_set (B.hN ▸ B.nd) (B.hN ▸ hi) (T.loc x (List.mem_of_getElem? hv)) pe_u hs (.inl (T.fn x))) (he F σ H _ ow sl fun F1 H1 v e1 o1 c1 => h F1 _ H1 (s.trans e1) o1 ((sl.mono e1).put c1)))
theorem sx_asgN (B : Bd X N W G k) (T : Bt X V) (hi : N[i]? = some x) (hv : V[vi]? = some x) (he : EN X es os e n os1) (h : ∀ p, SX X (es.set i (sl (own p))) ((p, n) :: os1) F0 rest D) (hs : swapsWith e (some (.Name x pos')) pos.line X.env = pure false := by rfl) :
    SX X es os F0 (.Assign [.Name x pos'] e pos :: rest) D := fun F σ H s ow sl =>
  wps_cons (ws_of (ps_set (B.hN ▸ B.nd) (B.hN ▸ hi) (T.loc x (List.mem_of_getElem? hv)) pe_u hs (.inl (T.fn x))) (he F σ H _ ow sl fun F1 H1 p e1 o1 => h p F1 _ H1 (s.trans e1) o1 ((sl.mono e1).put cl_own)))
theorem sx_expr (he : EX X es os e φ os1) (h : SX X es os1 F0 rest D) (hs : swapsWith e none pos.line X.env = pure false := by rfl) : SX X es os F0 (.Expr e pos :: rest) D := fun F σ H s ow sl =>
  wps_cons (ws_of (ps_expr pe_u hs) (he F σ H _ ow sl fun F1 H1 v e1 o1 c1 => h F1 σ H1 (s.trans e1) o1 (sl.mono e1)))
theorem sx_ret (he : EX X es os e φ os1) (h : ∀ F H v, Same F0 F → Ow F os1 H → Cl φ F v → D.rt v H) : SX X es os F0 (.Return (some e) pos :: rest) D := fun F σ H s ow sl =>
  wps_cons (ws_of (ps_ret pe_u) (he F σ H _ ow sl fun F1 H1 v e1 o1 c1 => h F1 H1 v (s.trans e1) o1 c1))
theorem sx_retN (he : EN X es os e n os1) (h : ∀ F H p, Same F0 F → Ow F ((p, n) :: os1) H → D.rt (.ref p) H) : SX X es os F0 (.Return (some e) pos :: rest) D := fun F σ H s ow sl =>
  wps_cons (ws_of (ps_ret pe_u) (he F σ H _ ow sl fun F1 H1 v e1 o1 => h F1 H1 v (s.trans e1) o1))
theorem sx_if {c : Expr} {a b : List Stmt} {t : Bool} (hc : TX X es os c t os1) (ha : t = true → SX X es os1 F0 a { D with nx := WPs X rest D }) (hb : t = false → SX X es os1 F0 b { D with nx := WPs X rest D }) : SX X es os F0 (.If c a b pos :: rest) D := fun F σ H s ow sl =>
  wps_cons (ws_of (ps_if pt_u pss_u pss_u) (hc F σ H _ ow sl fun F1 H1 e1 o1 => by
    cases t with
    | true =>
      rw [if_pos rfl]
      exact ha rfl F1 σ H1 (s.trans e1) o1 (sl.mono e1)
    | false =>
      rw [if_neg Bool.false_ne_true]
      exact hb rfl F1 σ H1 (s.trans e1) o1 (sl.mono e1)))
/-- x += e (ints) -/
theorem sx_addI {a b : Int} (B : Bd X N W G k) (T : Bt X V) (hi : N[i]? = some x) (hv : V[vi]? = some x) (hx : es[i]? = some (sl (dat (.int a)))) (he : EX X es os e (dat (.int b)) os1) (h : SX X (es.set i (sl (dat (.int (a + b))))) os1 F0 rest D) :
    SX X es os F0 (.AugAssign (.Name x pos') .Add e pos :: rest) D := fun F σ H s ow sl => by
  obtain ⟨v, ev, cv⟩ := sl.val hx
  refine wps_cons (ws_of (ps_aug (B.hN ▸ B.nd) (B.hN ▸ hi) (T.loc x (List.mem_of_getElem? hv)) pe_u ip_add (.inl (T.fn x))) ⟨v, ev, he F σ H _ ow sl fun F1 H1 y e1 o1 c1 => ?_⟩)
  exact ⟨a, b, clv_int cv, clv_int c1, h F1 _ H1 (s.trans e1) o1 ((sl.mono e1).put (cl_dat (.int _)))⟩
def WG (X : Cx) (tg : Expr) : TG := fun v σ H Q => ∀ pins s u, Inv X pins σ H s → RelV v u → wpAny (model X.prog X.w) X.A (assign tg X.env u) (fun _ s' => ∃ σ' H', Inv X pins σ' H' s' ∧ Q σ' H') X.xe s
theorem pg_u {tg : Expr} : PG X tg (WG X tg) := ⟨fun pins s _ _ _ u _ I r h => h pins s u I r⟩
theorem wg_of {tg : Expr} {g : TG} {v : L2.V} {σ : L2.St} {H : Hp} {Q : L2.St → Hp → Prop} (h : PG X tg g) (q : g v σ H Q) : WG X tg v σ H Q := fun pins s u I r => h.run pins s σ H v u Q I r q
/-- to assign a value of φ to tg changes the slots as f tells -/
def GX (X : Cx) (tg : Expr) (φ : VP) (f : List Slot → List Slot) : Prop := ∀ es os F σ H v Q, Ow F os H → Sl F es σ → Cl φ F v → (∀ σ', Sl F (f es) σ' → Q σ' H) → WG X tg v σ H Q
theorem gx_name (B : Bd X N W G k) (T : Bt X V) (hi : N[i]? = some x) (hv : V[vi]? = some x) : GX X (.Name x pos) φ (fun es => es.set i (sl φ)) := fun es os F σ H v Q ow sl c q =>
  wg_of (pg_name (B.hN ▸ B.nd) (B.hN ▸ hi) (T.loc x (List.mem_of_getElem? hv)) (.inl (T.fn x))) (q _ (sl.put c))
theorem gx_pair {a b : Expr} {kk : Nat} {d1 d2 : PyData} {f g : List Slot → List Slot} (B : Bd X N W G k) (h1 : GX X a (dat d1) f) (h2 : GX X b (dat d2) g) (hn : (assignEach [a, b] X.env).length = 2 := by rfl) (hst : (assignEach [a, b] X.env).findIdx? (·.1) = none := by rfl)
    (hs : (assignEach [a, b] X.env).map (·.2) = assign a X.env :: (assignEach [b] X.env).map (·.2) := by rfl) (hs2 : (assignEach [b] X.env).map (·.2) = assign b X.env :: (assignEach [] X.env).map (·.2) := by rfl) :
    GX X (.Tuple [a, b] kk pos) (dat (.tuple [d1, d2])) (fun es => g (f es)) := fun es os F σ H v Q ow sl c q => by
  obtain ⟨p, vs, rfl, hp, hv⟩ := rdt_dat F v c
  cases hv with
  | cons k1 r =>
    cases r with
    | cons k2 r =>
      cases r
      refine wg_of (pg_tup (n := 2) B.calm (pgs_cons pg_u (pgs_cons pg_u pgs_nil hs2) hs) hn hst) ⟨p, _, rfl, .of (ow.ex _ _ hp), rfl, _, _, rfl, ?_⟩
      refine h1 es os F σ H _ _ ow sl (cl_dat k1) fun σ1 s1 => ⟨_, _, rfl, ?_⟩
      exact h2 _ os F σ1 H _ _ ow s1 (cl_dat k2) fun σ2 s2 => ⟨rfl, q σ2 s2⟩
theorem gx_triple {a b c : Expr} {kk : Nat} {d1 d2 d3 : PyData} {f g h : List Slot → List Slot} (B : Bd X N W G k) (h1 : GX X a (dat d1) f) (h2 : GX X b (dat d2) g) (h3 : GX X c (dat d3) h) (hn : (assignEach [a, b, c] X.env).length = 3 := by rfl) (hst : (assignEach [a, b, c] X.env).findIdx? (·.1) = none := by rfl)
    (hs : (assignEach [a, b, c] X.env).map (·.2) = assign a X.env :: (assignEach [b, c] X.env).map (·.2) := by rfl) (hs2 : (assignEach [b, c] X.env).map (·.2) = assign b X.env :: (assignEach [c] X.env).map (·.2) := by rfl) (hs3 : (assignEach [c] X.env).map (·.2) = assign c X.env :: (assignEach [] X.env).map (·.2) := by rfl) :
    GX X (.Tuple [a, b, c] kk pos) (dat (.tuple [d1, d2, d3])) (fun es => h (g (f es))) := fun es os F σ H v Q ow sl c q => by
  obtain ⟨p, vs, rfl, hp, hv⟩ := rdt_dat F v c
  cases hv with
  | cons k1 r =>
    cases r with
    | cons k2 r =>
      cases r with
      | cons k3 r =>
        cases r
        refine wg_of (pg_tup (n := 3) B.calm (pgs_cons pg_u (pgs_cons pg_u (pgs_cons pg_u pgs_nil hs3) hs2) hs) hn hst) ⟨p, _, rfl, .of (ow.ex _ _ hp), rfl, _, _, rfl, ?_⟩
        refine h1 es os F σ H _ _ ow sl (cl_dat k1) fun σ1 s1 => ⟨_, _, rfl, ?_⟩
        refine h2 _ os F σ1 H _ _ ow s1 (cl_dat k2) fun σ2 s2 => ⟨_, _, rfl, ?_⟩
        exact h3 _ os F σ2 H _ _ ow s2 (cl_dat k3) fun σ3 s3 => ⟨rfl, q σ3 s3⟩
/-- a, b = e: e a tuple -/
theorem sx_unp {tg : Expr} {f : List Slot → List Slot} (hg : GX X tg φ f) (he : EX X es os e φ os1) (h : SX X (f es) os1 F0 rest D) (hs : swapsWithSole [tg] e pos.line X.env = pure false := by rfl) (hw : swappedStores [tg] e X.env = pure none := by rfl)
    (h1 : (assignEach [tg] X.env).map (·.2) = [assign tg X.env] := by rfl) : SX X es os F0 (.Assign [tg] e pos :: rest) D := fun F σ H s ow sl =>
  wps_cons (ws_of (ps_asg pe_u pg_u hs hw h1) (he F σ H _ ow sl fun F1 H1 v e1 o1 c1 => hg es os1 F1 σ H1 v _ o1 (sl.mono e1) c1 fun σ1 s1 => h F1 σ1 H1 (s.trans e1) o1 s1))
theorem ty_own {F H : Hp} {K : PySem.W.Frag} {p : Addr} {ds : List PyData} {j : Nat} (ow : Ow F os H) (hj : os[j]? = some (p, ol ds)) : ∃ vs, H p = some (.lst vs) ∧ DqAll F vs ds ∧ tyV K "list" (.ref p) H := by
  obtain ⟨_, vs, ho, hv⟩ := (ow.perm (perm_at hj)).atL
  exact ⟨vs, ho, hv, .inl ⟨rfl, vs, .of ho⟩⟩
/-- a list that is one's own is rewritten -/
theorem ow_set {F H : Hp} {p : Addr} {ds ds' : List PyData} {vs' : List L2.V} {j : Nat} (ow : Ow F os H) (hj : os[j]? = some (p, ol ds)) (h : DqAll F vs' ds') : Ow F (os.set j (p, ol ds')) (upd H p (.lst vs')) :=
  ((ow.perm (perm_at hj)).putL h).perm (perm_set hj)
theorem ex_append {a : Expr} {apos cpos : Pos} {p : Addr} {ds : List PyData} {d : PyData} {j : Nat} (ho : EX X es os a (own p) os) (he : EX X es os e (dat d) os1) (h0 : os[j]? = some (p, ol ds0)) (hj : os1[j]? = some (p, ol ds)) (hz : ds.length < sizeLine)
    (hbase : attributeBase a "append" X.env (eval a X.env) = eval a X.env := by rfl) (hline : (apos.endLine == cpos.line) = true := by rfl) (hs : starEach [e] X.env = (false, eval e X.env) :: starEach [] X.env := by rfl)
    (hfew : ((backTo cpos (starEach [e] X.env)).all (fun x => !x.1) && (backToKw cpos (keywordEach [] X.env)).all (fun x => x.1.isSome) && decide ([e].length + ([] : List Keyword).length + (if ([] : List Keyword).isEmpty then 0 else 1) < 30)) = true := by rfl)
    (hplain : (backTo cpos (starEach [] X.env)).any (·.1) = false := by rfl) : EX X es os (.Call (.Attribute a "append" apos) [e] [] cpos) (dat .none) (os1.set j (p, ol (ds ++ [d]))) := fun F σ H Q ow sl q =>
  we_of (pe_bm PySem.F.plainAttrs_list PySem.F.slot_list_append PySem.F.type_list_append mt_append pe_u pa_u hbase hfew hline hs hplain) (ho F σ H _ ow sl fun F1 H1 v e1 o1 c1 => by
    obtain rfl : v = .ref p := c1.now
    obtain ⟨_, _, _, ty⟩ := ty_own (K := X.K) o1 h0
    refine ⟨ty, wa_of (pa_cons pe_u pa_nil hs) (he F1 σ H1 _ o1 (sl.mono e1) fun F2 H2 u e2 o2 c2 => ?_)⟩
    obtain ⟨vs, hp, hv, _⟩ := ty_own (K := X.K) o2 hj
    exact ⟨p, vs, u, rfl, rfl, hp, by rw [dqall_len hv]; exact hz, q F2 _ .non (e1.trans e2) (ow_set o2 hj (dqall_app hv (.cons c2.now .nil))) (cl_dat .non)⟩)
theorem dqall_last {F : Hp} : ∀ {ds : List PyData} {vs : List L2.V} {d : PyData}, DqAll F vs ds → ds.getLast? = some d → ∃ v, vs[vs.length - 1]? = some v ∧ Dq F v d ∧ DqAll F vs.dropLast ds.dropLast := fun {ds vs d} h e => by
  rw [List.getLast?_eq_getElem?] at e
  obtain ⟨v, e2, hd⟩ := dqall_get' h e
  refine ⟨v, by rw [dqall_len h]; exact e2, hd, ?_⟩
  rw [List.dropLast_eq_take, List.dropLast_eq_take, dqall_len h]
  exact dqall_take _ h
theorem ex_pop {a : Expr} {apos cpos : Pos} {p : Addr} {ds : List PyData} {d : PyData} {j : Nat} (ho : EX X es os a (own p) os) (hj : os[j]? = some (p, ol ds)) (hd : ds.getLast? = some d)
    (hbase : attributeBase a "pop" X.env (eval a X.env) = eval a X.env := by rfl) (hline : (apos.endLine == cpos.line) = true := by rfl) : EX X es os (.Call (.Attribute a "pop" apos) [] [] cpos) (dat d) (os.set j (p, ol ds.dropLast)) := fun F σ H Q ow sl q =>
  we_of (pe_bm0 PySem.F.plainAttrs_list PySem.F.slot_list_pop PySem.F.type_list_pop mt_pop pe_u hbase hline) (ho F σ H _ ow sl fun F1 H1 v e1 o1 c1 => by
    obtain rfl : v = .ref p := c1.now
    obtain ⟨vs, hp, hv, ty⟩ := ty_own (K := X.K) o1 hj
    obtain ⟨u, eu, hu, hr⟩ := dqall_last hv hd
    exact ⟨ty, p, vs, u, rfl, rfl, hp, eu, q F1 _ u e1 (ow_set o1 hj hr) (cl_dat hu)⟩)
/-- xs[i] = e -/
theorem sx_setL {a b : Expr} {tpos : Pos} {p : Addr} {ds : List PyData} {d : PyData} {j m : Nat} {z : Int} (he : EX X es os e (dat d) os1) (ho : EX X es os1 a (own p) os1) (hb : EX X es os1 b (dat (.int z)) os2) (hj : os2[j]? = some (p, ol ds)) (hz : ixN ds.length z = some m) (h : SX X es (os2.set j (p, ol (ds.set m d))) F0 rest D)
    (hs : swapsWithSole [.Subscript a b tpos] e pos.line X.env = pure false := by rfl) (hw : swappedStores [.Subscript a b tpos] e X.env = pure none := by rfl) (h1 : (assignEach [.Subscript a b tpos] X.env).map (·.2) = [assign (.Subscript a b tpos) X.env] := by rfl)
    (hsub : ∀ v, assign (.Subscript a b tpos) X.env v = (do
      let ov ← holding [v] (eval a X.env)
      let iv ← holding [v, ov] (eval b X.env)
      standAt tpos
      holding [v, ov, iv] (setItem ov iv v)
      release [v, ov, iv] []) := by intro _; rfl) : SX X es os F0 (.Assign [.Subscript a b tpos] e pos :: rest) D := fun F σ H s ow sl =>
  wps_cons (ws_of (ps_asg pe_u (pg_sub pe_u pe_u set_list hsub) hs hw h1) (he F σ H _ ow sl fun F1 H1 v e1 o1 c1 => ho F1 σ H1 _ o1 (sl.mono e1) fun F2 H2 w e2 o2 c2 => hb F2 σ H2 _ o2 (sl.mono (e1.trans e2)) fun F3 H3 u e3 o3 c3 => by
    obtain rfl : w = .ref p := c2.now
    obtain ⟨vs, hp, hv, _⟩ := ty_own (K := X.K) o3 hj
    refine ⟨p, vs, z, m, rfl, clv_int c3, hp, by rw [dqall_len hv]; exact hz, ?_⟩
    have e := (e1.trans e2).trans e3
    exact h F3 σ _ (s.trans e) (ow_set o3 hj (dqall_set ((c1.mono e2).mono e3).now m hv)) (sl.mono e)))
end
end Z
namespace Z
open PySem PySem.Spec PyProof.Rows L2
/-- one turn after another; none: it raises -/
def lp {α S : Type} (f : S → α → Option S) : List α → S → Option S
  | [], s => some s
  | x :: xs, s => (f s x).bind (lp f xs)
inductive Step (R S : Type) where
  | go (s : S) | brk (s : S) | ret (r : R)
/-- what follows a turn -/
def Step.aft {R S : Type} (k : S → Option (Sum R S)) : Step R S → Option (Sum R S)
  | .go s => k s
  | .brk s => some (.inr s)
  | .ret r => some (.inl r)
/-- .. that may be left: inl, what is handed back; inr, the state behind -/
def lpR {α R S : Type} (f : S → α → Option (Step R S)) : List α → S → Option (Sum R S)
  | [], s => some (.inr s)
  | x :: xs, s => (f s x).bind (Step.aft (lpR f xs))
/-- while, at most so many turns -/
def wh {R S : Type} (c : S → Option Bool) (f : S → Option (Step R S)) : Nat → S → Option (Sum R S)
  | 0, _ => none
  | n + 1, s => (c s).bind fun b => if b = true then (f s).bind (Step.aft (wh c f n)) else some (.inr s)
/-- a comprehension whose element may change the state -/
def lcS {α β S : Type} (f : S → α → Option (Option β × S)) : List α → S → Option (List β × S)
  | [], s => some ([], s)
  | x :: xs, s => (f s x).bind fun t => (lcS f xs t.2).bind fun u => some (t.1.toList ++ u.1, u.2)
def range' (a b : Int) : List Int := (List.range (b - a).toNat).map fun (i : Nat) => a + (i : Int)
section
variable {X : Cx} {es : List Slot} {os os1 os2 : Os} {F0 : Hp} {rest : List Stmt} {D : Ends} {N V G W : List Str} {k i vi gi : Nat} {x : Str} {p pos : Pos} {e e2 : Expr} {α : Type}
def WI (X : Cx) (tg iter : Expr) (σ : L2.St) (H : Hp) (R : It → Hp → Prop) : Prop := ∀ pins s, Inv X pins σ H s →
    wpAny (model X.prog X.w) X.A (eval iter X.env) (fun v s1 => wpAny (model X.prog X.w) X.A (pyIter v) (PIE X pins σ tg R) X.xe s1) X.xe s
theorem pi_u {tg iter : Expr} : PI X tg iter (WI X tg iter) := ⟨fun pins s _ _ _ I h => h pins s I⟩
theorem wi_of {tg iter : Expr} {w : TI} {σ : L2.St} {H : Hp} {R : It → Hp → Prop} (h : PI X tg iter w) (q : w σ H R) : WI X tg iter σ H R := fun pins s I => h.run pins s σ H R I q
/-- J yields the xs, as vp tells of each, from F on, while c holds of what is owned -/
def Good (J : It) (F : Hp) (xs : List α) (vp : α → VP) (c : Os → Prop) : Prop := ∀ F2 H2 os2 i, Same F F2 → Ow F2 os2 H2 → c os2 →
  (xs.length ≤ i → J.stop i H2) ∧ ∀ x, xs[i]? = some x → J.go i H2 ∧ ∀ v H3, J.yld i H2 v H3 → ∃ F3, Same F2 F3 ∧ Ow F3 os2 H3 ∧ Cl (vp x) F3 v
def IX (X : Cx) (tg : Expr) (es : List Slot) (os : Os) (iter : Expr) (xs : List α) (vp : α → VP) (c : Os → Prop) (os' : Os) : Prop := ∀ F σ H R, Ow F os H → Sl F es σ → (∀ F' H' J, Same F F' → Ow F' os' H' → Good J F' xs vp c → R J H') → WI X tg iter σ H R
def anyOs : Os → Prop := fun _ => True
theorem range_get {n i : Nat} {lo x : Int} (h : ((List.range n).map fun (i : Nat) => lo + (i : Int))[i]? = some x) : i < n ∧ x = lo + (i : Int) := by
  rw [List.getElem?_map] at h
  by_cases hi : i < n
  · rw [List.getElem?_range hi] at h
    exact ⟨hi, (Option.some.inj h).symm⟩
  · rw [List.getElem?_eq_none (by rw [List.length_range]; omega)] at h
    cases h
theorem good_range {F : Hp} {lo : Int} {n : Nat} : Good (Itr lo n) F ((List.range n).map fun (i : Nat) => lo + (i : Int)) (fun x => dat (.int x)) anyOs := fun F2 H2 os2 i s ow _ => by
  refine ⟨fun h => show n ≤ i by simpa using h, fun x hx => ?_⟩
  obtain ⟨h1, rfl⟩ := range_get hx
  refine ⟨h1, fun v H3 y => ?_⟩
  obtain ⟨rfl, rfl⟩ := y
  exact ⟨F2, Same.refl F2, ow, cl_dat (.int _)⟩
theorem ix_range1 {tg : Expr} {b : Int} (B : Bd X N W G k) (hj : G[gi]? = some "range") (hm : X.mg "range" = none) (hb : -(2 ^ 62) ≤ b ∧ b < 2 ^ 62) (ha : EX X es os e (dat (.int b)) os1) (hs : starEach [e] X.env = [(false, eval e X.env)] := by rfl) :
    IX X tg es os (.Call (.Name "range" p) [e] [] pos) (range' 0 b) (fun x => dat (.int x)) anyOs os1 := fun F σ H R ow sl q =>
  wi_of (pi_range1 (B.gl _ (List.mem_of_getElem? hj)).1 hm pa_u hs) (wa_of (pa_cons pe_u pa_nil hs) (ha F σ H _ ow sl fun F1 H1 v e1 o1 c1 => ⟨b, by rw [clv_int c1], hb.1, hb.2, q F1 H1 _ e1 o1 (by
    have := good_range (F := F1) (lo := 0) (n := b.toNat)
    unfold range'
    rw [Int.sub_zero]
    exact this)⟩))
theorem ix_range2 {tg : Expr} {a b : Int} (B : Bd X N W G k) (hj : G[gi]? = some "range") (hm : X.mg "range" = none) (hab : -(2 ^ 62) ≤ a ∧ a < 2 ^ 62 ∧ -(2 ^ 62) ≤ b ∧ b < 2 ^ 62) (ha : EX X es os e (dat (.int a)) os1) (hb : EX X es os1 e2 (dat (.int b)) os2)
    (hs : starEach [e, e2] X.env = [(false, eval e X.env), (false, eval e2 X.env)] := by rfl) (hs2 : starEach [e2] X.env = [(false, eval e2 X.env)] := by rfl) :
    IX X tg es os (.Call (.Name "range" p) [e, e2] [] pos) (range' a b) (fun x => dat (.int x)) anyOs os2 := fun F σ H R ow sl q =>
  wi_of (pi_range2 (B.gl _ (List.mem_of_getElem? hj)).1 hm pa_u hs hs2) (wa_of (pa_cons pe_u (pa_cons pe_u pa_nil hs2) (by rw [hs, hs2])) (ha F σ H _ ow sl fun F1 H1 v e1 o1 c1 => hb F1 σ H1 _ o1 (sl.mono e1) fun F2 H2 u e2 o2 c2 =>
    ⟨a, b, by rw [clv_int c1, clv_int c2], hab, q F2 H2 _ (e1.trans e2) o2 good_range⟩))
theorem dqall_map {F : Hp} {xs : List α} {enc : α → PyData} {vs : List L2.V} {i : Nat} {x : α} (h : DqAll F vs (xs.map enc)) (e : xs[i]? = some x) : ∃ v, vs[i]? = some v ∧ Dq F v (enc x) := dqall_get' h (by rw [List.getElem?_map, e]; rfl)
/-- a list (read as rl tells) -/
theorem ix_list {tg : Expr} {φ : VP} {xs : List α} {enc : α → PyData} {c : Os → Prop} (he : EX X es os e φ os1) (hc : ∀ o, c o → RdL X φ o (xs.map enc)) (h0 : c os1) : IX X tg es os e xs (fun x => dat (enc x)) c os1 := fun F σ H R ow sl q =>
  wi_of (pi_list pe_u) (he F σ H _ ow sl fun F1 H1 v e1 o1 c1 => by
    obtain ⟨a, vs, rfl, h1, h2⟩ := hc os1 h0 F1 H1 v o1 c1
    refine ⟨a, rfl, ⟨vs, h1⟩, q F1 H1 _ e1 o1 fun F2 H2 os2 i s ow2 k2 => ?_⟩
    obtain ⟨a', us, ea, g1, g2⟩ := hc os2 k2 F2 H2 _ ow2 (c1.mono s)
    cases ea
    have hl := dqall_len g2
    rw [List.length_map] at hl
    refine ⟨fun h => ⟨us, g1, by omega⟩, fun x hx => ?_⟩
    obtain ⟨u, hu, hd⟩ := dqall_map g2 hx
    refine ⟨⟨us, u, g1, hu⟩, fun w H3 y => ?_⟩
    obtain ⟨rfl, hy⟩ := y
    have ew : us[i]? = some w := hy us g1
    rw [hu] at ew
    cases ew
    exact ⟨F2, Same.refl F2, ow2, cl_dat hd⟩)
theorem ix_tup {tg : Expr} {φ : VP} {xs : List α} {enc : α → PyData} (he : EX X es os e φ os1) (hr : RdT φ (xs.map enc)) : IX X tg es os e xs (fun x => dat (enc x)) anyOs os1 := fun F σ H R ow sl q =>
  wi_of (pi_tup pe_u) (he F σ H _ ow sl fun F1 H1 v e1 o1 c1 => by
    obtain ⟨a, vs, rfl, h1, h2⟩ := hr F1 v c1
    refine ⟨a, rfl, ⟨vs, .of (o1.ex _ _ h1)⟩, q F1 H1 _ e1 o1 fun F2 H2 os2 i s ow2 k2 => ?_⟩
    have g1 := ow2.ex _ _ (s _ _ h1)
    have g2 := dqall_mono s _ _ h2
    have hl := dqall_len g2
    rw [List.length_map] at hl
    refine ⟨fun h => ⟨vs, .of g1, by omega⟩, fun x hx => ?_⟩
    obtain ⟨u, hu, hd⟩ := dqall_map g2 hx
    refine ⟨⟨vs, u, .of g1, hu⟩, fun w H3 y => ?_⟩
    obtain ⟨rfl, hy⟩ := y
    have ew : vs[i]? = some w := hy vs (.of g1)
    rw [hu] at ew
    cases ew
    exact ⟨F2, Same.refl F2, ow2, cl_dat hd⟩)
theorem zipIdx_get {xs : List α} {i : Nat} {z : Int × α} (h : (xs.zipIdx.map fun y => ((y.2 : Int), y.1))[i]? = some z) : z.1 = (i : Int) ∧ xs[i]? = some z.2 := by
  rw [List.getElem?_map, List.getElem?_zipIdx] at h
  cases e : xs[i]? with
  | none =>
    rw [e] at h
    cases h
  | some x =>
    rw [e] at h
    have := Option.some.inj h
    subst this
    exact ⟨by simp, rfl⟩
/-- enumerate(a list) -/
def enum {α : Type} (xs : List α) : List (Int × α) := xs.zipIdx.map fun y => ((y.2 : Int), y.1)
theorem enum_len {xs : List α} : (enum xs).length = xs.length := by
  unfold enum
  rw [List.length_map, List.length_zipIdx]
theorem drop_cons' {xs : List α} {i : Nat} {x : α} (h : xs[i]? = some x) : xs.drop i = x :: xs.drop (i + 1) := by
  obtain ⟨h1, h2⟩ := List.getElem?_eq_some_iff.mp h
  rw [List.drop_eq_getElem_cons h1, h2]
/-- what a turn is to reach -/
def LpD {R S γ : Type} (F0 : Hp) (ES : S → γ → List Slot) (OS : S → γ → Os) (RT : R → L2.V → Hp → Prop) (t : Step R S) : Ends where
  nx := fun σ H => ∃ s g, t = .go s ∧ At F0 (ES s g) (OS s g) σ H
  ct := fun σ H => ∃ s g, t = .go s ∧ At F0 (ES s g) (OS s g) σ H
  bk := fun σ H => ∃ s g, t = .brk s ∧ At F0 (ES s g) (OS s g) σ H
  rt := fun v H => ∃ r, t = .ret r ∧ RT r v H
/-- a loop that may be left. γ: what changes beside the mirror's state (addresses) -/
theorem sx_forR {R S γ : Type} {tg iter : Expr} {body : List Stmt} {xs : List α} {vp : α → VP} {c : Os → Prop} {up : α → List Slot → List Slot} {fpos : Pos} (f : S → α → Option (Step R S)) (ES : S → γ → List Slot) (OS : S → γ → Os) (RT : R → L2.V → Hp → Prop)
    (B : Bd X N W G k) (T : Bt X V) (hg : ∀ x, GX X tg (vp x) (up x)) (s0 : S) (g0 : γ) (o : Sum R S) (hl : lpR f xs s0 = some o) (hi : IX X tg es os iter xs vp c (OS s0 g0)) (h0 : Wk es (ES s0 g0)) (hc : ∀ s g, c (OS s g))
    (hb : ∀ F1, Same F0 F1 → ∀ s g x t, x ∈ xs → f s x = some t → SX X (up x (ES s g)) (OS s g) F1 body (LpD F1 ES OS RT t))
    (hn : ∀ s g, o = .inr s → SX X (ES s g) (OS s g) F0 rest D) (hr : ∀ r v H, o = .inl r → RT r v H → D.rt v H) (hs : ∀ x, foldedSetIterable iter X.env x = pure x := by intro _; rfl) : SX X es os F0 (.For tg iter body [] fpos :: rest) D := fun F σ H s ow sl => by
  refine wps_cons (ws_of (ps_for T.po B.calm pi_u pg_u pss_u hs) (hi F σ H _ ow sl fun F1 H1 J e1 o1 good => ?_))
  refine ⟨fun i m σ' H' => m = xs.length - i ∧ i ≤ xs.length ∧ ∃ s' g', lpR f (xs.drop i) s' = some o ∧ ∃ F', Same F1 F' ∧ Ow F' (OS s' g') H' ∧ Sl F' (ES s' g') σ', ⟨_, rfl, Nat.zero_le _, s0, g0, hl, F1, Same.refl F1, o1, (sl.mono e1).weak h0⟩, ?_⟩
  rintro i m σ' H' ⟨rfl, hi, s', g', hl', F', e', o', sl'⟩
  obtain ⟨stop, go⟩ := good F' H' (OS s' g') i e' o' (hc s' g')
  cases hx : xs[i]? with
  | none =>
    have hi2 : xs.length ≤ i := List.getElem?_eq_none_iff.mp hx
    refine .inl ⟨stop hi2, ?_⟩
    rw [List.drop_eq_nil_of_le hi2] at hl'
    cases hl'
    exact hn s' g' rfl F' σ' H' ((s.trans e1).trans e') o' sl'
  | some x =>
    obtain ⟨hgo, hy⟩ := go x hx
    have hlt : i < xs.length := (List.getElem?_eq_some_iff.mp hx).1
    rw [drop_cons' hx] at hl'
    cases hf : f s' x with
    | none =>
      unfold lpR at hl'
      rw [hf] at hl'
      cases hl'
    | some t =>
      unfold lpR at hl'
      rw [hf] at hl'
      have hl2 : Step.aft (lpR f (xs.drop (i + 1))) t = some o := hl'
      refine .inr ⟨hgo, fun σ2 H2 => ∃ s2 g2, t = .go s2 ∧ ∃ F2, Same F1 F2 ∧ Ow F2 (OS s2 g2) H2 ∧ Sl F2 (ES s2 g2) σ2, ?_, ?_⟩
      · rintro σ2 H2 ⟨s2, g2, rfl, F2, e2, o2, sl2⟩
        exact ⟨_, by omega, rfl, by omega, s2, g2, hl2, F2, e2, o2, sl2⟩
      · intro v H3 yv
        obtain ⟨F3, e3, o3, c3⟩ := hy v H3 yv
        refine hg x _ _ F3 σ' H3 v _ o3 (sl'.mono e3) c3 fun σ4 sl4 => ?_
        have key := hb F1 (s.trans e1) s' g' x t (List.mem_of_getElem? hx) hf
        have q3 : Same F1 F3 := e'.trans e3
        -- the body, from F3; its ends are at least as strong as is wanted
        intro pins sh I
        refine wpAny_mono (key F3 σ4 H3 q3 o3 sl4 pins sh I) (fun fl s5 z => ?_) fun _ _ z => z
        cases fl with
        | next =>
          obtain ⟨σ5, H5, J5, s5', g5, et, F5, e5, o5, sl5⟩ := z
          exact ⟨σ5, H5, J5, s5', g5, et, F5, e5, o5, sl5⟩
        | cont =>
          obtain ⟨σ5, H5, J5, s5', g5, et, F5, e5, o5, sl5⟩ := z
          exact ⟨σ5, H5, J5, s5', g5, et, F5, e5, o5, sl5⟩
        | brk =>
          obtain ⟨σ5, H5, J5, s5', g5, et, F5, e5, o5, sl5⟩ := z
          subst et
          cases hl2
          exact ⟨σ5, H5, J5, hn s5' g5 rfl F5 σ5 H5 ((s.trans e1).trans e5) o5 sl5⟩
        | ret u =>
          obtain ⟨w, σ5, H5, J5, rv, r, et, rr⟩ := z
          subst et
          cases hl2
          exact ⟨w, σ5, H5, J5, rv, hr r w H5 rfl rr⟩
end
end Z
namespace Z
open PySem PySem.Spec PyProof.Rows L2
theorem lp_lpR {α S : Type} (f : S → α → Option S) : ∀ (xs : List α) (s fin : S), lp f xs s = some fin → lpR (R := Empty) (fun s x => (f s x).map Step.go) xs s = some (.inr fin)
  | [], s, fin, h => by
    cases h
    rfl
  | x :: xs, s, fin, h => by
    unfold lp at h
    unfold lpR
    cases e : f s x with
    | none =>
      rw [e] at h
      cases h
    | some s' =>
      rw [e] at h
      exact lp_lpR f xs s' fin h
section
variable {X : Cx} {es : List Slot} {os os1 os2 : Os} {F0 : Hp} {rest : List Stmt} {D : Ends} {N V G W : List Str} {k i vi gi : Nat} {x : Str} {p pos : Pos} {e e2 : Expr} {α : Type}
/-- what a turn of a plain loop is to reach -/
def LgD {S γ : Type} (F0 : Hp) (ES : S → γ → List Slot) (OS : S → γ → Os) (s : S) : Ends where
  nx := fun σ H => ∃ g, At F0 (ES s g) (OS s g) σ H
  ct := fun σ H => ∃ g, At F0 (ES s g) (OS s g) σ H
  bk := fun _ _ => False
  rt := fun _ _ => False
theorem sx_for {S γ : Type} {tg iter : Expr} {body : List Stmt} {xs : List α} {vp : α → VP} {c : Os → Prop} {up : α → List Slot → List Slot} {fpos : Pos} (f : S → α → Option S) (ES : S → γ → List Slot) (OS : S → γ → Os)
    (B : Bd X N W G k) (T : Bt X V) (hg : ∀ x, GX X tg (vp x) (up x)) (s0 : S) (g0 : γ) (fin : S) (hl : lp f xs s0 = some fin) (hi : IX X tg es os iter xs vp c (OS s0 g0)) (h0 : Wk es (ES s0 g0)) (hc : ∀ s g, c (OS s g))
    (hb : ∀ F1, Same F0 F1 → ∀ s g x s', x ∈ xs → f s x = some s' → SX X (up x (ES s g)) (OS s g) F1 body (LgD F1 ES OS s'))
    (hn : ∀ g, SX X (ES fin g) (OS fin g) F0 rest D) (hs : ∀ x, foldedSetIterable iter X.env x = pure x := by intro _; rfl) : SX X es os F0 (.For tg iter body [] fpos :: rest) D := by
  refine sx_forR (R := Empty) (fun s x => (f s x).map Step.go) ES OS (fun _ _ _ => False) B T hg s0 g0 (.inr fin) (lp_lpR f xs s0 fin hl) hi h0 hc (fun F1 h1 s g x t hx ht => ?_) (fun s g e => ?_) (fun r _ _ _ z => z.elim) hs
  · cases e : f s x with
    | none =>
      rw [e] at ht
      cases ht
    | some s' =>
      rw [e] at ht
      cases ht
      intro F σ H a b c pins sh I
      refine wpAny_mono (hb F1 h1 s g x s' hx e F σ H a b c pins sh I) (fun fl s5 z => ?_) fun _ _ z => z
      cases fl with
      | next =>
        obtain ⟨σ5, H5, J5, g5, a5⟩ := z
        exact ⟨σ5, H5, J5, s', g5, rfl, a5⟩
      | cont =>
        obtain ⟨σ5, H5, J5, g5, a5⟩ := z
        exact ⟨σ5, H5, J5, s', g5, rfl, a5⟩
      | brk =>
        obtain ⟨σ5, H5, J5, z⟩ := z
        exact z.elim
      | ret u =>
        obtain ⟨w, σ5, H5, J5, rv, z⟩ := z
        exact z.elim
  · cases e
    exact hn g
theorem sx_while {R S γ : Type} {cd : Expr} {body : List Stmt} {fpos : Pos} (c : S → Option Bool) (f : S → Option (Step R S)) (ES : S → γ → List Slot) (OS : S → γ → Os) (RT : R → L2.V → Hp → Prop)
    (T : Bt X V) (n : Nat) (s0 : S) (g0 : γ) (o : Sum R S) (hl : wh c f n s0 = some o) (h0 : Wk es (ES s0 g0)) (ho : os = OS s0 g0)
    (hc : ∀ s g b, c s = some b → TX X (ES s g) (OS s g) cd b (OS s g))
    (hb : ∀ F1, Same F0 F1 → ∀ s g t, c s = some true → f s = some t → SX X (ES s g) (OS s g) F1 body (LpD F1 ES OS RT t))
    (hn : ∀ s g, o = .inr s → SX X (ES s g) (OS s g) F0 rest D) (hr : ∀ r v H, o = .inl r → RT r v H → D.rt v H) : SX X es os F0 (.While cd body [] fpos :: rest) D := fun F σ H s ow sl => by
  subst ho
  refine wps_cons (ws_of (ps_while T.po pt_u pss_u) ⟨fun m σ' H' => ∃ s' g', wh c f m s' = some o ∧ At F (ES s' g') (OS s' g') σ' H', ⟨n, s0, g0, hl, F, Same.refl F, ow, sl.weak h0⟩, ?_⟩)
  rintro m σ' H' ⟨s', g', hl', F', e', o', sl'⟩
  cases m with
  | zero => cases hl'
  | succ m =>
    unfold wh at hl'
    cases hcs : c s' with
    | none =>
      rw [hcs] at hl'
      cases hl'
    | some b =>
      rw [hcs] at hl'
      refine hc s' g' b hcs F' σ' H' _ o' sl' fun F1 H1 e1 o1 => ?_
      cases b with
      | false =>
        have hl2 : some (.inr s') = some o := hl'
        cases hl2
        rw [if_neg Bool.false_ne_true]
        exact hn s' g' rfl F1 σ' H1 ((s.trans e').trans e1) o1 (sl'.mono e1)
      | true =>
        have hl2 : (f s').bind (Step.aft (wh c f m)) = some o := hl'
        rw [if_pos rfl]
        cases hf : f s' with
        | none =>
          rw [hf] at hl2
          cases hl2
        | some t =>
          rw [hf] at hl2
          have hl3 : Step.aft (wh c f m) t = some o := hl2
          refine ⟨fun σ2 H2 => ∃ s2 g2, t = .go s2 ∧ At F (ES s2 g2) (OS s2 g2) σ2 H2, ?_, ?_⟩
          · rintro σ2 H2 ⟨s2, g2, rfl, a2⟩
            exact ⟨m, Nat.lt_succ_self m, s2, g2, hl3, a2⟩
          · intro pins sh I
            refine wpAny_mono (hb F s s' g' t hcs hf F1 σ' H1 (e'.trans e1) o1 (sl'.mono e1) pins sh I) (fun fl s5 z => ?_) fun _ _ z => z
            cases fl with
            | next => exact z
            | cont => exact z
            | brk =>
              obtain ⟨σ5, H5, J5, s5', g5, et, F5, e5, o5, sl5⟩ := z
              subst et
              cases hl3
              exact ⟨σ5, H5, J5, hn s5' g5 rfl F5 σ5 H5 (s.trans e5) o5 sl5⟩
            | ret u =>
              obtain ⟨w, σ5, H5, J5, rv, r, et, rr⟩ := z
              subst et
              cases hl3
              exact ⟨w, σ5, H5, J5, rv, hr r w H5 rfl rr⟩
theorem sl_wipe {F : Hp} {σ : L2.St} (h : Sl F es σ) : ∀ vs : List Nat, (∀ j ∈ vs, ∃ s, es[j]? = some s ∧ s = un) → Sl F es (wipe σ vs)
  | [], _ => h
  | v :: vs, hv => by
    have ih := sl_wipe h vs fun j hj => hv j (List.mem_cons_of_mem _ hj)
    obtain ⟨s, e, eu⟩ := hv v List.mem_cons_self
    subst eu
    have := ih.set (i := v) (s := un) (o := none) fun _ _ => trivial
    have e2 : es.set v un = es := by
      refine List.ext_getElem? fun j => ?_
      by_cases hj : v = j
      · subst hj
        rw [List.getElem?_set_self (List.getElem?_eq_some_iff.mp e).1, e]
      · rw [List.getElem?_set_ne hj]
    rw [e2] at this
    exact this
/-- the contexts in which the block of a comprehension runs -/
def Fam (X : Cx) (scope : Scope) (X' : Cx) : Prop := ∃ s H C cl fp, X' = X.blk s H scope (compEnvC scope cl C X.env) fp
/-- the tests of a comprehension: none, or one -/
inductive PTX (X : Cx) (es : List Slot) (os : Os) : List Expr → Bool → Os → Prop
  | nil : PTX X es os [] true os
  | one {c : Expr} {b : Bool} {os' : Os} : TX X es os c b os' → PTX X es os [c] b os'
def tIfs (X : Cx) (scope : Scope) (ifs : List Expr) : TT := fun σ H Q => match ifs with
  | [] => Q true H
  | [c] => ∀ X', Fam X scope X' → WT X' c σ H Q
  | _ => False
theorem pts_u {scope : Scope} {X' : Cx} (hf : Fam X scope X') : ∀ ifs : List Expr, PTs X' ifs (tIfs X scope ifs)
  | [] => pts_nil
  | [c] => pts_one ⟨fun pins s _ _ _ I h => h X' hf pins s I⟩
  | _ :: _ :: _ => ⟨fun _ _ _ _ _ _ h => h.elim⟩
def tElt (X : Cx) (scope : Scope) (e : Expr) : TE := fun σ H Q => ∀ X', Fam X scope X' → WE X' e σ H Q
theorem pe_elt {scope : Scope} {X' : Cx} (hf : Fam X scope X') : PE X' e (tElt X scope e) := ⟨fun pins s _ _ _ I h => h X' hf pins s I⟩
/-- the own names of a comprehension may be stored -/
def ownB (scope sc : Scope) (x : Str) : Bool := match (relS scope sc).names.lookup x with
  | some .local => true
  | some .cell => scope.names.lookup x == some .cell
  | _ => false
theorem pg_own {scope : Scope} {X' : Cx} {j : Nat} {y : Str} {tpos : Pos} (hf : Fam X scope X') (B : Bd X N W G k) (hj : N[j]? = some y) (ho : ownB scope X.env.scope y = true) : PG X' (.Name y tpos) (gName j) := by
  obtain ⟨s, H, C, cl, fp, rfl⟩ := hf
  unfold ownB at ho
  have e : (X.blk s H scope (compEnvC scope cl C X.env) fp).env.scope = relS scope X.env.scope := rfl
  split at ho
  · rename_i hl
    exact pg_name (B.hN ▸ B.nd) (B.hN ▸ hj) (.inl (by rw [e]; exact hl)) (.inr (by rw [e]; exact hl))
  · rename_i hl
    exact pg_name (B.hN ▸ B.nd) (B.hN ▸ hj) (.inr (by rw [e]; exact hl)) (.inl ho)
  · cases ho
/-- the state of a comprehension: the list so far, what is still to come -/
def LcS {S β : Type} (f : S → α → Option (Option β × S)) (OS : S → Os → Os) (enc : β → PyData) (xs : List α) (ys : List β) (sf : S) (os0 : Os) (Dl : Addr) (F1 : Hp) (i : Nat) (H : Hp) : Prop :=
  ∃ s d r F, lcS f (xs.drop i) s = some (r, sf) ∧ ys = d ++ r ∧ d.length ≤ i ∧ Same F1 F ∧ Ow F (OS s ((Dl, ol (d.map enc)) :: os0)) H
theorem lc_elt {S β : Type} {elt : Expr} {scope : Scope} {xs : List α} {enc : β → PyData} {f : S → α → Option (Option β × S)} {OS : S → Os → Os} {ys : List β} {sf : S} {os0 : Os} {Dl : Addr} {F1 F4 : Hp} {i : Nat} {up : List Slot} {t : Option β × S} {d r : List β} {σ : L2.St} {H4 : Hp} {os1 : Os}
    (hperm : ∀ s q tl, (OS s (q :: tl)).Perm (q :: OS s tl)) (hi : i < xs.length) (hz : xs.length < sizeLine) (hd : d.length ≤ i) (hr : ((lcS f (xs.drop (i + 1)) t.2).bind fun u => some (t.1.toList ++ u.1, u.2)) = some (r, sf)) (hy : ys = d ++ r)
    (e4 : Same F1 F4) (o4 : Ow F4 os1 H4) (sl : Sl F4 up σ) (key : ∀ X', Fam X scope X' → ∃ y, t.1 = some y ∧ EX X' up os1 elt (dat (enc y)) (OS t.2 ((Dl, ol (d.map enc)) :: os0))) :
    tElt X scope elt σ H4 fun y H5 => ∃ acc, H5 Dl = some (.lst acc) ∧ acc.length < sizeLine ∧ LcS f OS enc xs ys sf os0 Dl F1 (i + 1) (upd H5 Dl (.lst (acc ++ [y]))) := by
  intro X' hX'
  obtain ⟨y, hy1, he⟩ := key X' hX'
  refine he F4 σ H4 _ o4 sl fun F5 H5 v e5 o5 c5 => ?_
  have o6 := o5.perm (hperm t.2 _ os0)
  obtain ⟨_, vs, hu, hv⟩ := o6.atL
  have hl := dqall_len hv
  rw [List.length_map] at hl
  refine ⟨vs, hu, by omega, ?_⟩
  cases hu2 : lcS f (xs.drop (i + 1)) t.2 with
  | none =>
    rw [hu2] at hr
    cases hr
  | some w =>
    rw [hu2, hy1] at hr
    have hr2 : (y :: w.1, w.2) = (r, sf) := Option.some.inj hr
    obtain ⟨rfl, rfl⟩ := Prod.mk.inj hr2
    refine ⟨t.2, d ++ [y], w.1, F5, by rw [hu2], by rw [hy, List.append_assoc]; rfl, by rw [List.length_append, List.length_singleton]; omega, e4.trans e5, ?_⟩
    refine (o6.putL (ds' := (d ++ [y]).map enc) ?_).perm (hperm t.2 _ os0).symm
    rw [List.map_append]
    exact dqall_app hv (.cons c5.now .nil)
theorem lc_read {S β : Type} {elt iter tg : Expr} {ifs : List Expr} {scope : Scope} {vs : List Nat} {xs : List α} {vp : α → VP} {c : Os → Prop} {g : TG} {up : α → List Slot → List Slot} {enc : β → PyData} {f : S → α → Option (Option β × S)} {OS : S → Os → Os}
    {s0 : S} {os0 : Os} {ys : List β} {sf : S} (hv : ∀ j ∈ vs, es[j]? = some un) (hid : ∀ σ : L2.St, wipe (wipe σ vs) vs = wipe σ vs)
    (hg : ∀ x F σ H v Q os2, Sl F es σ → wipe σ vs = σ → Ow F os2 H → Cl (vp x) F v → (∀ σ', Sl F (up x es) σ' → wipe σ' vs = σ → Q σ' H) → g v σ H Q)
    (hif : ifs.length ≤ 1) (hl : lcS f xs s0 = some (ys, sf)) (hz : xs.length < sizeLine) (hi : IX X tg es os iter xs vp c (OS s0 os0)) (hc : ∀ s tl, c (OS s tl)) (hperm : ∀ s q tl, (OS s (q :: tl)).Perm (q :: OS s tl))
    (hb : ∀ s x t tl, x ∈ xs → f s x = some t → ∃ b os1, ∀ X', Fam X scope X' → PTX X' (up x es) (OS s tl) ifs b os1 ∧ (b = true → ∃ y, t.1 = some y ∧ EX X' (up x es) os1 elt (dat (enc y)) (OS t.2 tl)) ∧ (b = false → t.1 = none ∧ os1 = OS t.2 tl))
    {F σ H Q} (ow : Ow F os H) (sl : Sl F es σ) (q : ∀ F' H' p, Same F F' → Ow F' ((p, ol (ys.map enc)) :: OS sf os0) H' → Q (.ref p) H') : tLc (WI X tg iter) g (tIfs X scope ifs) (tElt X scope elt) vs σ H Q := by
  refine hi F σ H _ ow sl fun F1 H1 J e1 o1 good Dl hD => ?_
  refine ⟨fun i m H => m = xs.length - i ∧ i ≤ xs.length ∧ LcS f OS enc xs ys sf os0 Dl F1 i H, ⟨_, rfl, Nat.zero_le _, s0, [], ys, F1, hl, rfl, Nat.le_refl _, Same.refl F1, ?_⟩, ?_⟩
  · exact (o1.new hD fun G g => ⟨[], rfl, .nil⟩).perm (hperm s0 _ os0).symm
  · rintro i m H' ⟨rfl, hi, s, d, r, F', hr, hy, hdl, e', o'⟩
    obtain ⟨stop, go⟩ := good F' H' _ i e' o' (hc s _)
    cases hx : xs[i]? with
    | none =>
      have hi2 : xs.length ≤ i := List.getElem?_eq_none_iff.mp hx
      rw [List.drop_eq_nil_of_le hi2] at hr
      cases hr
      refine .inl ⟨stop hi2, q F' H' Dl (e1.trans e') ?_⟩
      rw [hy, List.append_nil]
      exact o'.perm (hperm _ _ os0)
    | some x =>
      obtain ⟨hgo, hyl⟩ := go x hx
      have hlt : i < xs.length := (List.getElem?_eq_some_iff.mp hx).1
      rw [drop_cons' hx] at hr
      unfold lcS at hr
      cases hf : f s x with
      | none =>
        rw [hf] at hr
        cases hr
      | some t =>
        rw [hf] at hr
        have hr : ((lcS f (xs.drop (i + 1)) t.2).bind fun u => some (t.1.toList ++ u.1, u.2)) = some (r, sf) := hr
        refine .inr ⟨hgo, LcS f OS enc xs ys sf os0 Dl F1 (i + 1), fun H2 hH2 => ⟨_, by omega, rfl, by omega, hH2⟩, fun v H3 yv => ?_⟩
        obtain ⟨F3, e3, o3, c3⟩ := hyl v H3 yv
        have slw : Sl F3 es (wipe σ vs) := sl_wipe (sl.mono ((e1.trans e').trans e3)) vs fun j hj => ⟨un, hv j hj, rfl⟩
        refine hg x F3 (wipe σ vs) H3 v _ _ slw (hid σ) o3 c3 fun σ' sl' hw => ⟨hw, ?_⟩
        obtain ⟨b, os1, key⟩ := hb s x t ((Dl, ol (d.map enc)) :: os0) (List.mem_of_getElem? hx) hf
        have e4 := e'.trans e3
        match ifs, hif, key with
        | [], _, key =>
          refine lc_elt hperm hlt hz hdl hr hy e4 o3 sl' fun X' hX' => ?_
          obtain ⟨k1, k2, _⟩ := key X' hX'
          cases k1
          exact k2 rfl
        | [cd], _, key =>
          intro X' hX'
          obtain ⟨k1, k2, k3⟩ := key X' hX'
          cases k1 with
          | one ht =>
            refine ht F3 σ' H3 _ o3 sl' fun F4 H4 e5 o4 => ?_
            cases b with
            | true =>
              rw [if_pos rfl]
              exact lc_elt hperm hlt hz hdl hr hy (e4.trans e5) o4 (sl'.mono e5) fun X'' hX'' => (key X'' hX'').2.1 rfl
            | false =>
              rw [if_neg Bool.false_ne_true]
              obtain ⟨k4, rfl⟩ := k3 rfl
              cases hu2 : lcS f (xs.drop (i + 1)) t.2 with
              | none =>
                rw [hu2] at hr
                cases hr
              | some w =>
                rw [hu2, k4] at hr
                have hr2 : (w.1, w.2) = (r, sf) := Option.some.inj hr
                obtain ⟨rfl, rfl⟩ := Prod.mk.inj hr2
                exact ⟨t.2, d, w.1, F4, by rw [hu2], hy, by omega, e4.trans e5, o4⟩
        | _ :: _ :: _, hif, key =>
          rw [List.length_cons, List.length_cons] at hif
          omega
/-- all that a comprehension asks -/
structure LcOk (X : Cx) (es : List Slot) (os : Os) {α S β : Type} (tg iter elt : Expr) (ifs : List Expr) (scope : Scope) (own : List (Str × Nat)) (xs : List α) (vp : α → VP) (c : Os → Prop) (g : TG) (up : α → List Slot → List Slot) (enc : β → PyData)
    (f : S → α → Option (Option β × S)) (OS : S → Os → Os) (s0 : S) (os0 : Os) (ys : List β) (sf : S) : Prop where
  calm : X.calm = true
  nd : X.N.Nodup
  ok : BlkOk X.N X.env.scope scope own
  pg : ∀ X', Fam X scope X' → PG X' tg g
  hv : ∀ j ∈ own.map (·.2), es[j]? = some un
  hid : ∀ σ : L2.St, wipe (wipe σ (own.map (·.2))) (own.map (·.2)) = wipe σ (own.map (·.2))
  hg : ∀ x F σ H v Q os2, Sl F es σ → wipe σ (own.map (·.2)) = σ → Ow F os2 H → Cl (vp x) F v → (∀ σ', Sl F (up x es) σ' → wipe σ' (own.map (·.2)) = σ → Q σ' H) → g v σ H Q
  hif : ifs.length ≤ 1
  hl : lcS f xs s0 = some (ys, sf)
  hz : xs.length < sizeLine
  hi : IX X tg es os iter xs vp c (OS s0 os0)
  hc : ∀ s tl, c (OS s tl)
  hperm : ∀ s q tl, (OS s (q :: tl)).Perm (q :: OS s tl)
  hb : ∀ s x t tl, x ∈ xs → f s x = some t → ∃ b os1, ∀ X', Fam X scope X' → PTX X' (up x es) (OS s tl) ifs b os1 ∧ (b = true → ∃ y, t.1 = some y ∧ EX X' (up x es) os1 elt (dat (enc y)) (OS t.2 tl)) ∧ (b = false → t.1 = none ∧ os1 = OS t.2 tl)
section
variable {α S β : Type} {tg iter elt : Expr} {ifs : List Expr} {scope : Scope} {own : List (Str × Nat)} {xs : List α} {vp : α → VP} {c : Os → Prop} {g : TG} {up : α → List Slot → List Slot} {enc : β → PyData}
    {f : S → α → Option (Option β × S)} {OS : S → Os → Os} {s0 : S} {os0 : Os} {ys : List β} {sf : S}
theorem en_lc (h : LcOk X es os tg iter elt ifs scope own xs vp c g up enc f OS s0 os0 ys sf) (hs : ∀ x, foldedSetIterable iter X.env x = pure x := by intro _; rfl) : EN X es os (.ListComp elt [⟨tg, iter, ifs, 0⟩] scope pos) (ol (ys.map enc)) (OS sf os0) := fun F σ H Q ow sl q =>
  we_of (pe_lc h.calm h.nd pi_u h.ok (fun s H C cl fp => h.pg _ ⟨s, H, C, cl, fp, rfl⟩) (fun s H C cl fp => pts_u ⟨s, H, C, cl, fp, rfl⟩ ifs) (fun s H C cl fp => pe_elt ⟨s, H, C, cl, fp, rfl⟩) hs)
    (lc_read h.hv h.hid h.hg h.hif h.hl h.hz h.hi h.hc h.hperm h.hb ow sl q)
theorem sx_asgLc {y : Str} {py spos : Pos} (B : Bd X N W G k) (T : Bt X V) (hi : N[i]? = some y) (hyl : X.env.scope.names.lookup y = some .local) (h : LcOk X es os tg iter elt ifs scope own xs vp c g up enc f OS s0 os0 ys sf)
    (hsw : swapsWith (.ListComp elt [⟨tg, iter, ifs, 0⟩] scope pos) (some (.Name y py)) spos.line X.env = pure true)
    (hn : ∀ p, SX X (es.set i (sl (Z.own p))) ((p, ol (ys.map enc)) :: OS sf os0) F0 rest D) (hs : ∀ x, foldedSetIterable iter X.env x = pure x := by intro _; rfl) : SX X es os F0 (.Assign [.Name y py] (.ListComp elt [⟨tg, iter, ifs, 0⟩] scope pos) spos :: rest) D := fun F σ H s ow sl =>
  wps_cons (ws_of (ps_setLc h.calm h.nd (B.hN ▸ hi) hyl hsw pi_u h.ok (fun s H C cl fp => h.pg _ ⟨s, H, C, cl, fp, rfl⟩) (fun s H C cl fp => pts_u ⟨s, H, C, cl, fp, rfl⟩ ifs) (fun s H C cl fp => pe_elt ⟨s, H, C, cl, fp, rfl⟩) hs)
    (lc_read (Q := fun v H1 => gName i v σ H1 (WPs X rest D)) h.hv h.hid h.hg h.hif h.hl h.hz h.hi h.hc h.hperm h.hb ow sl fun F1 H1 p e1 o1 => hn p F1 _ H1 (s.trans e1) o1 ((sl.mono e1).put cl_own)))
end
/-- the target is one name -/
theorem lc_gname {α : Type} {vp : α → VP} {j : Nat} (x : α) (F : Hp) (σ : L2.St) (H : Hp) (v : L2.V) (Q : L2.St → Hp → Prop) (os2 : Os) (sl : Sl F es σ) (hw : wipe σ [j] = σ) (ow : Ow F os2 H) (c : Cl (vp x) F v) (q : ∀ σ', Sl F (es.set j (Z.sl (vp x))) σ' → wipe σ' [j] = σ → Q σ' H) : gName j v σ H Q := by
  refine q _ (sl.put c) ?_
  show (σ.set j (some v)).set j none = σ
  rw [List.set_set]
  exact hw
theorem lc_id1 {j : Nat} (σ : L2.St) : wipe (wipe σ [j]) [j] = wipe σ [j] := by
  show (σ.set j none).set j none = σ.set j none
  rw [List.set_set]
/-- a body's facts hold in a comprehension's block -/
theorem Bd.fam {scope : Scope} {X' : Cx} {W' G' : List Str} (B : Bd X N W G k) (hf : Fam X scope X') (h : namB (relS scope X.env.scope) W' G' = true) : Bd X' N W' G' k := by
  obtain ⟨s, H, C, cl, fp, rfl⟩ := hf
  exact ⟨B.hN, B.nd, B.calm, B.gd, B.room, nam_vis h, nam_gl h⟩
end
end Z
namespace Z
open PySem PySem.Spec PyProof.Rows L2
section
variable {P : Program} {w : World} {K : PySem.W.Frag} {mg : Str → Option Value} {base : Heap}
theorem pass_nox {N : List Str} {qual : Str} {sc : Scope} {f : Addr} {cdv : Value} {A : Around} {outer : List Env} {s : Shared} {H : Hp} {E : XK} {sts : List Stmt} {D : Ends} {σ : L2.St} {H' : Hp}
    (h : WPs (cxOf CX0 P w K mg base N qual sc f cdv A outer s H E).nox sts D σ H') : WPs (cxOf CX0 P w K mg base N qual sc f cdv A outer s H E) sts D σ H' :=
  wps_of (PSs.nox (pss_u (X := (cxOf CX0 P w K mg base N qual sc f cdv A outer s H E).nox))) h
theorem cla_start {F : Hp} : ∀ {φs : List VP} {vs : List L2.V} (n : Nat), ClA φs F vs → Sl F (φs.map sl ++ List.replicate n un) (vs.map some ++ List.replicate n none)
  | [], _, n, h => by
    have e : _ = [] := h
    subst e
    refine ⟨by simp, fun i t q => ?_⟩
    have q' : (List.replicate n un)[i]? = some t := q
    rw [List.getElem?_replicate] at q'
    split at q'
    · rename_i hi
      cases q'
      refine ⟨none, ?_, fun _ _ => trivial⟩
      show (List.replicate n none)[i]? = some none
      rw [List.getElem?_replicate, if_pos hi]
    · cases q'
  | φ :: φs, _, n, ⟨v, r, e, h1, h2⟩ => by
    subst e
    have ih := cla_start n h2
    refine ⟨by simpa using ih.len, fun i t q => ?_⟩
    cases i with
    | zero =>
      have q' : some (sl φ) = some t := q
      cases q'
      exact ⟨some v, rfl, fun G g => ⟨v, rfl, h1 G g⟩⟩
    | succ i => exact ih.get i t q
/-- how a body hands back what a promise tells -/
structure RetZ (F0 : Hp) (os : Os) (φ : VP) (D : Ends) : Prop where
  rt : ∀ F H v, Same F0 F → Ow F os H → Cl φ F v → D.rt v H
  nx : ∀ σ H, D.rt .non H → D.nx σ H
structure RetN (F0 : Hp) (os : Os) (n : Ent) (D : Ends) : Prop where
  rt : ∀ F H p, Same F0 F → Ow F ((p, n) :: os) H → D.rt (.ref p) H
variable {α β : Type} {ps : α → List VP} {pre : α → Os} {m : α → Option β} {res : α → β → VP} {post : α → β → Os} {n : α → β → Ent} {x : Str} {st : Stmt} {f : Addr} {fd : FuncData} {N V Gs pn : List Str} {k nl : Nat}
theorem cal_Z (Fn : Fun K x x st f fd) (S : FnScope N pn (defScope st)) (nam : namB (defScope st) V Gs = true) (loc : V.all (locB (defScope st)) = true) (hmg : mg x = some (.ref f)) (hb : Binds K fd pn []) (hps : ∀ a, (ps a).length = pn.length) (hN : N.length = pn.length + nl)
    (body : ∀ (f : Addr) (cdv : Value) (A : Around) (outer : List Env) (s : Shared) (H : Hp) (E : XK) (a : α) (b : β) (F0 : Hp) (os : Os) (D : Ends), Bd (cxOf CX0 P w K mg base N x (defScope st) f cdv A outer s H E).nox N V Gs k → Bt (cxOf CX0 P w K mg base N x (defScope st) f cdv A outer s H E).nox V →
      m a = some b → RetZ F0 (post a b ++ os) (res a b) D → SX (cxOf CX0 P w K mg base N x (defScope st) f cdv A outer s H E).nox ((ps a).map sl ++ List.replicate nl un) (pre a ++ os) F0 (defBody st) D) : Cal P w K mg base (k + 1) x st pn (spZ ps pre m res post) := by
  refine ⟨f, fd, Fn, fun_ok Fn S (spZ_len hps) ?_, hmg, hb⟩
  rintro cdv A outer s H vs Q E hg hr ⟨a, b, F, os, c, ow, hm, q⟩
  refine pass_nox ?_
  have hl := (cla_len c).trans (hps a)
  have hst : L2.start N vs = vs.map some ++ List.replicate nl none := by
    unfold L2.start
    rw [hl, hN, Nat.add_sub_cancel_left]
  rw [hst]
  refine body f cdv A outer s H E a b F os _ ⟨rfl, S.nd, rfl, hg, hr, nam_vis nam, nam_gl nam⟩ ⟨fun _ => rfl, fun y hy => loc_of (List.all_eq_true.mp loc y hy), PassesOwn.never⟩ hm ⟨fun F' H' v e o c => q F' H' v e o c, fun _ _ z => z⟩ F _ H (Same.refl F) ow (cla_start nl c)
theorem cal_N (Fn : Fun K x x st f fd) (S : FnScope N pn (defScope st)) (nam : namB (defScope st) V Gs = true) (loc : V.all (locB (defScope st)) = true) (hmg : mg x = some (.ref f)) (hb : Binds K fd pn []) (hps : ∀ a, (ps a).length = pn.length) (hN : N.length = pn.length + nl)
    (body : ∀ (f : Addr) (cdv : Value) (A : Around) (outer : List Env) (s : Shared) (H : Hp) (E : XK) (a : α) (b : β) (F0 : Hp) (os : Os) (D : Ends), Bd (cxOf CX0 P w K mg base N x (defScope st) f cdv A outer s H E).nox N V Gs k → Bt (cxOf CX0 P w K mg base N x (defScope st) f cdv A outer s H E).nox V →
      m a = some b → RetN F0 (post a b ++ os) (n a b) D → SX (cxOf CX0 P w K mg base N x (defScope st) f cdv A outer s H E).nox ((ps a).map sl ++ List.replicate nl un) (pre a ++ os) F0 (defBody st) D) : Cal P w K mg base (k + 1) x st pn (spN ps pre m n post) := by
  refine ⟨f, fd, Fn, fun_ok Fn S (spN_len hps) ?_, hmg, hb⟩
  rintro cdv A outer s H vs Q E hg hr ⟨a, b, F, os, c, ow, hm, q⟩
  refine pass_nox ?_
  have hl := (cla_len c).trans (hps a)
  have hst : L2.start N vs = vs.map some ++ List.replicate nl none := by
    unfold L2.start
    rw [hl, hN, Nat.add_sub_cancel_left]
  rw [hst]
  refine body f cdv A outer s H E a b F os _ ⟨rfl, S.nd, rfl, hg, hr, nam_vis nam, nam_gl nam⟩ ⟨fun _ => rfl, fun y hy => loc_of (List.all_eq_true.mp loc y hy), PassesOwn.never⟩ hm ⟨fun F' H' p e o => q F' H' p e o⟩ F _ H (Same.refl F) ow (cla_start nl c)
end
/-- the law's call keeps a promise -/
def LawSp (K : PySem.W.Frag) (m : List Int → Option Bool) : Sp := spZ (fun ns => [scr K ns]) (fun _ => []) m (fun _ b => dat (.bool b)) (fun _ _ => [])
theorem law_run {P : Program} {w : World} {K : PySem.W.Frag} {mg mb : Str → Option Value} {k : Nat} {fa a : Addr} {fd : FuncData} {x : Str} {sp : Sp} {s1 : Shared} {vs : List Value} {ns : List Int}
    (KX : K.In s1.heap) (hns : s1.heap.Ns mainGlobals mg) (hb : s1.heap.Ns builtinsNs mb) (hbb : ∀ x : Str, x ≠ "__name__" → mb x = bootBuiltins x) (hlim : s1.heap.NoLimit) (hg : s1.gens = #[])
    (ha : s1.heap.get? a = some { cls := .type "list", data := .seq vs.toArray }) (hi : IntsAre vs ns) (hl : ns.length ≤ sizeLine) (hr : Room k callerA)
    (F : ∀ base : Heap, K.In base → base.Ns mainGlobals mg → FnG P w K mg base CX0 k fa fd [x] sp) (hbind : ∀ (s : Shared) (u : Value), BindsTo s fd ⟨[u], []⟩ [(x, u)])
    (hsp : ∀ H : Hp, Only H → SqL K H a (ns.map V.int) → sp [.ref a] H (fun v _ => v = .bl true) E0) :
    codeAny (model P w) callerA (.call (.ref fa) ⟨[.ref a], []⟩) (fun r s' => r = .ok (.ret (.bool true)) ∧ OldK s1.heap s'.heap ∧ s'.os = s1.os ∧ AllBare s'.gens) s1 := by
  have rv := vals_ints hi
  have step : ∀ H : Hp, Only H → SqL K H a (ns.map V.int) → HOk P w H s1.heap → (∀ b, H b ≠ none → b = a) → (H a ≠ none → K.lookup a = none) →
      codeAny (model P w) callerA (.call (.ref fa) ⟨[.ref a], []⟩) (fun r s' => r = .ok (.ret (.bool true)) ∧ OldK s1.heap s'.heap ∧ s'.os = s1.os ∧ AllBare s'.gens) s1 := by
    intro H only seq hok single lone
    have nsH : ∀ {b : Addr} {m : Str → Option Value}, s1.heap.Ns b m → (hidT s1.heap H).Ns b m := by
      rintro b m ⟨o, es, ep, e, d, r⟩
      refine ⟨o, es, ep, hidT_get e ?_, d, r⟩
      cases q : H b with
      | none => rfl
      | some u =>
        obtain rfl : b = a := single b (by rw [q]; simp)
        rw [ha] at e
        cases e
        have d' : Data.seq vs.toArray _ = Data.dict es ep := d
        cases d'
    have kin : K.In (hidT s1.heap H) := by
      intro b o e
      refine hidT_get (KX b o e) ?_
      cases q : H b with
      | none => rfl
      | some u =>
        obtain rfl : b = a := single b (by rw [q]; simp)
        have := lone (by rw [q]; simp)
        rw [this] at e
        cases e
    obtain ⟨mc, lim1, lim2⟩ := hlim
    have e0 : Env0 P w K mg (hidT s1.heap H) callerA [] s1 H :=
      { frames := rfl
        mod := ⟨kin, nsH hns, ⟨mb, nsH hb, hbb⟩, ⟨mc, nsH lim1, lim2⟩⟩
        bs := fun b o e => of_hidT e
        bsz := Nat.le_of_eq (hidT_size _ _)
        funs := trivial
        frf := fun b hb => nomatch (show b ∈ ([] : List Addr) from hb)
        hok := hok
        bare := .of_eq hg }
    refine codeAny_mono ((F _ kin (nsH hns)).run callerA [] s1 H ⟨[.ref a], []⟩ [.ref a] [.ref a] _ _ rfl hr e0 (hbind s1 (.ref a)) (.cons rfl .nil) (hsp H only seq)) ?_
    intro r s' h
    cases r with
    | error e => exact h.elim
    | ok fl =>
      cases fl with
      | next => exact h.elim
      | brk => exact h.elim
      | cont => exact h.elim
      | ret u =>
        obtain ⟨v, H', os, bare, un, hok', r', q⟩ := h
        obtain rfl : v = .bl true := q
        obtain rfl : u = Value.bool true := r'
        refine ⟨rfl, OldK.of_keep ?_, os, bare⟩
        intro b o e
        cases q : H b with
        | none => exact un.keep b o e q (fun z => nomatch (show b ∈ ([] : List Addr) from z)) (fun z => nomatch z)
        | some u =>
          rcases only b with z | ⟨ob, xs, z⟩
          · rw [q] at z
            cases z
          · obtain ⟨e1, _⟩ := hok b _ z
            obtain ⟨e2, _⟩ := hok' b _ (un.frzs b ob _ z)
            rw [e] at e1
            cases e1
            exact e2
  cases hk : K.lookup a with
  | some o =>
    have e := KX a o hk
    rw [ha] at e
    cases e
    exact step (fun _ => none) (fun _ => .inl rfl) (.inr ⟨_, vs.toArray, _, hk, rfl, rfl, rfl, by rw [List.size_toArray, hi.length]; exact hl, by simpa using rv⟩) (fun b u z => nomatch z) (fun b z => absurd rfl z) fun z => absurd rfl z
  | none =>
    let Hs : Hp := fun b => if b = a then some (.frz { cls := .type "list", data := .seq vs.toArray } (.lst (ns.map V.int))) else none
    have at_ : Hs a = some (.frz { cls := .type "list", data := .seq vs.toArray } (.lst (ns.map V.int))) := if_pos rfl
    have off : ∀ b, b ≠ a → Hs b = none := fun b h => if_neg h
    refine step Hs (fun b => ?_) (.inl (.inr ⟨_, at_⟩)) (fun b u z => ?_) (fun b z => Classical.byContradiction fun h => z (off b h)) fun _ => hk
    · by_cases h : b = a
      · exact .inr ⟨_, _, h ▸ at_⟩
      · exact .inl (off b h)
    · by_cases h : b = a
      · subst h
        rw [at_] at z
        cases z
        exact ⟨ha, by rw [List.length_map]; exact hl, vs, _, rv, ha⟩
      · rw [off b h] at z
        cases z
theorem law_sp {K : PySem.W.Frag} {m : List Int → Option Bool} {H : Hp} {a : Addr} {ns : List Int} (hm : m ns = some true) (hS : SqL K H a (ns.map V.int)) : LawSp K m [.ref a] H (fun v _ => v = .bl true) E0 :=
  ⟨ns, true, H, [], ⟨_, [], rfl, fun G g => ⟨a, rfl, g.seq hS⟩, rfl⟩, ⟨Same.refl H, [], .nil, (fun _ z => nomatch z), .nil⟩, hm, fun F' H' v _ _ c => clv_bool c⟩
/-- the goal that k_head leaves -/
theorem walk_ofG {l : PySem.W.OpenLaw} {n k : Nat} {q : Program} {loose : List Str} {XP : (Str → Option Value) → Heap → Prop} {YP : World → Heap → Prop} {d : DefRec} {K : Params → PySem.W.Frag} {m : List Int → Option Bool} {x : Str}
    (hn : l.most = some n) (hn2 : n ≤ sizeLine) (hdf : d.params.defaults = []) (hr : Room k callerA) (hY : ∀ (w : World) (h : Heap), YP w h → (K w.params).In h)
    (F : ∀ (w : World) (mg : Str → Option Value) (fa : Addr) (h : Heap), (K w.params).In h → h.Ns mainGlobals mg → mg d.name = some (.ref fa) →
      ∃ fd : FuncData, (∀ (s : Shared) (u : Value), BindsTo s fd ⟨[u], []⟩ [(x, u)]) ∧ ∀ base : Heap, (K w.params).In base → base.Ns mainGlobals mg → FnG l.prog w (K w.params) mg base CX0 k fa fd [x] (LawSp (K w.params) m))
    (hm : ∀ ns : List Int, ns.length ≤ n → m ns = some true) : PySem.W.WalkO q loose XP YP l.row.toRowW d [] (fun f vs => PySem.call f vs) := by
  refine Att.attach_call hn hdf ?_
  intro w s0 s1 mg mb fa o pm cd doc a vs ns G Y ho hd hcd hmg hobj hints hlen hg
  have KX := hY w _ Y
  obtain ⟨fd, hb, hF⟩ := F w mg fa _ KX G.T.g hmg
  exact law_run KX G.T.g G.T.b G.T.builtins G.T.nolimit hg hobj hints (Nat.le_trans hlen hn2) hr hF hb fun H _ hS => law_sp (hm ns hlen) hS
end Z
namespace Z
open PySem PySem.Spec PyProof.Rows L2
theorem bnd {α β : Type} {m : Option α} {k : α → Option β} {b : β} (h : m.bind k = some b) : ∃ a, m = some a ∧ k a = some b := by
  cases m with
  | none => cases h
  | some a => exact ⟨a, rfl, h⟩
theorem ifT {α : Type} {c : Bool} {a b : Option α} {r : α} (h : (if c = true then a else b) = some r) (hc : c = true) : a = some r := by
  rw [if_pos hc] at h
  exact h
theorem ifF {α : Type} {c : Bool} {a b : Option α} {r : α} (h : (if c = true then a else b) = some r) (hc : c = false) : b = some r := by
  rw [if_neg (by rw [hc]; exact Bool.false_ne_true)] at h
  exact h
theorem som {α : Type} {a b : α} (h : some a = some b) : a = b := Option.some.inj h
/-- the ends of range(..) in bounds -/
def rngO (a b : Int) : Option (List Int) := if -(2 ^ 62) ≤ a ∧ a < 2 ^ 62 ∧ -(2 ^ 62) ≤ b ∧ b < 2 ^ 62 then some (range' a b) else none
/-- a list may grow by so many -/
def appO {α : Type} (xs : List α) (x : α) : Option (List α) := if xs.length < sizeLine then some (xs ++ [x]) else none
def popO {α : Type} (xs : List α) : Option (α × List α) := match xs.getLast? with
  | some x => some (x, xs.dropLast)
  | none => none
def setO {α : Type} (xs : List α) (i : Int) (x : α) : Option (List α) := (ixN xs.length i).bind fun m => some (xs.set m x)
abbrev eL {α : Type} (e : α → PyData) : List α → PyData := fun xs => .list (xs.map e)
abbrev eT {α : Type} (e : α → PyData) : List α → PyData := fun xs => .tuple (xs.map e)
abbrev eP {α β : Type} (e : α → PyData) (f : β → PyData) : α × β → PyData := fun x => .tuple [e x.1, f x.2]
structure Tri (α β γ : Type) where
  a : α
  b : β
  c : γ
  deriving DecidableEq
abbrev eP3 {α β γ : Type} (e : α → PyData) (f : β → PyData) (g : γ → PyData) : Tri α β γ → PyData := fun x => .tuple [e x.a, f x.b, g x.c]
abbrev eO {α : Type} (e : α → PyData) : Option α → PyData := fun
  | none => .none
  | some a => e a
section
variable {X : Cx} {es es' : List Slot} {os os1 os2 : Os} {F0 : Hp} {rest : List Stmt} {D : Ends} {N V G W : List Str} {k i vi gi : Nat} {x : Str} {p pos : Pos} {e e2 a b : Expr} {φ : VP} {n : Ent} {α : Type}
theorem At.weak {σ : L2.St} {H : Hp} (h : At F0 es os σ H) (w : Wk es es') : At F0 es' os σ H := let ⟨F, s, o, l⟩ := h; ⟨F, s, o, l.weak w⟩
theorem At.perm {σ : L2.St} {H : Hp} (h : At F0 es os σ H) (w : os.Perm os1) : At F0 es os1 σ H := let ⟨F, s, o, l⟩ := h; ⟨F, s, o.perm w, l⟩
theorem At.drop {σ : L2.St} {H : Hp} {q : Addr × Ent} (h : At F0 es (q :: os) σ H) : At F0 es os σ H := let ⟨F, s, o, l⟩ := h; ⟨F, s, o.drop, l⟩
theorem EX.weak (h : EX X es' os e φ os1) (w : Wk es es') : EX X es os e φ os1 := fun F σ H Q ow sl q => h F σ H Q ow (sl.weak w) q
theorem EN.weak (h : EN X es' os e n os1) (w : Wk es es') : EN X es os e n os1 := fun F σ H Q ow sl q => h F σ H Q ow (sl.weak w) q
theorem EN.perm (h : EN X es os e n os1) (k : os1.Perm os2) : EN X es os e n os2 := fun F σ H Q ow sl q => h F σ H Q ow sl fun F' H' v e o => q F' H' v e (o.perm (k.cons _))
/-- an own list at the slot i is data from now on -/
theorem sx_frz {j : Nat} {q : Addr} {ds : List PyData} (hj : os[j]? = some (q, ol ds)) (hi : es[i]? = some (sl (own q))) (h : SX X (es.set i (sl (dat (.list ds)))) (os.eraseIdx j) F0 rest D) : SX X es os F0 rest D := fun F σ H s ow sl => by
  obtain ⟨u, hu, ⟨vs, rfl, hv⟩, e1, o1⟩ := (ow.perm (perm_at hj)).freezeU uni_ol
  have hv := dqall_mono e1 _ _ hv
  obtain ⟨v, ev, cv⟩ := sl.val hi
  obtain rfl : v = .ref q := cv.now
  have sl2 := (sl.mono e1).put (i := i) (v := .ref q) (φ := dat (.list ds)) (cl_dat (.lst upd_same hv))
  have e2 : σ.set i (some (.ref q)) = σ := by
    refine List.ext_getElem? fun m => ?_
    by_cases hm : i = m
    · subst hm
      rw [List.getElem?_set_self (List.getElem?_eq_some_iff.mp ev).1, ev]
    · rw [List.getElem?_set_ne hm]
  rw [e2] at sl2
  exact h _ σ H (s.trans e1) o1 sl2
theorem ix_rng1 {tg : Expr} {b : Int} {xs : List Int} (B : Bd X N W G k) (hj : G[gi]? = some "range") (hm : X.mg "range" = none) (hr : rngO 0 b = some xs) (ha : EX X es os e (dat (.int b)) os1) (hs : starEach [e] X.env = [(false, eval e X.env)] := by rfl) :
    IX X tg es os (.Call (.Name "range" p) [e] [] pos) xs (fun x => dat (.int x)) anyOs os1 := by
  unfold rngO at hr
  split at hr
  · rename_i h
    cases hr
    exact ix_range1 B hj hm h.2.2 ha hs
  · cases hr
theorem ix_rng2 {tg : Expr} {a b : Int} {xs : List Int} (B : Bd X N W G k) (hj : G[gi]? = some "range") (hm : X.mg "range" = none) (hr : rngO a b = some xs) (ha : EX X es os e (dat (.int a)) os1) (hb : EX X es os1 e2 (dat (.int b)) os2)
    (hs : starEach [e, e2] X.env = [(false, eval e X.env), (false, eval e2 X.env)] := by rfl) (hs2 : starEach [e2] X.env = [(false, eval e2 X.env)] := by rfl) :
    IX X tg es os (.Call (.Name "range" p) [e, e2] [] pos) xs (fun x => dat (.int x)) anyOs os2 := by
  unfold rngO at hr
  split at hr
  · rename_i h
    cases hr
    exact ix_range2 B hj hm h ha hb hs hs2
  · cases hr
/-- xs.append(e) of an own list -/
theorem ex_app {β : Type} {apos cpos : Pos} {q : Addr} {enc : β → PyData} {xs xs0 ys : List β} {y : β} {j : Nat} (ha : appO xs y = some ys) (ho : EX X es os a (own q) os) (h0 : os[j]? = some (q, ol (xs0.map enc))) (he : EX X es os e (dat (enc y)) os1) (hj : os1[j]? = some (q, ol (xs.map enc)))
    (hbase : attributeBase a "append" X.env (eval a X.env) = eval a X.env := by rfl) (hline : (apos.endLine == cpos.line) = true := by rfl) (hs : starEach [e] X.env = (false, eval e X.env) :: starEach [] X.env := by rfl)
    (hfew : ((backTo cpos (starEach [e] X.env)).all (fun x => !x.1) && (backToKw cpos (keywordEach [] X.env)).all (fun x => x.1.isSome) && decide ([e].length + ([] : List Keyword).length + (if ([] : List Keyword).isEmpty then 0 else 1) < 30)) = true := by rfl)
    (hplain : (backTo cpos (starEach [] X.env)).any (·.1) = false := by rfl) : EX X es os (.Call (.Attribute a "append" apos) [e] [] cpos) (dat .none) (os1.set j (q, ol (ys.map enc))) := by
  unfold appO at ha
  split at ha
  · rename_i h
    cases ha
    rw [List.map_append]
    exact ex_append ho he h0 hj (by rw [List.length_map]; exact h) hbase hline hs hfew hplain
  · cases ha
theorem ex_popO {β : Type} {apos cpos : Pos} {q : Addr} {enc : β → PyData} {xs : List β} {r : β × List β} {j : Nat} (hr : popO xs = some r) (ho : EX X es os a (own q) os) (hj : os[j]? = some (q, ol (xs.map enc)))
    (hbase : attributeBase a "pop" X.env (eval a X.env) = eval a X.env := by rfl) (hline : (apos.endLine == cpos.line) = true := by rfl) : EX X es os (.Call (.Attribute a "pop" apos) [] [] cpos) (dat (enc r.1)) (os.set j (q, ol (r.2.map enc))) := by
  unfold popO at hr
  split at hr
  · rename_i z hz
    cases hr
    have e : (xs.map enc).getLast? = some (enc z) := by rw [List.getLast?_map, hz]; rfl
    have h := ex_pop ho hj e hbase hline
    rw [← List.map_dropLast] at h
    exact h
  · cases hr
theorem sx_setO {β : Type} {tpos : Pos} {q : Addr} {enc : β → PyData} {xs ys : List β} {y : β} {j : Nat} {z : Int} (hy : setO xs z y = some ys) (he : EX X es os e (dat (enc y)) os1) (ho : EX X es os1 a (own q) os1) (hb : EX X es os1 b (dat (.int z)) os2) (hj : os2[j]? = some (q, ol (xs.map enc))) (h : SX X es (os2.set j (q, ol (ys.map enc))) F0 rest D)
    (hs : swapsWithSole [.Subscript a b tpos] e pos.line X.env = pure false := by rfl) (hw : swappedStores [.Subscript a b tpos] e X.env = pure none := by rfl) (h1 : (assignEach [.Subscript a b tpos] X.env).map (·.2) = [assign (.Subscript a b tpos) X.env] := by rfl)
    (hsub : ∀ v, assign (.Subscript a b tpos) X.env v = (do
      let ov ← holding [v] (eval a X.env)
      let iv ← holding [v, ov] (eval b X.env)
      standAt tpos
      holding [v, ov, iv] (setItem ov iv v)
      release [v, ov, iv] []) := by intro _; rfl) : SX X es os F0 (.Assign [.Subscript a b tpos] e pos :: rest) D := by
  obtain ⟨m, hm, h2⟩ := bnd hy
  cases h2
  rw [List.map_set] at h
  exact sx_setL he ho hb hj (by rw [List.length_map]; exact hm) h hs hw h1 hsub
theorem ex_idxL {β : Type} {enc : β → PyData} {xs : List β} {y : β} {z : Int} (hk : idx xs z = some y) (hr : RdL X φ os2 (xs.map enc)) (ha : EX X es os a φ os1) (hb : EX X es os1 b (dat (.int z)) os2) (hp : PlainIx b := by exact fun _ _ => rfl) : EX X es os (.Subscript a b pos) (dat (enc y)) os2 := ex_ixL hr (atI_map enc hk) ha hb hp
theorem ex_idxT {β : Type} {enc : β → PyData} {xs : List β} {y : β} {z : Int} (hk : idx xs z = some y) (hr : RdT φ (xs.map enc)) (ha : EX X es os a φ os1) (hb : EX X es os1 b (dat (.int z)) os2) (hp : PlainIx b := by exact fun _ _ => rfl) : EX X es os (.Subscript a b pos) (dat (enc y)) os2 := ex_ixT hr (atI_map enc hk) ha hb hp
/-- a literal list or tuple of one kind is a map -/
theorem EN.list {ds ds' : List PyData} (h : EN X es os e (ol ds) os1) (k : ds = ds') : EN X es os e (ol ds') os1 := k ▸ h
theorem EX.to {d d' : PyData} (h : EX X es os e (dat d) os1) (k : d = d') : EX X es os e (dat d') os1 := k ▸ h
theorem TX.to {t t' : Bool} (h : TX X es os e t os1) (k : t = t') : TX X es os e t' os1 := k ▸ h
end
/-- two lists of data are equal exactly if they are alike -/
def EqvOk {α : Type} [DecidableEq α] (e : α → PyData) : Prop := ∀ a b, PyData.eqv (e a) (e b) = decide (a = b)
theorem eqv_int : EqvOk PyData.int := fun a b => by
  simp only [PyData.eqv]
  exact Bool.beq_eq_decide_eq a b
theorem eqv_bool : EqvOk PyData.bool := fun a b => by
  simp only [PyData.eqv]
  exact Bool.beq_eq_decide_eq a b
theorem eqvAll_map {α : Type} [DecidableEq α] {e : α → PyData} (h : EqvOk e) : ∀ xs ys : List α, PyData.eqvAll (xs.map e) (ys.map e) = decide (xs = ys)
  | [], [] => by simp [PyData.eqvAll]
  | [], y :: ys => by simp [PyData.eqvAll]
  | x :: xs, [] => by simp [PyData.eqvAll]
  | x :: xs, y :: ys => by
    simp only [List.map_cons, PyData.eqvAll, h x y, eqvAll_map h xs ys, List.cons.injEq, Bool.decide_and]
theorem eqv_list {α : Type} [DecidableEq α] {e : α → PyData} (h : EqvOk e) : EqvOk (eL e) := fun a b => by
  simp only [PyData.eqv]
  exact eqvAll_map h a b
theorem eqv_tup {α : Type} [DecidableEq α] {e : α → PyData} (h : EqvOk e) : EqvOk (eT e) := fun a b => by
  simp only [PyData.eqv]
  exact eqvAll_map h a b
/-- data of bounded depth without dicts -/
structure ShOk {α : Type} (e : α → PyData) (n : Nat) : Prop where
  lay : ∀ a, (e a).canLay0 = true
  dep : ∀ a, (e a).depth ≤ n
theorem ShOk.shaped {α : Type} {e : α → PyData} {n : Nat} (h : ShOk e n) (hn : n ≤ 64) (a : α) : SeqAt.shaped (e a) = true := by
  unfold SeqAt.shaped
  rw [h.lay a, Bool.true_and]
  exact decide_eq_true (Nat.le_trans (h.dep a) hn)
theorem sh_int : ShOk PyData.int 0 := ⟨fun _ => by simp only [PyData.canLay0], fun _ => by simp only [PyData.depth]; exact Nat.le_refl 0⟩
theorem sh_bool : ShOk PyData.bool 0 := ⟨fun _ => by simp only [PyData.canLay0], fun _ => by simp only [PyData.depth]; exact Nat.le_refl 0⟩
theorem layAll_map {α : Type} {e : α → PyData} {n : Nat} (h : ShOk e n) : ∀ xs : List α, PyData.canLayAll0 (xs.map e) = true ∧ PyData.depthAll (xs.map e) ≤ n
  | [] => by
    simp only [List.map_nil, PyData.canLayAll0, PyData.depthAll]
    exact ⟨trivial, Nat.zero_le _⟩
  | x :: xs => by
    obtain ⟨a, b⟩ := layAll_map h xs
    simp only [List.map_cons, PyData.canLayAll0, PyData.depthAll, h.lay x, a]
    exact ⟨rfl, Nat.max_le.mpr ⟨h.dep x, b⟩⟩
theorem sh_list {α : Type} {e : α → PyData} {n : Nat} (h : ShOk e n) : ShOk (eL e) (n + 1) :=
  ⟨fun xs => by simp only [PyData.canLay0]; exact (layAll_map h xs).1, fun xs => by simp only [PyData.depth]; exact Nat.succ_le_succ (layAll_map h xs).2⟩
theorem sh_tup {α : Type} {e : α → PyData} {n : Nat} (h : ShOk e n) : ShOk (eT e) (n + 1) :=
  ⟨fun xs => by simp only [PyData.canLay0]; exact (layAll_map h xs).1, fun xs => by simp only [PyData.depth]; exact Nat.succ_le_succ (layAll_map h xs).2⟩
end Z
namespace Z
open PySem PySem.Spec PyProof.Rows L2
section
variable {X : Cx} {es es' : List Slot} {os os1 os2 : Os} {F0 : Hp} {rest : List Stmt} {D : Ends} {N V G W : List Str} {k i j l vi gi : Nat} {x y z : Str} {p pos : Pos} {e e2 a b c : Expr} {φ : VP} {n : Ent} {α : Type}
def AQ (X : Cx) (es : List Slot) (as : List Expr) (os : Os) (Rel : List VP → Os → Prop) : Prop := ∀ F σ H Q, Ow F os H → Sl F es σ → (∀ F' H' vs φs os', Same F F' → Rel φs os' → Ow F' os' H' → ClA φs F' vs → Q vs H') → WA X as σ H Q
theorem aq_nil : AQ X es [] os (fun φs os' => φs = [] ∧ os' = os) := fun F σ H Q ow sl q => wa_of pa_nil (q F H [] [] os (Same.refl F) ⟨rfl, rfl⟩ ow rfl)
theorem aq_x {as : List Expr} {Rel : List VP → Os → Prop} (ha : EX X es os a φ os1) (hr : AQ X es as os1 Rel) (hs : starEach (a :: as) X.env = (false, eval a X.env) :: starEach as X.env := by rfl) : AQ X es (a :: as) os (fun φs os' => ∃ r, φs = φ :: r ∧ Rel r os') := fun F σ H Q ow sl q =>
  wa_of (pa_cons pe_u pa_u hs) (ha F σ H _ ow sl fun F1 H1 v e1 o1 c1 => hr F1 σ H1 _ o1 (sl.mono e1) fun F2 H2 vs φs os' e2 rel o2 c2 => q F2 H2 _ _ os' (e1.trans e2) ⟨φs, rfl, rel⟩ o2 ⟨v, vs, rfl, c1.mono e2, c2⟩)
theorem aq_n {as : List Expr} {Rel : Addr → List VP → Os → Prop} (ha : EN X es os a n os1) (hr : ∀ p, AQ X es as ((p, n) :: os1) (Rel p)) (hs : starEach (a :: as) X.env = (false, eval a X.env) :: starEach as X.env := by rfl) : AQ X es (a :: as) os (fun φs os' => ∃ p r, φs = own p :: r ∧ Rel p r os') := fun F σ H Q ow sl q =>
  wa_of (pa_cons pe_u pa_u hs) (ha F σ H _ ow sl fun F1 H1 p e1 o1 => hr p F1 σ H1 _ o1 (sl.mono e1) fun F2 H2 vs φs os' e2 rel o2 c2 => q F2 H2 _ _ os' (e1.trans e2) ⟨p, φs, rfl, rel⟩ o2 ⟨_, vs, rfl, cl_own, c2⟩)
/-- the names are stored from the right -/
def swpB (sc : Scope) (ts : List Expr) (v : Expr) (xs : List Str) : Prop := ∀ env : Env, env.scope = sc → swappedStores ts v env = pure (some xs)
def nswB (sc : Scope) (ts : List Expr) (v : Expr) : Prop := ∀ env : Env, env.scope = sc → swappedStores ts v env = pure none
def lclB (sc : Scope) (x : Str) : Bool := match sc.names.lookup x with
  | some .local => true
  | _ => false
theorem lcl_of {sc : Scope} {x : Str} (h : lclB sc x = true) : sc.names.lookup x = some .local := by
  unfold lclB at h
  split at h
  · assumption
  · cases h
theorem sx_par2 {px py pt p2 : Pos} {kt k2 : Nat} {Rel : List VP → Os → Prop} (sc : Scope) (hsc : X.env.scope = sc) (B : Bd X N W G k) (hi : N[i]? = some x) (hj : N[j]? = some y) (hij : i ≠ j) (hx : lclB sc x = true) (hy : lclB sc y = true) (hw : swpB sc [.Tuple [.Name x px, .Name y py] kt pt] (.Tuple [a, b] k2 p2) [x, y])
    (ha : AQ X es [a, b] os Rel) (h : ∀ φ ψ os', Rel [φ, ψ] os' → SX X ((es.set i (sl φ)).set j (sl ψ)) os' F0 rest D) (hR : ∀ φs os', Rel φs os' → ∃ φ ψ, φs = [φ, ψ])
    (hs : swapsWithSole [.Tuple [.Name x px, .Name y py] kt pt] (.Tuple [a, b] k2 p2) pos.line X.env = pure false := by rfl) : SX X es os F0 (.Assign [.Tuple [.Name x px, .Name y py] kt pt] (.Tuple [a, b] k2 p2) pos :: rest) D := fun F σ H s ow sl =>
  wps_cons (ws_of (ps_par B.calm (B.hN ▸ B.nd) (B.hN ▸ hi) (B.hN ▸ hj) hij (by rw [hsc]; exact lcl_of hx) (by rw [hsc]; exact lcl_of hy) pa_u (hw _ hsc) hs) (ha F σ H _ ow sl fun F1 H1 vs φs os' e1 rel o1 c1 => by
    obtain ⟨φ, ψ, rfl⟩ := hR φs os' rel
    obtain ⟨v, u, rfl, h1, h2⟩ := cla2 c1
    exact ⟨v, u, rfl, h φ ψ os' rel F1 _ H1 (s.trans e1) o1 (((sl.mono e1).put h1).put h2)⟩))
theorem cla3 {φ ψ χ : VP} {F : Hp} {vs : List L2.V} (h : ClA [φ, ψ, χ] F vs) : ∃ v u w, vs = [v, u, w] ∧ Cl φ F v ∧ Cl ψ F u ∧ Cl χ F w := by
  obtain ⟨v, r, e, h1, h2⟩ := h
  obtain ⟨u, w, e2, h3, h4⟩ := cla2 h2
  subst e2
  exact ⟨v, u, w, e, h1, h3, h4⟩
theorem sx_par3 {px py pz pt p2 : Pos} {kt k2 : Nat} {Rel : List VP → Os → Prop} (sc : Scope) (hsc : X.env.scope = sc) (B : Bd X N W G k) (hi : N[i]? = some x) (hj : N[j]? = some y) (hl : N[l]? = some z) (hij : i ≠ j) (hil : i ≠ l) (hjl : j ≠ l) (hx : lclB sc x = true) (hy : lclB sc y = true) (hz : lclB sc z = true)
    (hw : swpB sc [.Tuple [.Name x px, .Name y py, .Name z pz] kt pt] (.Tuple [a, b, c] k2 p2) [x, y, z])
    (ha : AQ X es [a, b, c] os Rel) (h : ∀ φ ψ χ os', Rel [φ, ψ, χ] os' → SX X (((es.set i (sl φ)).set j (sl ψ)).set l (sl χ)) os' F0 rest D) (hR : ∀ φs os', Rel φs os' → ∃ φ ψ χ, φs = [φ, ψ, χ])
    (hs : swapsWithSole [.Tuple [.Name x px, .Name y py, .Name z pz] kt pt] (.Tuple [a, b, c] k2 p2) pos.line X.env = pure false := by rfl) : SX X es os F0 (.Assign [.Tuple [.Name x px, .Name y py, .Name z pz] kt pt] (.Tuple [a, b, c] k2 p2) pos :: rest) D := fun F σ H s ow sl =>
  wps_cons (ws_of (ps_par3 B.calm (B.hN ▸ B.nd) (B.hN ▸ hi) (B.hN ▸ hj) (B.hN ▸ hl) hij hil hjl (by rw [hsc]; exact lcl_of hx) (by rw [hsc]; exact lcl_of hy) (by rw [hsc]; exact lcl_of hz) pa_u (hw _ hsc) hs) (ha F σ H _ ow sl fun F1 H1 vs φs os' e1 rel o1 c1 => by
    obtain ⟨φ, ψ, χ, rfl⟩ := hR φs os' rel
    obtain ⟨v, u, w, rfl, h1, h2, h3⟩ := cla3 c1
    exact ⟨v, u, w, rfl, h φ ψ χ os' rel F1 _ H1 (s.trans e1) o1 ((((sl.mono e1).put h1).put h2).put h3)⟩))
/-- a, b = (e1, e2): the tuple is made, then taken apart -/
theorem sx_mk2 {t1 t2 pt p2 : Pos} {kt k2 : Nat} {Rel : List VP → Os → Prop} (sc : Scope) (hsc : X.env.scope = sc) (B : Bd X N W G k) (T : Bt X V) (hi : N[i]? = some x) (hj : N[j]? = some y) (hx : V[vi]? = some x) (hy : V[gi]? = some y) (hw : nswB sc [.Tuple [.Name x t1, .Name y t2] kt pt] (.Tuple [a, b] k2 p2))
    (ha : AQ X es [a, b] os Rel) (h : ∀ φ ψ os', Rel [φ, ψ] os' → SX X ((es.set i (sl φ)).set j (sl ψ)) os' F0 rest D) (hR : ∀ φs os', Rel φs os' → ∃ φ ψ, φs = [φ, ψ])
    (hs : swapsWithSole [.Tuple [.Name x t1, .Name y t2] kt pt] (.Tuple [a, b] k2 p2) pos.line X.env = pure false := by rfl) (h1 : (assignEach [.Tuple [.Name x t1, .Name y t2] kt pt] X.env).map (·.2) = [assign (.Tuple [.Name x t1, .Name y t2] kt pt) X.env] := by rfl) :
    SX X es os F0 (.Assign [.Tuple [.Name x t1, .Name y t2] kt pt] (.Tuple [a, b] k2 p2) pos :: rest) D := fun F σ H s ow sl =>
  wps_cons (ws_of (ps_asg (pe_tup pa_u) (pg_tup (n := 2) B.calm (pgs_cons (pg_name (B.hN ▸ B.nd) (B.hN ▸ hi) (T.loc x (List.mem_of_getElem? hx)) (.inl (T.fn x))) (pgs_cons (pg_name (B.hN ▸ B.nd) (B.hN ▸ hj) (T.loc y (List.mem_of_getElem? hy)) (.inl (T.fn y))) pgs_nil)) rfl rfl) hs (hw _ hsc) h1) (ha F σ H _ ow sl fun F1 H1 vs φs os' e1 rel o1 c1 => by
    obtain ⟨φ, ψ, rfl⟩ := hR φs os' rel
    obtain ⟨v, u, rfl, h1, h2⟩ := cla2 c1
    refine ⟨by show 2 ≤ sizeLine; decide, fun p hp => ?_⟩
    refine ⟨p, _, rfl, .of upd_same, rfl, _, _, rfl, _, _, rfl, rfl, ?_⟩
    exact h φ ψ os' rel F1 _ _ (s.trans e1) (o1.grow (same_upd hp)) (((sl.mono e1).put h1).put h2)))
theorem ex_tyname {T : String} (B : Bd X N W G k) (hj : G[gi]? = some x) (hm : X.mg x = none) (hv : bootBuiltins x = some (.type T)) : EX X es os (.Name x pos) (fun _ v => v = .ty T) os := fun F σ H Q ow sl q =>
  let ⟨u, v⟩ := B.gl x (List.mem_of_getElem? hj)
  we_of (pe_bltn (v := .ty T) u hm hv rfl (dun_n v) (dun_d v)) (q F H _ (Same.refl F) ow fun _ _ => rfl)
def tyName : PyData → String
  | .none => "NoneType"
  | .bool _ => "bool"
  | .int _ => "int"
  | .str _ => "str"
  | .list _ => "list"
  | .tuple _ => "tuple"
  | .dict _ => "dict"
theorem rc_isi {d : PyData} {T : String} {r : Bool} (h : kitB (tyName d) T = some r) (hT : ∀ ps, d ≠ .dict ((.none, .none) :: ps) := by intro _ z; first | cases z | assumption) : RCX (rIsi X.K) [dat d, fun _ v => v = .ty T] os (dat (.bool r)) os := fun F H vs Q ow c q => by
  obtain ⟨v, u, rfl, h1, h2⟩ := cla2 c
  obtain rfl : u = .ty T := h2.now
  have fin := q F H _ (Same.refl F) ow (cl_dat (.bl r))
  have hd := h1.now
  have key : ∀ t : String, tyName d = t → TyX X.K H v (.type t) → rIsi X.K [v, .ty T] H Q := fun t e k => ⟨v, _, _, _, r, rfl, .ty T, k, kit_ty (e ▸ h), fin⟩
  cases hd with
  | non => exact key _ rfl (.base .non)
  | bl b => exact key _ rfl (.base (.bl b))
  | int i => exact key _ rfl (.base (.int i))
  | str x => exact key _ rfl (.base (.str x))
  | lst k1 k2 => exact key _ rfl (.base (.lst (ow.ex _ _ k1)))
  | tup k1 k2 => exact key _ rfl (.base (.tup (ow.ex _ _ k1)))
  | dctK k1 k2 k3 => exact key _ rfl (.fDict (ow.ex _ _ k1))
  | dctT k1 k2 k3 => exact (hT _ rfl).elim
def catO {α : Type} (xs ys : List α) : Option (List α) := if xs.length + ys.length ≤ sizeLine then some (xs ++ ys) else none
theorem dqall_rev {F : Hp} : ∀ {ds : List PyData} {vs : List L2.V}, DqAll F vs ds → DqAll F vs.reverse ds.reverse
  | [], _, h => by
    cases h
    exact .nil
  | d :: ds, _, h => by
    cases h with
    | cons h1 h2 =>
      rw [List.reverse_cons, List.reverse_cons]
      exact dqall_app (dqall_rev h2) (.cons h1 .nil)
theorem dat_list {F H : Hp} {v : L2.V} {ds : List PyData} (ow : Ow F os H) (c : Cl (dat (.list ds)) F v) : ∃ p vs, v = .ref p ∧ H p = some (.lst vs) ∧ DqAll F vs ds := by
  have h := c.now
  cases h with
  | lst h1 h2 => exact ⟨_, _, rfl, ow.ex _ _ h1, h2⟩
theorem en_cat {α : Type} {enc : α → PyData} {xs ys zs : List α} (h : catO xs ys = some zs) (ha : EX X es os a (dat (.list (xs.map enc))) os1) (hb : EX X es os1 b (dat (.list (ys.map enc))) os2) : EN X es os (.BinOp a .Add b pos) (ol (zs.map enc)) os2 := fun F σ H Q ow sl q => by
  unfold catO at h
  split at h
  · rename_i hl
    cases h
    refine we_of (pe_op op_cat pe_u pe_u) (ha F σ H _ ow sl fun F1 H1 v e1 o1 c1 => hb F1 σ H1 _ o1 (sl.mono e1) fun F2 H2 u e2 o2 c2 => ?_)
    obtain ⟨p, vs, rfl, h1, h2⟩ := dat_list o2 (c1.mono e2)
    obtain ⟨r, us, rfl, h3, h4⟩ := dat_list o2 c2
    refine ⟨p, r, vs, us, rfl, rfl, h1, h3, by rw [dqall_len h2, dqall_len h4, List.length_map, List.length_map]; exact hl, fun m hm => ?_⟩
    refine q F2 _ m (e1.trans e2) (o2.new hm fun G g => ⟨_, rfl, ?_⟩)
    rw [List.map_append]
    exact dqall_mono g _ _ (dqall_app h2 h4)
  · cases h
theorem ex_catT {α : Type} {enc : α → PyData} {xs ys zs : List α} (h : catO xs ys = some zs) (ha : EX X es os a (dat (.tuple (xs.map enc))) os1) (hb : EX X es os1 b (dat (.tuple (ys.map enc))) os2) : EX X es os (.BinOp a .Add b pos) (dat (.tuple (zs.map enc))) os2 := fun F σ H Q ow sl q => by
  unfold catO at h
  split at h
  · rename_i hl
    cases h
    refine we_of (pe_op op_catA pe_u pe_u) (ha F σ H _ ow sl fun F1 H1 v e1 o1 c1 => hb F1 σ H1 _ o1 (sl.mono e1) fun F2 H2 u e2 o2 c2 => ?_)
    obtain ⟨p, vs, rfl, h1, h2⟩ := rdt_dat F2 v (c1.mono e2)
    obtain ⟨r, us, rfl, h3, h4⟩ := rdt_dat F2 u c2
    have e := e1.trans e2
    have hd := dqall_app h2 h4
    rw [← List.map_append] at hd
    refine ⟨p, r, vs, us, rfl, rfl, .of (o2.ex _ _ h1), .of (o2.ex _ _ h3), by rw [dqall_len h2, dqall_len h4, List.length_map, List.length_map]; exact hl, fun h0 => ?_, fun h0 h5 => ?_, fun h0 h5 m hm => ?_⟩
    · refine q F2 H2 _ e o2 (cl_dat (.tup h3 ?_))
      rw [h0, List.nil_append] at hd
      exact hd
    · refine q F2 H2 _ e o2 (cl_dat (.tup h1 ?_))
      rw [h5, List.append_nil] at hd
      exact hd
    · have fp := o2.ex.free hm
      exact q _ _ _ (e.trans (same_upd fp)) (o2.frozen hm) (cl_dat (.tup upd_same (dqall_mono (same_upd fp) _ _ hd)))
  · cases h
/-- xs[lo:hi] -/
def cut {α : Type} (xs : List α) (lo hi : Option Int) : List α := (xs.drop (HT.sIx xs.length 0 lo)).take (HT.sIx xs.length xs.length hi - HT.sIx xs.length 0 lo)
theorem dqall_cut {F : Hp} {ds : List PyData} {vs : List L2.V} (h : DqAll F vs ds) (lo hi : Option Int) : DqAll F (cutV vs lo hi) (cut ds lo hi) := by
  unfold cutV cut
  rw [dqall_len h]
  exact dqall_take _ (dqall_drop _ h)
theorem cut_map {α β : Type} (f : α → β) (xs : List α) (lo hi : Option Int) : cut (xs.map f) lo hi = (cut xs lo hi).map f := by
  unfold cut
  rw [List.length_map, List.map_take, List.map_drop]
def WO (X : Cx) : Option Expr → TO
  | none => tNoPart
  | some e => tPart (WE X e)
theorem po_u : ∀ e : Option Expr, PO X e (WO X e)
  | none => po_none
  | some e => po_some pe_u
/-- an end of a slice -/
def PX (X : Cx) (es : List Slot) (os : Os) (e : Option Expr) (o : Option Int) (os' : Os) : Prop := ∀ F σ H Q, Ow F os H → Sl F es σ → (∀ F' H', Same F F' → Ow F' os' H' → Q o H') → WO X e σ H Q
theorem px_none : PX X es os none none os := fun F σ H Q ow sl q => q F H (Same.refl F) ow
theorem px_some {i : Int} (h : EX X es os e (dat (.int i)) os1) : PX X es os (some e) (some i) os1 := fun F σ H Q ow sl q => h F σ H _ ow sl fun F1 H1 v e1 o1 c1 => ⟨i, clv_int c1, q F1 H1 e1 o1⟩
theorem en_cut {α : Type} {enc : α → PyData} {xs : List α} {lo hi : Option Expr} {l u : Option Int} {os3 : Os} {p2 : Pos} (hr : RdL X φ os3 (xs.map enc)) (ha : EX X es os a φ os1) (hl : PX X es os1 lo l os2) (hu : PX X es os2 hi u os3) : EN X es os (.Subscript a (.Slice lo hi none p2) pos) (ol ((cut xs l u).map enc)) os3 := fun F σ H Q ow sl q =>
  we_of (pe_slice sl_list pe_u (po_u lo) (po_u hi)) (ha F σ H _ ow sl fun F1 H1 v e1 o1 c1 => hl F1 σ H1 _ o1 (sl.mono e1) fun F2 H2 e2 o2 => hu F2 σ H2 _ o2 (sl.mono (e1.trans e2)) fun F3 H3 e3 o3 => by
    obtain ⟨p, vs, rfl, h1, h2⟩ := hr F3 H3 v o3 ((c1.mono e2).mono e3)
    refine ⟨p, vs, rfl, h1, fun m hm => q F3 _ m ((e1.trans e2).trans e3) (o3.new hm fun G g => ⟨_, rfl, ?_⟩)⟩
    rw [← cut_map]
    exact dqall_mono g _ _ (dqall_cut h2 l u))
theorem ex_cutT {α : Type} {enc : α → PyData} {xs : List α} {lo hi : Option Expr} {l u : Option Int} {os3 : Os} {p2 : Pos} (hr : RdT φ (xs.map enc)) (ha : EX X es os a φ os1) (hl : PX X es os1 lo l os2) (hu : PX X es os2 hi u os3) : EX X es os (.Subscript a (.Slice lo hi none p2) pos) (dat (.tuple ((cut xs l u).map enc))) os3 := fun F σ H Q ow sl q =>
  we_of (pe_slice sl_tupA pe_u (po_u lo) (po_u hi)) (ha F σ H _ ow sl fun F1 H1 v e1 o1 c1 => hl F1 σ H1 _ o1 (sl.mono e1) fun F2 H2 e2 o2 => hu F2 σ H2 _ o2 (sl.mono (e1.trans e2)) fun F3 H3 e3 o3 => by
    obtain ⟨p, vs, rfl, h1, h2⟩ := hr F3 v ((c1.mono e2).mono e3)
    have e := (e1.trans e2).trans e3
    have hd := dqall_cut h2 l u
    rw [cut_map] at hd
    refine ⟨p, vs, rfl, .of (o3.ex _ _ h1), fun hw => ?_, fun hw m hm => ?_⟩
    · refine q F3 H3 _ e o3 (cl_dat (.tup h1 ?_))
      have e4 : cutV vs l u = vs := by
        unfold cutV
        rw [hw.1, hw.2, List.drop_zero, Nat.sub_zero, List.take_length]
      rw [e4] at hd
      exact hd
    · have fp := o3.ex.free hm
      exact q _ _ _ (e.trans (same_upd fp)) (o3.frozen hm) (cl_dat (.tup upd_same (dqall_mono (same_upd fp) _ _ hd))))
def lcT {α β : Type} (f : α → β) (xs : List α) : Option (List β) := if xs.length < sizeLine then some (xs.map f) else none
def mapO {α β : Type} (f : α → Option β) : List α → Option (List β)
  | [] => some []
  | x :: xs => (f x).bind fun y => (mapO f xs).bind fun ys => some (y :: ys)
def lcO {α β : Type} (f : α → Option β) (xs : List α) : Option (List β) := if xs.length < sizeLine then mapO f xs else none
theorem lcS_map {α β : Type} (f : α → β) : ∀ xs : List α, lcS (fun (_ : Unit) x => some (some (f x), ())) xs () = some (xs.map f, ())
  | [] => rfl
  | x :: xs => by
    unfold lcS
    show ((lcS _ xs ()).bind fun u => some ([f x] ++ u.1, u.2)) = _
    rw [lcS_map f xs]
    rfl
theorem lcS_mapO {α β : Type} (f : α → Option β) : ∀ (xs : List α) (ys : List β), mapO f xs = some ys → lcS (fun (_ : Unit) x => (f x).map fun y => (some y, ())) xs () = some (ys, ())
  | [], ys, h => by
    cases h
    rfl
  | x :: xs, ys, h => by
    unfold mapO at h
    obtain ⟨y, hy, h⟩ := bnd h
    obtain ⟨zs, hz, h⟩ := bnd h
    cases h
    unfold lcS
    rw [hy]
    show ((lcS _ xs ()).bind fun u => some ([y] ++ u.1, u.2)) = _
    rw [lcS_mapO f xs zs hz]
    rfl
theorem lcT_ok {α β : Type} {f : α → β} {xs : List α} {ys : List β} (h : lcT f xs = some ys) : xs.length < sizeLine ∧ lcS (fun (_ : Unit) x => some (some (f x), ())) xs () = some (ys, ()) := by
  unfold lcT at h
  split at h
  · rename_i hl
    cases h
    exact ⟨hl, lcS_map f xs⟩
  · cases h
theorem lcO_ok {α β : Type} {f : α → Option β} {xs : List α} {ys : List β} (h : lcO f xs = some ys) : xs.length < sizeLine ∧ lcS (fun (_ : Unit) x => (f x).map fun y => (some y, ())) xs () = some (ys, ()) := by
  unfold lcO at h
  split at h
  · rename_i hl
    exact ⟨hl, lcS_mapO f xs ys h⟩
  · cases h
end
end Z
namespace Z
open PySem PySem.Spec PyProof.Rows L2
abbrev absI (i : Int) : Int := if i < 0 then -i else i
abbrev maxI (i j : Int) : Int := if j > i then j else i
abbrev minI (i j : Int) : Int := if j < i then j else i
theorem fdivO_lit {i j : Int} (h : 0 < j) (h2 : j.natAbs.log2 < 9000) : fdivO i j = some (i / j) := if_pos ⟨h, h2⟩
theorem modO_lit {i j : Int} (h : 0 < j) : modO i j = some (i % j) := if_pos h
theorem and_fix {k l : Bool} (h : k = false → l = false) : (k && l) = l := by
  cases k with
  | true => rfl
  | false => rw [h rfl]; rfl
theorem or_fix {k l : Bool} (h : k = true → l = true) : (k || l) = l := by
  cases k with
  | false => rfl
  | true => rw [h rfl]; rfl
section
variable {X X' : Cx} {es es' : List Slot} {os os1 os2 : Os} {F0 : Hp} {rest : List Stmt} {st : Stmt} {D : Ends} {N V G W : List Str} {k i j l vi gi gj : Nat} {x y z : Str} {p pos : Pos} {e e2 a b c : Expr} {φ ψ : VP} {n : Ent} {α β : Type} {scope : Scope}
theorem sx_join (es' : List Slot) (os' : Os) (h : SX X es' os' F0 rest D) (kk : SX X es' os' F0 rest D → SX X es os F0 (st :: rest) D) : SX X es os F0 (st :: rest) D := kk h
theorem sx_end (h : ∀ F σ H, Same F0 F → Ow F os H → D.nx σ H) : SX X es os F0 [] D := sx_nil fun σ H a => let ⟨F, s, o, _⟩ := a; h F σ H s o
theorem fam_mg {f : Str} {v : Option Value} (h : Fam X scope X') (e : X.mg f = v) : X'.mg f = v := by
  obtain ⟨_, _, _, _, _, rfl⟩ := h
  exact e
theorem fam_cal {f : Str} {s : Stmt} {ps : List Str} {sp : PySem.W.Frag → Sp} {m : Nat} (h : Fam X scope X') (c : Cal X.prog X.w X.K X.mg X.base m f s ps (sp X.K)) : Cal X'.prog X'.w X'.K X'.mg X'.base m f s ps (sp X'.K) := by
  obtain ⟨_, _, _, _, _, rfl⟩ := h
  exact c
/-- a stored comprehension -/
theorem sw_ok {elt : Expr} {gs : List Comprehension} {l : Nat} {py : Pos} {env : Env} (hk : (match env.scope.kind with | .function => true | _ => false) = true) (hy : env.scope.names.lookup y = some .local) (hl : (py.line == pos.line) = true)
    (ha : (scope.names.any fun q => q.1 == y && (q.2 == .local || q.2 == .cell)) = false) : swapsWith (.ListComp elt gs scope pos) (some (.Name y py)) l env = pure true := by
  refine sw_true ?_ hy hl ha
  split at hk
  · assumption
  · cases hk
def RdX (X : Cx) (φ : VP) (os : Os) (d : PyData) : Prop := d.hasDict = false → ∀ F H v, Ow F os H → Cl φ F v → Dp X.K H v d
theorem rdx_dat {d : PyData} : RdX X (dat d) os d := fun z F H v ow c => dq_dp _ _ _ z (dq_mono ow.ex _ _ c.now)
theorem rdx_own {q : Addr} {ds : List PyData} (m : Nat) (h : os[m]? = some (q, ol ds)) : RdX X (own q) os (.list ds) := fun z F H v ow c => by
  obtain ⟨_, vs, ho, hv⟩ := (ow.perm (perm_at h)).atL
  obtain rfl : v = .ref q := c.now
  exact .lst (.of ho) (dqall_dp _ _ _ (by simpa [PyData.hasDict] using z) (dqall_mono ow.ex _ _ hv))
theorem r2_eqR {d d' : PyData} {t : Bool} (r1 : RdX X φ os d) (r2 : RdX X ψ os d') (h1 : SeqAt.shaped d = true) (h2 : SeqAt.shaped d' = true) (hk : PyData.eqv d d' = t) : R2X X (rEqD X.K) φ ψ os (dat (.bool t)) := fun F H x y Q ow cx cy q =>
  ⟨d, d', r1 (shaped_lay h1) F H x ow cx, r2 (shaped_lay h2) F H y ow cy, h1, h2, by rw [hk]; exact q F H _ (Same.refl F) ow (cl_dat (.bl _))⟩
theorem r2_neR {d d' : PyData} {t : Bool} (r1 : RdX X φ os d) (r2 : RdX X ψ os d') (h1 : SeqAt.shaped d = true) (h2 : SeqAt.shaped d' = true) (hk : (!PyData.eqv d d') = t) : R2X X (rNeD X.K) φ ψ os (dat (.bool t)) := fun F H x y Q ow cx cy q =>
  ⟨d, d', r1 (shaped_lay h1) F H x ow cx, r2 (shaped_lay h2) F H y ow cy, h1, h2, by rw [hk]; exact q F H _ (Same.refl F) ow (cl_dat (.bl _))⟩
section
variable [DecidableEq α] {e : α → PyData} {m : Nat} {x y : α}
theorem ex_eqR (B : Bd X N W G k) (h : EqvOk e) (s : ShOk e m) (hn : m ≤ 64) (r1 : RdX X φ os2 (e x)) (r2 : RdX X ψ os2 (e y)) (ha : EX X es os a φ os1) (hb : EX X es os1 b ψ os2) : EX X es os (.Compare a [.Eq] [b] pos) (dat (.bool (decide (x = y)))) os2 :=
  ex_cmp (op_eqD B.room.units) (r2_eqR r1 r2 (s.shaped hn x) (s.shaped hn y) (h x y)) (nomark _) ha hb
theorem tx_eqR (B : Bd X N W G k) (h : EqvOk e) (s : ShOk e m) (hn : m ≤ 64) (r1 : RdX X φ os2 (e x)) (r2 : RdX X ψ os2 (e y)) (ha : EX X es os a φ os1) (hb : EX X es os1 b ψ os2) : TX X es os (.Compare a [.Eq] [b] pos) (decide (x = y)) os2 :=
  tx_cmp (op_eqD B.room.units) (r2_eqR r1 r2 (s.shaped hn x) (s.shaped hn y) (h x y)) (nomark _) ha hb
theorem tx_neR (B : Bd X N W G k) (h : EqvOk e) (s : ShOk e m) (hn : m ≤ 64) (r1 : RdX X φ os2 (e x)) (r2 : RdX X ψ os2 (e y)) (ha : EX X es os a φ os1) (hb : EX X es os1 b ψ os2) : TX X es os (.Compare a [.NotEq] [b] pos) (!decide (x = y)) os2 :=
  tx_cmp (op_neD B.room.units) (r2_neR r1 r2 (s.shaped hn x) (s.shaped hn y) (by rw [h x y])) (nomark _) ha hb
end
theorem inV_ints (i : Int) : ∀ xs : List Int, inV (.int i) (xs.map L2.V.int) = xs.contains i
  | [] => rfl
  | x :: xs => by
    have ih := inV_ints i xs
    unfold inV at ih ⊢
    rw [List.map_cons, List.any_cons, ih, List.contains_cons]
    have e : eqV (.int x) (.int i) = (x == i) := by simp [eqV]
    rw [e, Bool.beq_comm]
theorem flat_ints : ∀ xs : List Int, (xs.map L2.V.int).all flatV = true
  | [] => rfl
  | x :: xs => by
    rw [List.map_cons, List.all_cons, flat_ints xs]
    rfl
theorem r2_ninT {i : Int} {xs : List Int} (hr : RdT ψ (xs.map PyData.int)) : R2X X (rIn X.K true) (dat (.int i)) ψ os (dat (.bool (!xs.contains i))) := fun F H x y Q ow cx cy q => by
  obtain ⟨p, vs, rfl, h1, h2⟩ := hr F y cy
  have ev := dqall_of_ints xs h2
  subst ev
  rw [clv_int cx]
  exact ⟨p, _, rfl, .inr (.of (ow.ex _ _ h1)), rfl, flat_ints xs, by rw [inV_ints]; exact q F H _ (Same.refl F) ow (cl_dat (.bl _))⟩
theorem r2_ninL {i : Int} {xs : List Int} (hr : RdL X ψ os (xs.map PyData.int)) : R2X X (rIn X.K true) (dat (.int i)) ψ os (dat (.bool (!xs.contains i))) := fun F H x y Q ow cx cy q => by
  obtain ⟨p, vs, rfl, h1, h2⟩ := hr F H y ow cy
  have ev := dqall_of_ints xs h2
  subst ev
  rw [clv_int cx]
  exact ⟨p, _, rfl, .inl h1, rfl, flat_ints xs, by rw [inV_ints]; exact q F H _ (Same.refl F) ow (cl_dat (.bl _))⟩
def repO {α : Type} (xs : List α) (m : Int) : Option (List α) := if -(2 ^ 63) ≤ m ∧ m < 2 ^ 63 ∧ xs.length * m.toNat ≤ sizeLine then some (List.replicate m.toNat xs).flatten else none
theorem dqall_rep {F : Hp} {ds : List PyData} {vs : List L2.V} (h : DqAll F vs ds) : ∀ m : Nat, DqAll F (List.replicate m vs).flatten (List.replicate m ds).flatten
  | 0 => .nil
  | m + 1 => by
    rw [List.replicate_succ, List.replicate_succ, List.flatten_cons, List.flatten_cons]
    exact dqall_app h (dqall_rep h m)
theorem map_rep {α β : Type} (f : α → β) (xs : List α) : ∀ m : Nat, (List.replicate m (xs.map f)).flatten = ((List.replicate m xs).flatten).map f
  | 0 => rfl
  | m + 1 => by rw [List.replicate_succ, List.replicate_succ, List.flatten_cons, List.flatten_cons, map_rep f xs m, List.map_append]
theorem en_rep {enc : α → PyData} {xs ys : List α} {m : Int} (h : repO xs m = some ys) (ha : EX X es os a (dat (.list (xs.map enc))) os1) (hb : EX X es os1 b (dat (.int m)) os2) : EN X es os (.BinOp a .Mult b pos) (ol (ys.map enc)) os2 := fun F σ H Q ow sl q => by
  unfold repO at h
  split at h
  · rename_i hl
    cases h
    refine we_of (pe_op op_rep pe_u pe_u) (ha F σ H _ ow sl fun F1 H1 v e1 o1 c1 => hb F1 σ H1 _ o1 (sl.mono e1) fun F2 H2 u e2 o2 c2 => ?_)
    obtain ⟨p, vs, rfl, h1, h2⟩ := dat_list o2 (c1.mono e2)
    refine ⟨p, m, vs, rfl, clv_int c2, h1, hl.1, hl.2.1, by rw [dqall_len h2, List.length_map]; exact hl.2.2, fun r hr => ?_⟩
    refine q F2 _ r (e1.trans e2) (o2.new hr fun G g => ⟨_, rfl, ?_⟩)
    rw [← map_rep]
    exact dqall_mono g _ _ (dqall_rep h2 _)
  · cases h
def rgO (a b : Int) : Option (List Int) := if -(2 ^ 62) ≤ a ∧ a < 2 ^ 62 ∧ -(2 ^ 62) ≤ b ∧ b < 2 ^ 62 ∧ (b - a).toNat ≤ 2 ^ 24 then some (range' a b) else none
theorem rgV_map (a b : Int) : rgV a b = (range' a b).map L2.V.int := by
  unfold rgV range'
  rw [List.map_map]
  rfl
theorem en_rgL1 {b : Int} {xs : List Int} (B : Bd X N W G k) (hj : G[gi]? = some "list") (hj2 : G[gj]? = some "range") (hm : X.mg "list" = none) (hm2 : X.mg "range" = none) (hr : rgO 0 b = some xs) (ha : EX X es os e (dat (.int b)) os1) {p2 pos2 : Pos}
    (na : starEach [(.Call (.Name "range" p2) [e] [] pos2)] X.env = (false, eval (.Call (.Name "range" p2) [e] [] pos2) X.env) :: starEach [] X.env := by rfl) (nb : starEach [e] X.env = (false, eval e X.env) :: starEach [] X.env := by rfl) :
    EN X es os (.Call (.Name "list" p) [.Call (.Name "range" p2) [e] [] pos2] [] pos) (ol (xs.map PyData.int)) os1 := fun F σ H Q ow sl q => by
  unfold rgO at hr
  split at hr
  · rename_i hl
    cases hr
    refine we_of (pe_listRg B.calm (B.gl _ (List.mem_of_getElem? hj)).1 hm (prg_1 (B.gl _ (List.mem_of_getElem? hj2)).1 hm2 pe_u nb) na) (ha F σ H _ ow sl fun F1 H1 v e1 o1 c1 => ⟨b, clv_int c1, hl, fun r hr => ?_⟩)
    rw [rgV_map]
    exact q F1 _ r e1 (o1.new hr fun G g => ⟨_, rfl, dqall_ints _⟩)
  · cases hr
theorem en_rgL2 {lo b : Int} {xs : List Int} (B : Bd X N W G k) (hj : G[gi]? = some "list") (hj2 : G[gj]? = some "range") (hm : X.mg "list" = none) (hm2 : X.mg "range" = none) (hr : rgO lo b = some xs) (ha : EX X es os e (dat (.int lo)) os1) (hb : EX X es os1 e2 (dat (.int b)) os2) {p2 pos2 : Pos}
    (na : starEach [(.Call (.Name "range" p2) [e, e2] [] pos2)] X.env = (false, eval (.Call (.Name "range" p2) [e, e2] [] pos2) X.env) :: starEach [] X.env := by rfl) (nb : starEach [e, e2] X.env = (false, eval e X.env) :: starEach [e2] X.env := by rfl) (nc : starEach [e2] X.env = (false, eval e2 X.env) :: starEach [] X.env := by rfl)
    (hpp : (backTo pos2 (starEach [e2] X.env)).any (·.1) = false := by rfl) : EN X es os (.Call (.Name "list" p) [.Call (.Name "range" p2) [e, e2] [] pos2] [] pos) (ol (xs.map PyData.int)) os2 := fun F σ H Q ow sl q => by
  unfold rgO at hr
  split at hr
  · rename_i hl
    cases hr
    refine we_of (pe_listRg B.calm (B.gl _ (List.mem_of_getElem? hj)).1 hm (prg_2 (B.gl _ (List.mem_of_getElem? hj2)).1 hm2 pe_u pe_u nb nc hpp) na) (ha F σ H _ ow sl fun F1 H1 v e1 o1 c1 => hb F1 σ H1 _ o1 (sl.mono e1) fun F2 H2 u e2 o2 c2 => ⟨lo, b, clv_int c1, clv_int c2, hl, fun r hr => ?_⟩)
    rw [rgV_map]
    exact q F2 _ r (e1.trans e2) (o2.new hr fun G g => ⟨_, rfl, dqall_ints _⟩)
  · cases hr
section
variable {S : Type} {elt iter : Expr} {ifs : List Expr} {xs : List α} {vp : α → VP} {enc : β → PyData} {s0 : S} {os0 : Os} {ys : List β} {sf : S} {tpos : Pos} {cc : Os → Prop}
theorem lc_mk1 {c : Os → Prop} (f : S → α → Option (Option β × S)) (OS : S → Os → Os) (s0 : S) (ys : List β) (sf : S) (B : Bd X N W G k) (hj : N[j]? = some x) (hun : (es[j]? = some un)) (hblk : blkC X.N X.env.scope scope [(x, j)] = true) (hown : ownB scope X.env.scope x = true) (hif : ifs.length ≤ 1)
    (hl : xs.length < sizeLine ∧ lcS f xs s0 = some (ys, sf)) (hi : IX X (.Name x tpos) es os iter xs vp c (OS s0 os0)) (hc : ∀ s tl, c (OS s tl)) (hperm : ∀ s q tl, (OS s (q :: tl)).Perm (q :: OS s tl))
    (hb : ∀ s x t tl, x ∈ xs → f s x = some t → ∃ b os1, ∀ X', Fam X scope X' → PTX X' (es.set j (sl (vp x))) (OS s tl) ifs b os1 ∧ (b = true → ∃ y, t.1 = some y ∧ EX X' (es.set j (sl (vp x))) os1 elt (dat (enc y)) (OS t.2 tl)) ∧ (b = false → t.1 = none ∧ os1 = OS t.2 tl)) :
    LcOk X es os (.Name x tpos) iter elt ifs scope [(x, j)] xs vp c (gName j) (fun x es => es.set j (sl (vp x))) enc f OS s0 os0 ys sf where
  calm := B.calm
  nd := B.hN ▸ B.nd
  ok := blkOk_by hblk
  pg := fun X' hX => pg_own hX B hj hown
  hv := fun m hm => by
    have e : m = j := by simpa using hm
    rw [e]
    exact hun
  hid := lc_id1
  hg := fun x F σ H v Q os2 sl hw ow c q => lc_gname x F σ H v Q os2 sl hw ow c q
  hif := hif
  hl := hl.2
  hz := hl.1
  hi := hi
  hc := hc
  hperm := hperm
  hb := hb
end
end
end Z
namespace Z
open PySem PySem.Spec PyProof.Rows L2
theorem elimL {α β γ : Type} {f : α → Option γ} {g : β → Option γ} {x : α} {c : Option γ} (h : Sum.elim f g (.inl x) = c) : f x = c := h
theorem elimR {α β γ : Type} {f : α → Option γ} {g : β → Option γ} {x : β} {c : Option γ} (h : Sum.elim f g (.inr x) = c) : g x = c := h
theorem len_ok {ds : List PyData} {n : Nat} (h : ds.length = n) (h2 : n ≤ sizeLine := by decide +kernel) : ds.length ≤ sizeLine := h ▸ h2
section
variable {X : Cx} {os : Os}
def noneB : PyData → Bool
  | .none => true
  | _ => false
theorem dq_none {F : Hp} : ∀ {v : L2.V} {d : PyData}, Dq F v d → decide (v = .non) = noneB d
  | _, _, .non => rfl
  | _, _, .bl _ => by simp [noneB]
  | _, _, .int _ => by simp [noneB]
  | _, _, .str _ => by simp [noneB]
  | _, _, .lst _ _ => by simp [noneB]
  | _, _, .tup _ _ => by simp [noneB]
  | _, _, .dctK _ _ _ => by simp [noneB]
  | _, _, .dctT _ _ _ => by simp [noneB]
theorem r2_isN {d : PyData} {t : Bool} (h : noneB d = t) : R2X X (fun x y H Q => y = .non ∧ Q (.bl (decide (x = .non))) H) (dat d) (dat .none) os (dat (.bool t)) := fun F H x y Q ow cx cy q =>
  ⟨by have := cy.now; cases this; rfl, by rw [dq_none cx.now, h]; exact q F H _ (Same.refl F) ow (cl_dat (.bl _))⟩
theorem r2_notN {d : PyData} {t : Bool} (h : (!noneB d) = t) : R2X X (fun x y H Q => y = .non ∧ Q (.bl (!decide (x = .non))) H) (dat d) (dat .none) os (dat (.bool t)) := fun F H x y Q ow cx cy q =>
  ⟨by have := cy.now; cases this; rfl, by rw [dq_none cx.now, h]; exact q F H _ (Same.refl F) ow (cl_dat (.bl _))⟩
end
theorem Ow.suf {F H : Hp} {rest : Os} : ∀ {l : Os}, Ow F (l ++ rest) H → Ow F rest H
  | [], h => h
  | _ :: l, h => Ow.suf (l := l) h.drop
section
variable {X : Cx} {es : List Slot} {os os1 rest : Os} {N V G : List Str} {k j : Nat} {x : Str} {p pos : Pos} {e : Expr} {st : Stmt} {pn : List Str} {α β : Type} {ps : α → List VP} {pre : α → Os} {m : α → Option β} {res : α → β → VP} {post : α → β → Os} {n : Ent} {gi : Nat} {φ : VP}
/-- a call whose one argument is a list made for it -/
theorem ex_calln {a : Addr → α} {b : β} (B : Bd X N V G k) (hj : G[gi]? = some x) (c : Cal X.prog X.w X.K X.mg X.base j x st pn (spZ ps pre m res post)) (hl : j ≤ k) (hm : ∀ q, m (a q) = some b) (ha : EN X es os e n rest)
    (hps : ∀ q, ps (a q) = [own q]) (hpre : ∀ q, pre (a q) = [(q, n)]) (hres : ∀ q, res (a q) b = φ)
    (he : starEach [e] X.env = (false, eval e X.env) :: starEach [] X.env := by rfl) (hpl : (backTo pos (starEach [] X.env)).any (·.1) = false := by rfl) : EX X es os (.Call (.Name x p) [e] [] pos) φ rest := fun F σ H Q ow sl q =>
  let ⟨u, v⟩ := B.gl x (List.mem_of_getElem? hj)
  we_of (pe_g (c.mono hl) B.gd B.room u (pa_cons (hs := he) pe_u pa_nil) (dun_d v) he hpl) (ha F σ H _ ow sl fun F1 H1 r e1 o1 => ⟨a r, b, F1, rest, by rw [hps]; exact ⟨_, [], rfl, cl_own, rfl⟩, by rw [hpre]; exact o1, hm r, fun F2 H2 v e2 o2 c2 => q F2 H2 v (e1.trans e2) o2.suf (hres r ▸ c2)⟩)
end
end Z
namespace Z
open PySem PySem.Spec PyProof.Rows L2 HT
section
variable {prog : Program} {w : World} {A : Around} {E : Value → Shared → Prop} {s : Shared}
theorem places_rev (n : Nat) : Builtin.Slice.slicePlaces ((n : Int) - 1) (-1) (-1) = n := by
  unfold Builtin.Slice.slicePlaces
  have z1 : ¬ ((-1 : Int) > 0) := by omega
  have z2 : (-(-1) : Int) = 1 := by omega
  simp only [z1, if_false, z2, Int.ediv_one]
  split <;> omega
theorem applied_rev {q : Addr} {vs : Value} {n : Nat} {Q : Int × Int × Nat → Shared → Prop} (hs : s.heap.IsSliceOf q .none .none vs) (ps : IsPart vs (some (-1)))
    (h : Q ((n : Int) - 1, -1, n) s) : wpAny (model prog w) A (Builtin.Slice.sliceApplied (.ref q) (pure (n : Int))) Q E s := by
  obtain ⟨o, h1, h2, h3⟩ := id hs
  unfold Builtin.Slice.sliceApplied Builtin.Slice.sliceFields
  refine wpAny_bind (wpAny_bind (wpAny_field h1 h3 (x := Value.none) rfl (wpAny_bind (wpAny_field h1 h3 (x := Value.none) rfl (wpAny_bind (wpAny_field h1 h3 (x := vs) rfl (wpAny_pure ?_)))))))
  refine wpAny_bind (slicePart_ ps ?_)
  show wpAny _ _ (if ((-1 : Int) == 0) = true then _ else _) _ _ s
  rw [if_neg (show ¬ ((-1 : Int) == 0) = true by decide)]
  refine wpAny_bind (slicePart_none (wpAny_bind (slicePart_none (wpAny_bind (wpAny_pure ?_)))))
  show wpAny _ _ (pure ((n : Int) - 1, (-1 : Int), Builtin.Slice.slicePlaces ((n : Int) - 1) (-1) (-1))) _ _ s
  rw [places_rev]
  exact wpAny_pure h
theorem fm_all (l : List Value) : ∀ m : Nat, m ≤ l.length → ((List.range m).filterMap fun k : Nat => l[m - 1 - k]?) = (l.take m).reverse
  | 0, _ => rfl
  | m + 1, hm => by
    have ih := fm_all l m (by omega)
    rw [List.range_succ_eq_map, List.filterMap_cons, List.filterMap_map]
    have e0 : l[m + 1 - 1 - 0]? = some l[m] := by
      rw [show m + 1 - 1 - 0 = m by omega]
      exact List.getElem?_eq_getElem (by omega)
    rw [e0]
    have e1 : ((fun k : Nat => l[m + 1 - 1 - k]?) ∘ Nat.succ) = fun k : Nat => l[m - 1 - k]? := by
      funext k
      show l[m + 1 - 1 - (k + 1)]? = _
      rw [show m + 1 - 1 - (k + 1) = m - 1 - k by omega]
    rw [e1, ih]
    rw [List.take_succ_eq_append_getElem (by omega), List.reverse_append]
    rfl
theorem fm_congr {α β : Type} {f g : α → Option β} : ∀ {l : List α}, (∀ x ∈ l, f x = g x) → l.filterMap f = l.filterMap g
  | [], _ => rfl
  | x :: l, h => by rw [List.filterMap_cons, List.filterMap_cons, h x List.mem_cons_self, fm_congr fun y hy => h y (List.mem_cons_of_mem _ hy)]
theorem pick_rev (xs : Array Value) : ((List.range xs.size).filterMap fun (k : Nat) => xs[(((xs.size : Int) - 1) + (k : Int) * (-1)).toNat]?).toArray = xs.toList.reverse.toArray := by
  have key : ((List.range xs.size).filterMap fun (k : Nat) => xs[(((xs.size : Int) - 1) + (k : Int) * (-1)).toNat]?) = ((List.range xs.size).filterMap fun k : Nat => xs.toList[xs.size - 1 - k]?) := by
    refine fm_congr fun k hk => ?_
    have := List.mem_range.mp hk
    rw [show (((xs.size : Int) - 1) + (k : Int) * (-1)).toNat = xs.size - 1 - k by omega, Array.getElem?_toList]
  rw [key, fm_all xs.toList xs.size (by simp), List.take_of_length_le (by simp)]
theorem item_rev {t q : Addr} {its : Array Value} {vs : Value} {Q : Value → Shared → Prop} (ht : IsTup s.heap t its) (hs : s.heap.IsSliceOf q .none .none vs) (ps : IsPart vs (some (-1)))
    (h : Q (.ref s.heap.objs.size) { s with heap := s.heap.push { cls := .type "tuple", data := .seq its.toList.reverse.toArray } }) (hz : its.size ≤ sizeLine) : wpAny (model prog w) A (getItem (.ref t) (.ref q)) Q E s := by
  have fits : sizeOk (.seq its.toList.reverse.toArray) := by
    show its.toList.reverse.toArray.size ≤ sizeLine
    rw [List.size_toArray, List.length_reverse, Array.length_toList]
    exact hz
  obtain ⟨o, h1, h2, h3⟩ := id hs
  have tq : s.TypeIs (.ref q) "slice" := ⟨o, h1, h2⟩
  unfold getItem
  try with_reducible refine wpAny_holding ?_
  first | refine wpAny_bind (wpAny_pure ?_) | skip
  refine wpAny_bind (wpAny_sequenceKey (IsTup.typeIs ht) (by decide) ?_)
  refine wpAny_bind (wpAny_callSpecial?_slot (name := Str.ofString "__getitem__") (IsTup.typeIs ht) PyProof.Rows.slot_tuple_getitem (wpAny_call_entry PyProof.Rows.slot_tuple_getitem (IsTup.typeIs ht) entry_tuple_getitem ?_ (args_tuple_getitem _ _)))
  show wpAny _ _ (Builtin.Tuple.tupleItemsOf (.ref t) >>= _) _ _ s
  refine wpAny_bind (tupleItemsOf_ ht (wpAny_bind (wpAny_typeOf tq ?_)))
  rw [if_pos (by decide)]
  refine wpAny_bind (applied_rev hs ps ?_)
  have hno : ¬ ((((its.size : Int) - 1) == 0 && (-1 : Int) == 1 && its.size == its.size) = true) := by
    intro z
    rw [Bool.and_eq_true, Bool.and_eq_true] at z
    exact absurd (eq_of_beq z.1.2) (by decide)
  show wpAny _ _ (if (((its.size : Int) - 1) == 0 && (-1 : Int) == 1 && its.size == its.size) = true then _ else _) _ _ s
  rw [if_neg hno, pick_rev]
  exact wpAny_bind (m := Builtin.Tuple.tupleExact _) (wpAny_newObj_type (wpAny_pure ⟨_, rfl, wpAny_pure h⟩) fits)
end
def tRevT (K : PySem.W.Frag) (te : TE) : TE := fun σ H Q => te σ H fun x H1 => ∃ a xs, x = .ref a ∧ SqT K H1 a xs ∧ ∀ p, H1 p = none → Q (.ref p) (upd H1 p (.tup xs.reverse))
section
variable {X : Cx}
theorem pe_revT {e : Expr} {te : TE} {k : Nat} {p1 p2 p3 pos : Pos} (he : PE X e te) : PE X (.Subscript e (.Slice none none (some (.UnaryOp .USub (.Constant (.int 1) k p1) p2)) p3) pos) (tRevT X.K te) := by
  refine ⟨fun pins s σ H Q I h => Subscript_ (thn (he.run pins s σ H _ I h) fun v s1 ⟨x, H1, I1, r1, q1⟩ => ?_)⟩
  obtain ⟨a, xs, rfl, hx, q⟩ := q1
  cases r1
  have hst : PO X (some (.UnaryOp .USub (.Constant (.int 1) k p1) p2)) (tPart (tUn (rU fun i => .int (-i)) (tC (.int 1)))) := po_some (pe_un un_neg pe_int)
  refine wpAny_Slice (thn (po_none.run pins s1 σ H1 (fun o Hx => o = none ∧ Hx = H1) I1 ⟨rfl, rfl⟩) fun vl s2 ⟨l, H2, I2, pl, u1, u2⟩ => ?_)
  subst u1 u2
  refine thn (po_none.run pins s2 σ H2 (fun o Hx => o = none ∧ Hx = H2) I2 ⟨rfl, rfl⟩) fun vu s3 ⟨u, H3, I3, pu, u1, u2⟩ => ?_
  subst u1 u2
  refine thn (hst.run pins s3 σ H3 (fun o Hx => o = some (-1) ∧ Hx = H3) I3 ⟨1, rfl, -1, rfl, rfl, rfl⟩) fun vs s4 ⟨o, H4, I4, ps, u1, u2⟩ => ?_
  subst u1 u2
  cases pl
  cases pu
  have J : Inv X pins σ H4 { s4 with heap := s4.heap.push { cls := .type "slice", data := .fields #[.none, .none, vs] } } := I4.kept (t' := s4.toks) fun b ob z => Heap.get?_push_of_some _ z
  obtain ⟨its, r, ht, hz⟩ := J.tuple hx
  have hlen := r.length
  show wpAny (model X.prog X.w) X.A (subscriptTail e (.Slice none none (some (.UnaryOp .USub (.Constant (.int 1) k p1) p2)) p3) (.ref a) (.ref s4.heap.objs.size)) (EP X pins σ Q) X.xe { s4 with heap := s4.heap.push { cls := .type "slice", data := .fields #[.none, .none, vs] } }
  refine tail_any (ops := [.ref a, .ref s4.heap.objs.size]) (IsTup.typeIs ht) PyProof.Rows.slot_tuple_getitem.lookup ?_ (by with_unfolding_all rfl)
  refine item_rev ht (Heap.IsSliceOf.new _ Value.none Value.none vs) ps ?_ (by rw [List.size_toArray]; omega)
  refine ⟨.ref _, _, J.laid (t' := s4.toks) (o := .tup xs.reverse) (fun b ob z => Heap.get?_push_of_some _ z) (Nat.le_refl _) ?_, rfl, q _ (J.hok.fresh (Nat.le_refl _))⟩
  exact ⟨by rw [List.length_reverse]; exact hz, _, r.reverse, IsTup.new _ _⟩
end
section
variable {X : Cx} {es : List Slot} {os os1 os2 : Os} {pos : Pos} {a b : Expr} {φ : VP}
theorem ex_revT {α : Type} {enc : α → PyData} {xs : List α} {kk : Nat} {p1 p2 p3 : Pos} (hr : RdT φ (xs.map enc)) (ha : EX X es os a φ os1) : EX X es os (.Subscript a (.Slice none none (some (.UnaryOp .USub (.Constant (.int 1) kk p1) p2)) p3) pos) (dat (.tuple (xs.reverse.map enc))) os1 := fun F σ H Q ow sl q =>
  we_of (pe_revT pe_u) (ha F σ H _ ow sl fun F1 H1 v e1 o1 c1 => by
    obtain ⟨p, vs, rfl, h1, h2⟩ := hr F1 v c1
    refine ⟨p, vs, rfl, .of (o1.ex _ _ h1), fun m hm => ?_⟩
    have fp := o1.ex.free hm
    have hd := dqall_rev h2
    rw [← List.map_reverse] at hd
    exact q _ _ _ (e1.trans (same_upd fp)) (o1.frozen hm) (cl_dat (.tup upd_same (dqall_mono (same_upd fp) _ _ hd))))
end
def mapG {α β : Type} (f : α → Option (Option β)) : List α → Option (List β)
  | [] => some []
  | x :: xs => (f x).bind fun y => (mapG f xs).bind fun ys => some (y.toList ++ ys)
def lcG {α β : Type} (f : α → Option (Option β)) (xs : List α) : Option (List β) := if xs.length < sizeLine then mapG f xs else none
theorem lcS_mapG {α β : Type} (f : α → Option (Option β)) : ∀ (xs : List α) (ys : List β), mapG f xs = some ys → lcS (fun (_ : Unit) x => (f x).map fun y => (y, ())) xs () = some (ys, ())
  | [], ys, h => by
    cases h
    rfl
  | x :: xs, ys, h => by
    unfold mapG at h
    obtain ⟨y, h1, h2⟩ := bnd h
    obtain ⟨zs, h3, h4⟩ := bnd h2
    obtain rfl := som h4
    unfold lcS
    rw [h1]
    show ((lcS _ xs ()).bind fun u => some (y.toList ++ u.1, u.2)) = _
    rw [lcS_mapG f xs zs h3]
    rfl
theorem lcG_ok {α β : Type} {f : α → Option (Option β)} {xs : List α} {ys : List β} (h : lcG f xs = some ys) : xs.length < sizeLine ∧ lcS (fun (_ : Unit) x => (f x).map fun y => (y, ())) xs () = some (ys, ()) := by
  unfold lcG at h
  split at h
  · rename_i hl
    exact ⟨hl, lcS_mapG f xs ys h⟩
  · cases h
end Z
set_option maxHeartbeats 4000000
namespace Z
open PySem PySem.Spec PyProof.Rows L2
theorem mul_same (l : Addr) (items : Array Value) (n : Nat) (dd : Option Addr) (sl : Array (Option Value)) (x : Int) (u : Tok) (c0 : (decide (x < -(2 ^ 63)) || decide (x ≥ 2 ^ 63)) = false) (c1 : (items.isEmpty || x == 1) = true) :
    Meets (Builtin.«tuple.__mul__» ⟨[.ref l, .int x u], []⟩) (fun _ R s => s.heap.get? l = some { cls := .type "tuple", dict := dd, data := .seq items n, slots := sl } ∧ R (.ok (.ret (.ref l))) s) :=
  .of_wp fun prog w A R s h => by
    obtain ⟨hp, g, d, tk, os⟩ := s
    obtain ⟨hl, h⟩ := h
    have f1 := AutoSeq1.idx_int
    wp_walk using wpAny_loadPart' hl
    repeat (first
      | (refine wpAny_ite_false (decide_eq_false (by rw [c0]; exact Bool.false_ne_true)) ?_; wp_walk using wpAny_loadPart' hl)
      | (refine wpAny_ite_true (decide_eq_true (by rw [c1])) ?_; wp_walk using wpAny_loadPart' hl))
    exact ⟨_, rfl, h⟩
theorem mul_none (l : Addr) (items : Array Value) (n : Nat) (dd : Option Addr) (sl : Array (Option Value)) (x : Int) (u : Tok) (c0 : (decide (x < -(2 ^ 63)) || decide (x ≥ 2 ^ 63)) = false) (c1 : (items.isEmpty || x == 1) = false) (c2 : (decide (x ≤ 0) || items.isEmpty) = true) :
    Meets (Builtin.«tuple.__mul__» ⟨[.ref l, .int x u], []⟩) (fun _ R s => s.heap.get? l = some { cls := .type "tuple", dict := dd, data := .seq items n, slots := sl } ∧
      R (.ok (.ret (Value.ref s.heap.objs.size))) { s with heap := s.heap.push { cls := Value.type "tuple", data := Data.seq #[] }, toks := s.toks }) :=
  .of_wp fun prog w A R s h => by
    obtain ⟨hp, g, d, tk, os⟩ := s
    obtain ⟨hl, h⟩ := h
    have f1 := AutoSeq1.idx_int
    wp_walk using wpAny_loadPart' hl
    repeat (first
      | (refine wpAny_ite_false (decide_eq_false (by rw [c0]; exact Bool.false_ne_true)) ?_; wp_walk using wpAny_loadPart' hl)
      | (refine wpAny_ite_false (decide_eq_false (by rw [c1]; exact Bool.false_ne_true)) ?_; wp_walk using wpAny_loadPart' hl)
      | (refine wpAny_ite_true (decide_eq_true (by rw [c2])) ?_; wp_walk using wpAny_loadPart' hl))
    exact ⟨_, rfl, h⟩
/-- a tuple, so many times behind one another -/
def rRepA (K : PySem.W.Frag) : R2 := fun x y H Q => ∃ l k xs, x = .ref l ∧ y = .int k ∧ SqT K H l xs ∧ -(2 ^ 63) ≤ k ∧ k < 2 ^ 63 ∧ ((xs = [] ∨ k = 1) → Q (.ref l) H) ∧ (xs ≠ [] → k ≤ 0 → ∀ p, H p = none → Q (.ref p) (upd H p (.tup []))) ∧
  (xs ≠ [] → 2 ≤ k → k ≤ 1000 ∧ xs.length ≤ 1000 ∧ ∀ p, H p = none → Q (.ref p) (upd H p (.tup (List.replicate k.toNat xs).flatten)))
section
variable {X : Cx}
theorem op_repA : OpR X (binaryOp .Mult) (rRepA X.K) := by
  intro pins s σ H x y v u Q I rx ry h
  obtain ⟨l, k, xs, rfl, rfl, hT, k0, k1, qa, qb, qc⟩ := h
  by_cases hbig : xs ≠ [] ∧ 2 ≤ k
  · obtain ⟨g1, g2, g3⟩ := qc hbig.1 hbig.2
    exact op_repT pins s σ H _ _ v u Q I rx ry ⟨l, k, xs, rfl, rfl, hT, hbig.1, hbig.2, g1, g2, g3⟩
  cases rx
  obtain ⟨t, rfl⟩ := ry
  obtain ⟨its, r, ⟨⟨cls, dd, data, sl⟩, ho, hc, n, hd⟩, hs⟩ := I.tuple hT
  simp only at hc hd
  subst hc hd
  have c0 : (decide (k < -(2 ^ 63)) || decide (k ≥ 2 ^ 63)) = false := by
    rw [Bool.or_eq_false_iff]
    exact ⟨decide_eq_false (by omega), decide_eq_false (by omega)⟩
  have emp : its.toArray.isEmpty = decide (xs = []) := by
    cases r with
    | nil => rfl
    | cons _ _ => rfl
  by_cases h1 : xs = [] ∨ k = 1
  · have c1 : (its.toArray.isEmpty || k == 1) = true := by
      rw [emp, Bool.or_eq_true, decide_eq_true_eq, beq_iff_eq]
      exact h1
    refine wpAny_binaryOp_repeat_ref (T := "tuple") (U := "int") (by decide) ⟨_, ho, rfl⟩ (fun s2 => typeIs_int s2 k t) noFill_tuple_mul F.fills_int_mul F.slot_int_rmul repeat_tuple F.slot_int_index.lookup
      (call_meets F.slot_int_rmul (typeIs_int s k t) F.entry_int_rmul (F.args_int_rmul_2 _ _) (int_rmul_tuple k t l its.toArray n dd sl) ⟨ho, rfl, ⟨_, ho, rfl⟩, call_meets F.slot_tuple_mul ⟨_, ho, rfl⟩ F.entry_tuple_mul (F.args_tuple_mul_2 _ _) (mul_same l its.toArray n dd sl k t c0 c1) ⟨ho, ?_⟩⟩)
    exact ⟨.ref l, H, I, rfl, qa h1⟩
  · have hne : xs ≠ [] := fun z => h1 (.inl z)
    have hk : k ≤ 0 := by
      have z1 : ¬ 2 ≤ k := fun z => hbig ⟨hne, z⟩
      have z2 : ¬ k = 1 := fun z => h1 (.inr z)
      omega
    have c1 : (its.toArray.isEmpty || k == 1) = false := by
      rw [emp, Bool.or_eq_false_iff]
      exact ⟨decide_eq_false hne, beq_eq_false_iff_ne.mpr (by omega)⟩
    have c2 : (decide (k ≤ 0) || its.toArray.isEmpty) = true := by
      rw [decide_eq_true hk, Bool.true_or]
    refine wpAny_binaryOp_repeat_ref (T := "tuple") (U := "int") (by decide) ⟨_, ho, rfl⟩ (fun s2 => typeIs_int s2 k t) noFill_tuple_mul F.fills_int_mul F.slot_int_rmul repeat_tuple F.slot_int_index.lookup
      (call_meets F.slot_int_rmul (typeIs_int s k t) F.entry_int_rmul (F.args_int_rmul_2 _ _) (int_rmul_tuple k t l its.toArray n dd sl) ⟨ho, rfl, ⟨_, ho, rfl⟩, call_meets F.slot_tuple_mul ⟨_, ho, rfl⟩ F.entry_tuple_mul (F.args_tuple_mul_2 _ _) (mul_none l its.toArray n dd sl k t c0 c1 c2) ⟨ho, ?_⟩⟩)
    refine ⟨.ref s.heap.objs.size, _, I.laid (t' := s.toks) (o := .tup []) (fun b ob z => Heap.get?_push_of_some _ z) (Nat.le_refl _) ?_, rfl, qb hne hk _ (I.hok.fresh (Nat.le_refl _))⟩
    exact ⟨Nat.zero_le _, [], .nil, IsTup.new _ _⟩
end
section
variable {X : Cx} {es : List Slot} {os os1 os2 : Os} {pos : Pos} {a b : Expr}
/-- the result of t * m -/
def repT {α : Type} (xs : List α) (m : Int) : Option (List α) := if -(2 ^ 63) ≤ m ∧ m ≤ 1000 ∧ xs.length ≤ 1000 then some (List.replicate m.toNat xs).flatten else none
theorem rep_nil {α : Type} : ∀ m : Nat, (List.replicate m ([] : List α)).flatten = []
  | 0 => rfl
  | m + 1 => by rw [List.replicate_succ, List.flatten_cons, rep_nil m]; rfl
theorem ex_repT {α : Type} {enc : α → PyData} {xs ys : List α} {m : Int} (h : repT xs m = some ys) (ha : EX X es os a (dat (.tuple (xs.map enc))) os1) (hb : EX X es os1 b (dat (.int m)) os2) : EX X es os (.BinOp a .Mult b pos) (dat (.tuple (ys.map enc))) os2 := fun F σ H Q ow sl q => by
  unfold repT at h
  split at h
  · rename_i hl
    cases h
    refine we_of (pe_op op_repA pe_u pe_u) (ha F σ H _ ow sl fun F1 H1 v e1 o1 c1 => hb F1 σ H1 _ o1 (sl.mono e1) fun F2 H2 u e2 o2 c2 => ?_)
    obtain ⟨p, vs, rfl, h1, h2⟩ := rdt_dat F2 v (c1.mono e2)
    have e := e1.trans e2
    have hd := dqall_rep h2 m.toNat
    rw [map_rep] at hd
    have hlen := dqall_len h2
    rw [List.length_map] at hlen
    refine ⟨p, m, vs, rfl, clv_int c2, .of (o2.ex _ _ h1), hl.1, by omega, fun h0 => ?_, fun hne hk r hr => ?_, fun hne hk => ⟨hl.2.1, by omega, fun r hr => ?_⟩⟩
    · refine q F2 H2 _ e o2 (cl_dat (.tup h1 ?_))
      rcases h0 with h0 | h0
      · subst h0
        have hx : xs = [] := List.eq_nil_of_length_eq_zero hlen.symm
        subst hx
        rw [rep_nil]
        exact h2
      · subst h0
        have e9 : (List.replicate (1 : Int).toNat xs).flatten = xs := by
          show (List.replicate 1 xs).flatten = xs
          rw [List.replicate_one, List.flatten_cons, List.flatten_nil, List.append_nil]
        rw [e9]
        exact h2
    · have fp := o2.ex.free hr
      have e9 : m.toNat = 0 := by omega
      rw [e9] at q
      exact q _ _ _ (e.trans (same_upd fp)) (o2.frozen hr) (cl_dat (.tup upd_same .nil))
    · have fp := o2.ex.free hr
      exact q _ _ _ (e.trans (same_upd fp)) (o2.frozen hr) (cl_dat (.tup upd_same (dqall_mono (same_upd fp) _ _ hd)))
  · cases h
end
end Z
namespace Z
open PySem PySem.Spec PyProof.Rows L2
section
variable {X : Cx} {os : Os}
theorem rc_len2 {d1 d2 : PyData} : RCX (fun xs H Q => ∃ p ys, xs = [L2.V.ref p] ∧ (SqL X.K H p ys ∨ SqT X.K H p ys) ∧ Q (.int ys.length) H) [dat (.tuple [d1, d2])] os (dat (.int 2)) os := rc_lenT (ds := [d1, d2]) rdt_dat
end
end Z
namespace Z
open PySem PySem.Spec PyProof.Rows L2
theorem new_enum1 {v : Value} {o : Obj} {H : Heap → Prop} (B : Begins v o H) :
    Meets (Builtin.«enumerate.__new__» ⟨[.type "enumerate", v], []⟩) (fun _ R s => H s.heap ∧
      R (.ok (.ret (.ref (s.heap.push o).objs.size))) { s with heap := (s.heap.push o).push { cls := .type "enumerate", data := .fields #[.none, .bool false, .ref s.heap.objs.size, rawInt 0, .none, .none] } }) :=
  .of_wp fun prog w A R s h => by
    obtain ⟨hp, g, d, tk, os⟩ := s
    obtain ⟨h1, h⟩ := h
    have hsub := sub_enumerate
    have q1 : ∀ {A' : Around} {E : Value → Shared → Prop} {Q : Value → Shared → Prop}, Q (.ref hp.objs.size) ⟨hp.push o, g, d, tk, os⟩ → wpAny (model prog w) A' (pyIter v) Q E ⟨hp, g, d, tk, os⟩ := fun q => B.iter prog w _ _ ⟨hp, g, d, tk, os⟩ _ h1 q
    wp_walk using q1
    refine wpAny_stack_any fun st => wpAny_pure ?_
    split
    · rename_i c _ _ _ _ _
      cases (c == Value.type "enumerate") <;> (wp_walk using q1; exact ⟨_, rfl, h⟩)
    · wp_walk using q1
      exact ⟨_, rfl, h⟩
theorem enum_begins1 {prog : Program} {w : World} {A : Around} {E : Value → Shared → Prop} {s : Shared} {v : Value} {o : Obj} {H : Heap → Prop} {Q : Value → Shared → Prop} (B : Begins v o H) (h1 : H s.heap)
    (h : ∀ g, IsEnum g (s.heap.objs.size + 1) s.heap.objs.size 0 .none → g.get? s.heap.objs.size = some o → (∀ b u, s.heap.get? b = some u → g.get? b = some u) → Q (.ref (s.heap.objs.size + 1)) { s with heap := g }) :
    wpAny (model prog w) A (call (.type "enumerate") [v]) Q E s := by
  refine callType_new F.called_enumerate (by decide) (F.typeCall_enumerate_1 _) (F.newCall_enumerate_1 _) (fun obj => F.args_object_init_2 obj _) F.entry_enumerate_new (new_enum1 B) ⟨h1, ?_⟩
  have hz : (s.heap.push o).objs.size = s.heap.objs.size + 1 := Heap.size_push ..
  show _ ∧ _
  rw [hz]
  have he : IsEnum ((s.heap.push o).push { cls := .type "enumerate", data := .fields #[.none, .bool false, .ref s.heap.objs.size, rawInt 0, .none, .none] }) (s.heap.objs.size + 1) s.heap.objs.size 0 .none := by
    have q := Heap.get?_push_size (s.heap.push o) (o := { cls := .type "enumerate", data := .fields #[.none, .bool false, .ref s.heap.objs.size, rawInt 0, .none, .none] }) rfl
    rw [hz] at q
    exact q
  exact ⟨⟨_, he, rfl⟩, h _ he (Heap.get?_push_of_some _ (Heap.get?_push_size _ B.free)) fun b u x => Heap.get?_push_of_some _ (Heap.get?_push_of_some _ x)⟩
/-- the items of the tuple at a, each in a new pair -/
def IteT (K : PySem.W.Frag) (a : Addr) : It :=
  ⟨fun i H => ∃ (xs : List L2.V) (x : L2.V), SqT K H a xs ∧ xs[i]? = some x, fun i H v H' => ∃ T x, v = .ref T ∧ H T = none ∧ H' = upd H T (.tup [.int (i : Nat), x]) ∧ ∀ xs, SqT K H a xs → xs[i]? = some x, fun i H => ∃ xs : List L2.V, SqT K H a xs ∧ xs.length ≤ i⟩
theorem turn_enumT {P : Program} {w : World} {K : PySem.W.Frag} {elts : List Expr} {kk : Nat} {tpos : Pos} (a e it : Addr) :
    Turn P w K (.Tuple elts kk tpos) (IteT K a) [e, it] e (fun i h => (∃ old, IsEnum h e it ((i : Nat) : Int) old) ∧ h.IsTupleIter it a i ∧ e ≠ it ∧ a ≠ e ∧ a ≠ it) where
  mem := by simp
  obj := fun i h st b hb => by
    obtain ⟨⟨old, he⟩, ⟨o, ho, hc, hd⟩, _⟩ := st
    have z : b = e ∨ b = it := by simpa using hb
    rcases z with z | z
    · rw [z]
      exact ⟨_, he, fun v q => nomatch q⟩
    · rw [z]
      exact ⟨o, ho, fun v q => by rw [hd] at q; cases q⟩
  keep := fun i h g st k => by
    obtain ⟨⟨old, he⟩, hi, r⟩ := st
    exact ⟨⟨old, k e (by simp) _ he⟩, hi.at fun o q => k it (by simp) o q, r⟩
  item := by
    intro X hP hw hK hc i pins s σ H E I hf st hg
    subst hP hw hK
    obtain ⟨⟨old, he⟩, hit, hne, hae, hai⟩ := st
    obtain ⟨xs, x, hq, hx⟩ := hg
    obtain ⟨its, rv, p, hz⟩ := I.tuple hq
    obtain ⟨u, hu, ru⟩ := rv.get hx
    have hel : e < s.heap.objs.size := Heap.lt_size he
    have hil : it < s.heap.objs.size := by
      obtain ⟨_, q, _⟩ := hit
      exact Heap.lt_size q
    have D := Draws.tuple (prog := X.prog) (w := X.w) (A := X.A.in1) (I.ok.hd hc) it a hai its.toArray
    have hlt : i < its.toArray.size := by
      have := (List.getElem?_eq_some_iff.mp hu).1
      simpa using this
    refine wpAny_pyNext_enum_itemD D he ⟨hit, p⟩ hlt hne (by simp [hne, Ne.symm hae]) fun x' h' tk hP' ho hst hT hsz hk => ?_
    have ex : x' = u := by
      have q : its.toArray[i]? = some u := by simpa using hu
      exact Option.some.inj (hP'.symm.trans q)
    subst ex
    refine ⟨_, rfl, wpAny_letOwnedTupleGo_enum (s := { s with heap := h', toks := tk + 1 }) ho fun h'' he' sb => ?_⟩
    have hT2 : h''.get? s.heap.objs.size = some { cls := .type "tuple", data := .seq #[.int i tk, x'] } := (sb.2 _ (Nat.ne_of_gt hel)).trans hT
    have new : ObjOk X.prog X.w (upd H s.heap.objs.size (.tup [.int (i : Nat), x])) h'' s.heap.objs.size (.tup [.int (i : Nat), x]) :=
      ⟨by show 2 ≤ sizeLine; decide, [.int i tk, x'], .cons ⟨_, rfl⟩ (.cons ru .nil), ⟨_, hT2, rfl, _, rfl⟩⟩
    have I1 : Inv X pins σ (upd H s.heap.objs.size (.tup [.int (i : Nat), x])) { s with heap := h'', toks := tk + 1 } :=
      I.turnedNew (ch := [e, it]) (fun b ob hb q => (sb.2 b (fun z => hb (by simp [z]))).trans (hk b ob (fun z => hb (by simp [z])) (fun z => hb (by simp [z])) q)) hf (Nat.le_refl _) new
    refine ⟨.ref s.heap.objs.size, _, I1, rfl, ⟨_, x, rfl, I.hok.fresh (Nat.le_refl _), rfl, fun ys hy => by rw [I.tuple_inj hy hq]; exact hx⟩, ⟨⟨x', ?_⟩, hst.1.at fun o q => (sb.2 it (Ne.symm hne)).trans q, hne, hae, hai⟩, fun b hb => ?_⟩
    · have e1 : ((i + 1 : Nat) : Int) = (i : Int) + 1 := by omega
      rw [e1]
      exact he'
    · have hb' : b < s.heap.objs.size := by
        have z : b = e ∨ b = it := by simpa using hb
        rcases z with z | z
        · rw [z]
          exact hel
        · rw [z]
          exact hil
      rw [upd_ne (Nat.ne_of_lt hb')]
      exact (hf b hb).1
  done := by
    intro X hP hw hK hc i pins s σ H E I hf st hg
    subst hP hw hK
    obtain ⟨⟨old, he⟩, hit, hne, hae, hai⟩ := st
    obtain ⟨xs, hq, hx⟩ := hg
    obtain ⟨its, rv, p, hz⟩ := I.tuple hq
    obtain ⟨f0, f1, f2, f3, f4, f5⟩ := hf it (by simp)
    have hl := rv.length
    have hT : s.TypeIs (.ref e) "enumerate" := ⟨_, he, rfl⟩
    unfold pyNext
    refine wpAny_bind (wpAny_attempt (wpAny_callSpecial?_slot (name := Str.ofString "__next__") hT F.slot_enumerate_next (wpAny_call_entry F.slot_enumerate_next hT F.entry_enumerate_next ?_ (F.args_enumerate_next_1 _))))
    show wpAny _ _ (field (.ref e) 2 >>= _) _ _ _
    refine wpAny_bind (wpAny_field he rfl (x := .ref it) rfl ?_)
    refine wpAny_bind (wpAny_nextOf_tuple_end (A := X.A.in1) (I.ok.hd hc) hit (show s.heap.IsTuple a its.toArray from p) (by simp; omega) fun h' x he' hx' => ?_)
    obtain ⟨o, ho, hcx⟩ := hx'
    refine wpAny_bind (wpAny_isInstance (T := "StopIteration") (b := true) ⟨o, ho, hcx⟩ isSubtype_stop ?_)
    exact wpAny_pure ⟨rfl, I.turned (t' := s.toks) (fun b o hb q => he' b o hb q) f0 f1 f3 f4 f5⟩
  self := fun A i s Q E st h => by
    obtain ⟨⟨_, he⟩, _⟩ := st
    exact wpAny_pyIter_enum he h
def iEnumT (K : PySem.W.Frag) (ta : TA) : TI := fun σ H R => ta σ H fun vs H1 => ∃ a xs, vs = [.ref a] ∧ SqT K H1 a xs ∧ R (IteT K a) H1
theorem pi_enumT {X : Cx} {e : Expr} {ta : TA} {p pos tpos : Pos} {elts : List Expr} {kk : Nat} (hg : Gl X "enumerate") (hm : X.mg "enumerate" = none) (ha : PA X [e] ta) (hs : starEach [e] X.env = [(false, eval e X.env)] := by rfl) :
    PI X (.Tuple elts kk tpos) (.Call (.Name "enumerate" p) [e] [] pos) (iEnumT X.K ta) := by
  refine ⟨fun pins s σ H R I h => Call_ (ld_blt I hg hm boot_enumerate (PyProof.Rows.callWith_type1 (thn (ha.run pos pins s σ H _ I h) fun us s1 ⟨vs, H1, I1, r1, q1⟩ => ?_) hs rfl))⟩
  obtain ⟨a, xs, rfl, hq, q⟩ := q1
  cases r1 with
  | cons r rr =>
    cases rr
    cases r
    obtain ⟨its, rv, p2, hz⟩ := I1.tuple hq
    have ht : s1.heap.IsTuple a its.toArray := p2
    have hal : a < s1.heap.objs.size := by
      obtain ⟨_, z, _⟩ := ht
      exact Heap.lt_size z
    refine enum_begins1 (begins_tuple a its.toArray) ht fun h' he hit hk => wpAny_pyIter_enum he ?_
    have I2 : Inv X pins σ H1 { s1 with heap := h' } := I1.kept (t' := s1.toks) hk
    refine ⟨s1.heap.objs.size + 1, [s1.heap.objs.size + 1, s1.heap.objs.size], _, _, H1, rfl, I2, turn_enumT a (s1.heap.objs.size + 1) s1.heap.objs.size, ⟨⟨.none, he⟩, ⟨_, hit, rfl, rfl⟩, Nat.succ_ne_self _, Nat.ne_of_lt (Nat.lt_succ_of_lt hal), Nat.ne_of_lt hal⟩, fun b hb => ?_, q⟩
    have z : b = s1.heap.objs.size + 1 ∨ b = s1.heap.objs.size := by simpa using hb
    have hle : s1.heap.objs.size ≤ b := by
      rcases z with z | z
      · rw [z]
        exact Nat.le_succ _
      · rw [z]
        exact Nat.le_refl _
    exact I1.fpOk hle (I1.hok.fresh hle)
section
variable {X : Cx} {es : List Slot} {os os1 os2 os3 : Os} {N V G W : List Str} {k i vi gi j : Nat} {x : Str} {p pos : Pos} {e e2 e3 a : Expr} {φ : VP} {n : Ent} {α : Type}
theorem ix_enumT {elts : List Expr} {kk : Nat} {tpos : Pos} {xs : List α} {enc : α → PyData} (B : Bd X N W G k) (hj : G[gi]? = some "enumerate") (hm : X.mg "enumerate" = none) (he : EX X es os e φ os1) (hr : RdT φ (xs.map enc)) (hs : starEach [e] X.env = [(false, eval e X.env)] := by rfl) :
    IX X (.Tuple elts kk tpos) es os (.Call (.Name "enumerate" p) [e] [] pos) (enum xs) (fun x => dat (.tuple [.int x.1, enc x.2])) anyOs os1 := fun F σ H R ow sl q =>
  wi_of (pi_enumT (B.gl _ (List.mem_of_getElem? hj)).1 hm pa_u hs) (wa_of (pa_cons pe_u pa_nil hs) (he F σ H _ ow sl fun F1 H1 v e1 o1 c1 => by
    obtain ⟨a, vs, rfl, h1, h2⟩ := hr F1 v c1
    refine ⟨a, vs, rfl, .of (o1.ex _ _ h1), q F1 H1 _ e1 o1 fun F2 H2 os2 i s ow2 k2 => ?_⟩
    have g1 := s _ _ h1
    have g2 := dqall_mono s _ _ h2
    have hl := dqall_len g2
    rw [List.length_map] at hl
    have hT : SqT X.K H2 a vs := .of (ow2.ex _ _ g1)
    refine ⟨fun h => ⟨vs, hT, by rw [enum_len] at h; omega⟩, fun x hx => ?_⟩
    obtain ⟨hz1, hz2⟩ := zipIdx_get hx
    obtain ⟨u, hu, hd⟩ := dqall_map g2 hz2
    refine ⟨⟨vs, u, hT, hu⟩, fun w H3 y => ?_⟩
    obtain ⟨T, w2, rfl, hTn, rfl, hy⟩ := y
    have ew : vs[i]? = some w2 := hy vs hT
    rw [hu] at ew
    cases ew
    have fT := ow2.ex.free hTn
    refine ⟨_, same_upd fT, ow2.frozen hTn, cl_dat (.tup upd_same ?_)⟩
    rw [hz1]
    exact .cons (.int _) (.cons (dq_mono (same_upd fT) _ _ hd) .nil)))
theorem ex_extend {apos cpos : Pos} {q : Addr} {enc : α → PyData} {xs xs0 ys zs : List α} (ha : catO xs ys = some zs) (ho : EX X es os a (own q) os) (h0 : os[j]? = some (q, ol (xs0.map enc))) (he : EN X es os e (ol (ys.map enc)) os1) (hj : os1[j]? = some (q, ol (xs.map enc)))
    (hbase : attributeBase a "extend" X.env (eval a X.env) = eval a X.env := by rfl) (hline : (apos.endLine == cpos.line) = true := by rfl) (hs : starEach [e] X.env = (false, eval e X.env) :: starEach [] X.env := by rfl)
    (hfew : ((backTo cpos (starEach [e] X.env)).all (fun x => !x.1) && (backToKw cpos (keywordEach [] X.env)).all (fun x => x.1.isSome) && decide ([e].length + ([] : List Keyword).length + (if ([] : List Keyword).isEmpty then 0 else 1) < 30)) = true := by rfl)
    (hplain : (backTo cpos (starEach [] X.env)).any (·.1) = false := by rfl) : EX X es os (.Call (.Attribute a "extend" apos) [e] [] cpos) (dat .none) (os1.set j (q, ol (zs.map enc))) := fun F σ H Q ow sl qq => by
  unfold catO at ha
  split at ha
  · rename_i hz
    cases ha
    refine we_of (pe_bm PySem.F.plainAttrs_list PySem.F.slot_list_extend PySem.F.type_list_extend mt_extend pe_u pa_u hbase hfew hline hs hplain) (ho F σ H _ ow sl fun F1 H1 v e1 o1 c1 => ?_)
    obtain rfl : v = .ref q := c1.now
    obtain ⟨_, _, _, ty⟩ := ty_own (K := X.K) o1 h0
    refine ⟨ty, wa_of (pa_cons pe_u pa_nil hs) (he F1 σ H1 _ o1 (sl.mono e1) fun F2 H2 r e2 o2 => ?_)⟩
    obtain ⟨vs, hp, hv, _⟩ := ty_own (K := X.K) o2.drop hj
    obtain ⟨_, us, hu, hus⟩ := o2.atL
    have l1 := dqall_len hv
    have l2 := dqall_len hus
    rw [List.length_map] at l1 l2
    have o3 := ow_set o2.drop hj (dqall_app hv hus)
    rw [← List.map_append] at o3
    exact ⟨q, r, vs, us, rfl, rfl, hp, hu, by omega, qq F2 _ .non (e1.trans e2) o3 (cl_dat .non)⟩
  · cases ha
/-- the first place at which an integer stands -/
def ixOf : List Int → Int → Option Nat
  | [], _ => none
  | x :: xs, y => if x = y then some 0 else (ixOf xs y).map (· + 1)
theorem ixOf_spec : ∀ {xs : List Int} {y : Int} {m : Nat}, ixOf xs y = some m → xs[m]? = some y ∧ ∀ l z, l < m → xs[l]? = some z → z ≠ y
  | [], _, _, h => by cases h
  | x :: xs, y, m, h => by
    unfold ixOf at h
    by_cases hx : x = y
    · rw [if_pos hx] at h
      cases h
      exact ⟨by rw [hx]; rfl, fun l z hl => absurd hl (Nat.not_lt_zero _)⟩
    · rw [if_neg hx] at h
      cases e : ixOf xs y with
      | none =>
        rw [e] at h
        cases h
      | some m' =>
        rw [e] at h
        cases h
        obtain ⟨h1, h2⟩ := ixOf_spec e
        refine ⟨by simpa using h1, fun l z hl hz => ?_⟩
        cases l with
        | zero =>
          simp at hz
          exact hz ▸ hx
        | succ l => exact h2 l z (Nat.lt_of_succ_lt_succ hl) (by simpa using hz)
theorem ex_index {apos cpos : Pos} {xs : List Int} {y : Int} {m : Nat} (hm : ixOf xs y = some m) (hr : ∀ o, o = os1 ∨ o = os2 → RdL X φ o (xs.map PyData.int)) (ho : EX X es os a φ os1) (he : EX X es os1 e (dat (.int y)) os2)
    (hbase : attributeBase a "index" X.env (eval a X.env) = eval a X.env := by rfl) (hline : (apos.endLine == cpos.line) = true := by rfl) (hs : starEach [e] X.env = (false, eval e X.env) :: starEach [] X.env := by rfl)
    (hfew : ((backTo cpos (starEach [e] X.env)).all (fun x => !x.1) && (backToKw cpos (keywordEach [] X.env)).all (fun x => x.1.isSome) && decide ([e].length + ([] : List Keyword).length + (if ([] : List Keyword).isEmpty then 0 else 1) < 30)) = true := by rfl)
    (hplain : (backTo cpos (starEach [] X.env)).any (·.1) = false := by rfl) : EX X es os (.Call (.Attribute a "index" apos) [e] [] cpos) (dat (.int (m : Int))) os2 := fun F σ H Q ow sl qq => by
  refine we_of (pe_bm PySem.F.plainAttrs_list PySem.F.slot_list_index PySem.F.type_list_index mt_index pe_u pa_u hbase hfew hline hs hplain) (ho F σ H _ ow sl fun F1 H1 v e1 o1 c1 => ?_)
  obtain ⟨b, us, rfl, h1, h2⟩ := hr os1 (.inl rfl) F1 H1 v o1 c1
  refine ⟨.inl ⟨rfl, us, h1⟩, wa_of (pa_cons pe_u pa_nil hs) (he F1 σ H1 _ o1 (sl.mono e1) fun F2 H2 u e2 o2 c2 => ?_)⟩
  obtain ⟨b', us', eb, g1, g2⟩ := hr os2 (.inr rfl) F2 H2 _ o2 (c1.mono e2)
  cases eb
  have ev := dqall_of_ints xs g2
  subst ev
  rw [clv_int c2]
  obtain ⟨s1, s2⟩ := ixOf_spec hm
  refine ⟨b, _, .int y, m, .int y, rfl, rfl, g1, rfl, flat_ints xs, by rw [List.getElem?_map, s1]; rfl, by simp [eqV], fun l z hl hz => ?_, qq F2 H2 _ (e1.trans e2) o2 (cl_dat (.int _))⟩
  rw [List.getElem?_map] at hz
  cases ez : xs[l]? with
  | none =>
    rw [ez] at hz
    cases hz
  | some z' =>
    rw [ez] at hz
    cases hz
    have := s2 l z' hl ez
    simp [eqV, this]
end
end Z
namespace Z
open PySem PySem.Spec PyProof.Rows L2
/-- an encoding that is never None -/
def NoN {α : Type} (e : α → PyData) : Prop := ∀ a, noneB (e a) = false
theorem non_pair {α β : Type} {e : α → PyData} {f : β → PyData} : NoN (eP e f) := fun _ => rfl
theorem none_opt {α : Type} {e : α → PyData} (h : NoN e) : ∀ x : Option α, noneB (eO e x) = x.isNone
  | none => rfl
  | some a => h a
theorem some_opt {α : Type} {e : α → PyData} (h : NoN e) (x : Option α) : (!noneB (eO e x)) = x.isSome := by
  rw [none_opt h]
  cases x <;> rfl
end Z
namespace Z
open PySem PySem.Spec PyProof.Rows L2
inductive Lk (Q : Hp → Prop) : Hp → Prop
  | now {H : Hp} : Q H → Lk Q H
  | lock {H : Hp} (d : Addr) (u : HO) : H d = some u → Mut (some u) → (∀ od, Lk Q (upd H d (.frz od u))) → Lk Q H
theorem Lk.bind {Q R : Hp → Prop} {H : Hp} (h : Lk Q H) (k : ∀ H, Q H → Lk R H) : Lk R H := by
  induction h with
  | now q => exact k _ q
  | lock d u a b _ ih => exact .lock d u a b ih
theorem Lk.inv {X : Cx} {pins : List (Addr × Obj)} {σ : L2.St} {s : Shared} {Q : Hp → Prop} {H : Hp} (h : Lk Q H) : Inv X pins σ H s → ∃ H', Inv X pins σ H' s ∧ Q H' := by
  induction h with
  | now q => exact fun I => ⟨_, I, q⟩
  | lock d u a b _ ih =>
    intro I
    obtain ⟨od, I1⟩ := I.lock a b
    exact ih od I1
theorem wps_lk {X : Cx} {sts : List Stmt} {D : Ends} {σ : L2.St} {H : Hp} (h : Lk (WPs X sts D σ) H) : WPs X sts D σ H := fun pins s I =>
  let ⟨_, I2, q⟩ := h.inv I; q pins s I2
/-- what is owned as e may be given away, as the data d -/
def Frb (e : Ent) (d : PyData) : Prop := ∀ p F os H (Q : Hp → Prop), Ow F ((p, e) :: os) H → (∀ F' H', Same F F' → Ow F' os H' → Dq F' (.ref p) d → Q H') → Lk Q H
section
variable {κ β : Type} [DecidableEq κ]
def dGet (d : List (κ × β)) (k : κ) : Option β := (d.find? fun kv => decide (kv.1 = k)).map (·.2)
def dPut (d : List (κ × β)) (k : κ) (v : β) : List (κ × β) :=
  if (d.any fun kv => decide (kv.1 = k)) = true then d.map (fun kv => if kv.1 = k then (kv.1, v) else kv) else d ++ [(k, v)]
def dDel (d : List (κ × β)) (k : κ) : List (κ × β) := d.filter fun kv => decide (kv.1 ≠ k)
/-- a store in bounds -/
def dPutO (d : List (κ × β)) (k : κ) (v : β) : Option (List (κ × β)) := if d.length < sizeLine then some (dPut d k v) else none
/-- d.pop(k) -/
def dPopO (d : List (κ × β)) (k : κ) : Option (β × List (κ × β)) := (dGet d k).map fun v => (v, dDel d k)
end
theorem dGet_map {κ β γ : Type} [DecidableEq κ] (f : β → γ) (k : κ) : ∀ d : List (κ × β), dGet (d.map fun p => (p.1, f p.2)) k = (dGet d k).map f
  | [] => rfl
  | (a, b) :: d => by
    have ih := dGet_map f k d
    unfold dGet at ih ⊢
    rw [List.map_cons, List.find?_cons, List.find?_cons]
    by_cases h : a = k
    · simp [h]
    · simp only [h, decide_false]
      exact ih
theorem dPut_map {κ β γ : Type} [DecidableEq κ] (f : β → γ) (k : κ) (v : β) (d : List (κ × β)) : dPut (d.map fun p => (p.1, f p.2)) k (f v) = (dPut d k v).map fun p => (p.1, f p.2) := by
  unfold dPut
  rw [List.any_map]
  have e : ((fun kv : κ × γ => decide (kv.1 = k)) ∘ fun p : κ × β => (p.1, f p.2)) = fun kv => decide (kv.1 = k) := rfl
  rw [e]
  split
  · rw [List.map_map, List.map_map]
    congr 1
    funext p
    show (if p.1 = k then (p.1, f v) else (p.1, f p.2)) = _
    by_cases h : p.1 = k
    · simp [h]
    · simp [h]
  · simp
theorem dDel_map {κ β γ : Type} [DecidableEq κ] (f : β → γ) (k : κ) (d : List (κ × β)) : dDel (d.map fun p => (p.1, f p.2)) k = (dDel d k).map fun p => (p.1, f p.2) := by
  unfold dDel
  rw [List.filter_map]
  rfl
/-- the keys renamed one to one -/
theorem dGet_key {κ κ' β : Type} [DecidableEq κ] [DecidableEq κ'] {f : κ → κ'} (hf : ∀ a b, f a = f b → a = b) (k : κ) : ∀ d : List (κ × β), dGet (d.map fun p => (f p.1, p.2)) (f k) = dGet d k
  | [] => rfl
  | (a, b) :: d => by
    have ih := dGet_key hf k d
    unfold dGet at ih ⊢
    rw [List.map_cons, List.find?_cons, List.find?_cons]
    by_cases h : a = k
    · simp [h]
    · have h2 : ¬ f a = f k := fun z => h (hf _ _ z)
      simp only [h, h2, decide_false]
      exact ih
theorem dPut_key {κ κ' β : Type} [DecidableEq κ] [DecidableEq κ'] {f : κ → κ'} (hf : ∀ a b, f a = f b → a = b) (k : κ) (v : β) (d : List (κ × β)) : dPut (d.map fun p => (f p.1, p.2)) (f k) v = (dPut d k v).map fun p => (f p.1, p.2) := by
  unfold dPut
  rw [List.any_map]
  have e : ((fun kv : κ' × β => decide (kv.1 = f k)) ∘ fun p : κ × β => (f p.1, p.2)) = fun kv => decide (kv.1 = k) := by
    funext p
    show decide (f p.1 = f k) = decide (p.1 = k)
    exact decide_eq_decide.mpr ⟨hf _ _, fun z => by rw [z]⟩
  rw [e]
  split
  · rw [List.map_map, List.map_map]
    congr 1
    funext p
    show (if f p.1 = f k then (f p.1, v) else (f p.1, p.2)) = _
    by_cases h : p.1 = k
    · simp [h]
    · have h2 : ¬ f p.1 = f k := fun z => h (hf _ _ z)
      simp [h, h2]
  · simp
theorem dDel_key {κ κ' β : Type} [DecidableEq κ] [DecidableEq κ'] {f : κ → κ'} (hf : ∀ a b, f a = f b → a = b) (k : κ) (d : List (κ × β)) : dDel (d.map fun p => (f p.1, p.2)) (f k) = (dDel d k).map fun p => (f p.1, p.2) := by
  unfold dDel
  rw [List.filter_map]
  congr 1
  refine List.filter_congr fun p _ => ?_
  show decide (f p.1 ≠ f k) = decide (p.1 ≠ k)
  exact decide_eq_decide.mpr ⟨fun h z => h (by rw [z]), fun h z => h (hf _ _ z)⟩
theorem valV_dGet {κ : Type} [DecidableEq κ] (d : List (κ × L2.V)) (k : κ) : valV d k = dGet d k := rfl
theorem putK_dPut {κ : Type} [DecidableEq κ] (d : List (κ × L2.V)) (k : κ) (v : L2.V) : putK d k v = dPut d k v := rfl
inductive Kd (κ : Type) where
  | fl (f : κ → Key)
  | tu (f : κ → List Key)
section
variable {κ : Type}
def Kd.ek : Kd κ → κ → PyData
  | .fl f, k => kPD (f k)
  | .tu f, k => .tuple ((f k).map kPD)
def Kd.Inj : Kd κ → Prop
  | .fl f => ∀ a b, f a = f b → a = b
  | .tu f => ∀ a b, f a = f b → a = b
def Kd.ho : Kd κ → List (κ × L2.V) → HO
  | .fl f, kvs => .dK (kvs.map fun p => (f p.1, p.2))
  | .tu f, kvs => .dT (kvs.map fun p => (f p.1, p.2))
def Kd.pd (kd : Kd κ) (ps : List (κ × PyData)) : PyData := match kd with
  | .fl f => .dict (ps.map fun p => (kPD (f p.1), p.2))
  | .tu f => .dict ((.none, .none) :: ps.map fun p => (PyData.tuple ((f p.1).map kPD), p.2))
theorem Kd.ntup (kd : Kd κ) (kvs : List (κ × L2.V)) : ∀ xs, kd.ho kvs ≠ .tup xs := by cases kd <;> intro _ z <;> cases z
theorem Kd.mut (kd : Kd κ) (kvs : List (κ × L2.V)) : Mut (some (kd.ho kvs)) := by cases kd <;> trivial
end
abbrev kI : Kd Int := .fl Sum.inl
abbrev kTI : Kd (List Int) := .tu fun l => l.map Sum.inl
theorem inj_kI : kI.Inj := fun a b h => Sum.inl.inj h
theorem inj_kTI : kTI.Inj := fun a b h => by
  have : ∀ l m : List Int, l.map (Sum.inl : Int → Key) = m.map Sum.inl → l = m := fun l => by
    induction l with
    | nil => intro m h; cases m with
      | nil => rfl
      | cons => cases h
    | cons x l ih => intro m h; cases m with
      | nil => cases h
      | cons y m =>
        rw [List.map_cons, List.map_cons] at h
        injection h with h1 h2
        rw [Sum.inl.inj h1, ih m h2]
  exact this a b h
theorem kPD_inj : ∀ {a b : Key}, kPD a = kPD b → a = b
  | .inl _, .inl _, h => by injection h with h; rw [h]
  | .inr _, .inr _, h => by injection h with h; rw [h]
  | .inl _, .inr _, h => nomatch h
  | .inr _, .inl _, h => nomatch h
theorem kPDs_inj : ∀ {a b : List Key}, a.map kPD = b.map kPD → a = b
  | [], [], _ => rfl
  | [], _ :: _, h => nomatch h
  | _ :: _, [], h => nomatch h
  | x :: a, y :: b, h => by
    rw [List.map_cons, List.map_cons] at h
    injection h with h1 h2
    rw [kPD_inj h1, kPDs_inj h2]
section
variable {κ : Type}
inductive DV (F : Hp) : List (κ × L2.V) → List (κ × PyData) → Prop
  | nil : DV F [] []
  | cons {k : κ} {v : L2.V} {d : PyData} {kvs : List (κ × L2.V)} {ds : List (κ × PyData)} : Dq F v d → DV F kvs ds → DV F ((k, v) :: kvs) ((k, d) :: ds)
theorem dv_mono {F F' : Hp} (e : Same F F') : ∀ {kvs : List (κ × L2.V)} {ds : List (κ × PyData)}, DV F kvs ds → DV F' kvs ds
  | _, _, .nil => .nil
  | _, _, .cons h1 h2 => .cons (dq_mono e _ _ h1) (dv_mono e h2)
theorem dv_len {F : Hp} : ∀ {kvs : List (κ × L2.V)} {ds : List (κ × PyData)}, DV F kvs ds → kvs.length = ds.length
  | _, _, .nil => rfl
  | _, _, .cons h1 h2 => by rw [List.length_cons, List.length_cons, dv_len h2]
theorem dv_app {F : Hp} : ∀ {kvs us : List (κ × L2.V)} {ds es : List (κ × PyData)}, DV F kvs ds → DV F us es → DV F (kvs ++ us) (ds ++ es)
  | _, _, _, _, .nil, h => h
  | _, _, _, _, .cons h1 h2, h => .cons h1 (dv_app h2 h)
theorem dv_at {F : Hp} : ∀ {kvs : List (κ × L2.V)} {ds : List (κ × PyData)} {i : Nat} {k : κ} {d : PyData}, DV F kvs ds → ds[i]? = some (k, d) → ∃ v, kvs[i]? = some (k, v) ∧ Dq F v d
  | _, _, i, k, d, .nil, h => by simp at h
  | _, _, 0, k, d, .cons h1 h2, h => by
    simp at h
    obtain ⟨rfl, rfl⟩ := h
    exact ⟨_, rfl, h1⟩
  | _, _, i + 1, k, d, .cons h1 h2, h => dv_at (i := i) h2 (by simpa using h)
theorem dv_keys {F : Hp} : ∀ {kvs : List (κ × L2.V)} {ds : List (κ × PyData)}, DV F kvs ds → kvs.map (·.1) = ds.map (·.1)
  | _, _, .nil => rfl
  | _, _, .cons h1 h2 => by rw [List.map_cons, List.map_cons, dv_keys h2]
theorem dv_vals {F : Hp} : ∀ {kvs : List (κ × L2.V)} {ds : List (κ × PyData)}, DV F kvs ds → DqAll F (kvs.map (·.2)) (ds.map (·.2))
  | _, _, .nil => .nil
  | _, _, .cons h1 h2 => .cons h1 (dv_vals h2)
variable [DecidableEq κ]
theorem dv_get {F : Hp} (k : κ) : ∀ {kvs : List (κ × L2.V)} {ds : List (κ × PyData)}, DV F kvs ds → (∀ d, dGet ds k = some d → ∃ v, dGet kvs k = some v ∧ Dq F v d) ∧ (dGet ds k = none → dGet kvs k = none)
  | _, _, .nil => ⟨fun d h => (nomatch h), fun _ => rfl⟩
  | _, _, .cons (k := j) h1 h2 => by
    have ih := dv_get k h2
    unfold dGet at ih ⊢
    rw [List.find?_cons, List.find?_cons]
    by_cases e : j = k
    · simp only [e, decide_true]
      exact ⟨fun d h => by cases h; exact ⟨_, rfl, h1⟩, fun h => nomatch h⟩
    · simp only [e, decide_false]
      exact ih
theorem dv_any {F : Hp} (k : κ) : ∀ {kvs : List (κ × L2.V)} {ds : List (κ × PyData)}, DV F kvs ds → (kvs.any fun kv => decide (kv.1 = k)) = ds.any fun kv => decide (kv.1 = k)
  | _, _, .nil => rfl
  | _, _, .cons (k := j) h1 h2 => by
    rw [List.any_cons, List.any_cons, dv_any k h2]
theorem dv_rep {F : Hp} (k : κ) {v : L2.V} {d : PyData} (hd : Dq F v d) : ∀ {kvs : List (κ × L2.V)} {ds : List (κ × PyData)}, DV F kvs ds → DV F (kvs.map fun kv => if kv.1 = k then (kv.1, v) else kv) (ds.map fun kv => if kv.1 = k then (kv.1, d) else kv)
  | _, _, .nil => .nil
  | _, _, .cons (k := j) h1 h2 => by
    rw [List.map_cons, List.map_cons]
    by_cases e : j = k
    · simp only [e, if_true]
      exact .cons hd (dv_rep k hd h2)
    · simp only [e, if_false]
      exact .cons h1 (dv_rep k hd h2)
theorem dv_put {F : Hp} (k : κ) {v : L2.V} {d : PyData} (hd : Dq F v d) {kvs : List (κ × L2.V)} {ds : List (κ × PyData)} (h : DV F kvs ds) : DV F (dPut kvs k v) (dPut ds k d) := by
  unfold dPut
  rw [dv_any k h]
  split
  · exact dv_rep k hd h
  · exact dv_app h (.cons hd .nil)
theorem dv_del {F : Hp} (k : κ) : ∀ {kvs : List (κ × L2.V)} {ds : List (κ × PyData)}, DV F kvs ds → DV F (dDel kvs k) (dDel ds k)
  | _, _, .nil => .nil
  | _, _, .cons (k := j) h1 h2 => by
    have ih := dv_del k h2
    unfold dDel at ih ⊢
    rw [List.filter_cons, List.filter_cons]
    by_cases e : j = k
    · simp only [e, ne_eq, not_true_eq_false, decide_false, Bool.false_eq_true, if_false]
      exact ih
    · simp only [ne_eq, e, not_false_eq_true, decide_true, if_true]
      exact .cons h1 ih
end
section
variable {κ : Type}
def od (kd : Kd κ) (d : List (κ × PyData)) : Ent := fun p F h => ∃ kvs, h = one p (kd.ho kvs) ∧ DV F kvs d
theorem uni_od {kd : Kd κ} {d : List (κ × PyData)} : Uni (od kd d) (fun F o => ∃ kvs, o = kd.ho kvs ∧ DV F kvs d) := fun p F h ⟨kvs, e, x⟩ => ⟨_, e, kvs, rfl, x⟩
theorem od_one {kd : Kd κ} {d : List (κ × PyData)} {p : Addr} {F : Hp} {kvs : List (κ × L2.V)} (h : DV F kvs d) : ∀ F', Same F F' → od kd d p F' (one p (kd.ho kvs)) := fun _ g => ⟨kvs, rfl, dv_mono g h⟩
theorem dq_pd {F : Hp} {kd : Kd κ} {a : Addr} {ob : Obj} {kvs : List (κ × L2.V)} {d : List (κ × PyData)} (h : F a = some (.frz ob (kd.ho kvs))) (k : DV F kvs d) : Dq F (.ref a) (kd.pd d) := by
  have kk := dv_keys k
  have kv := dv_vals k
  cases kd with
  | fl f =>
    refine .dctK h ?_ ?_
    · rw [List.map_map, List.map_map]
      have : (kvs.map (·.1)).map (fun x => kPD (f x)) = (d.map (·.1)).map (fun x => kPD (f x)) := by rw [kk]
      rw [List.map_map, List.map_map] at this
      exact this
    · rw [List.map_map, List.map_map]
      exact kv
  | tu f =>
    refine .dctT h ?_ ?_
    · rw [List.map_map, List.map_map]
      have : (kvs.map (·.1)).map (fun x => PyData.tuple ((f x).map kPD)) = (d.map (·.1)).map (fun x => PyData.tuple ((f x).map kPD)) := by rw [kk]
      rw [List.map_map, List.map_map] at this
      exact this
    · rw [List.map_map, List.map_map]
      exact kv
theorem dv_of {F : Hp} {κ' : Type} {f : κ → κ'} {g : κ' → PyData} (hg : ∀ a b, g a = g b → a = b) : ∀ {kvs : List (κ' × L2.V)} {d : List (κ × PyData)}, kvs.map (fun p => g p.1) = d.map (fun p => g (f p.1)) → DqAll F (kvs.map (·.2)) (d.map (·.2)) → ∃ kvs' : List (κ × L2.V), kvs = kvs'.map (fun p => (f p.1, p.2)) ∧ DV F kvs' d
  | [], [], _, _ => ⟨[], rfl, .nil⟩
  | [], _ :: _, h, _ => nomatch h
  | _ :: _, [], h, _ => nomatch h
  | (a, v) :: kvs, (k, x) :: d, h, hv => by
    rw [List.map_cons, List.map_cons] at h hv
    injection h with h1 h2
    cases hv with
    | cons v1 v2 =>
      obtain ⟨r, rfl, hr⟩ := dv_of hg h2 v2
      exact ⟨(k, v) :: r, by rw [List.map_cons, ← hg _ _ h1], .cons v1 hr⟩
theorem pd_dq {F : Hp} {kd : Kd κ} {v : L2.V} {d : List (κ × PyData)} (h : Dq F v (kd.pd d)) : ∃ a ob kvs, v = .ref a ∧ F a = some (.frz ob (kd.ho kvs)) ∧ DV F kvs d := by
  cases kd with
  | fl f =>
    generalize e : (Kd.fl f).pd d = x at h
    cases h with
    | dctK h1 h2 h3 =>
      injection e with e
      subst e
      rw [List.map_map] at h2 h3
      obtain ⟨r, rfl, hr⟩ := dv_of (f := f) (g := kPD) (fun _ _ => kPD_inj) h2 h3
      exact ⟨_, _, r, rfl, h1, hr⟩
    | dctT h1 h2 h3 =>
      injection e with e
      cases d with
      | nil => cases e
      | cons p d =>
        rw [List.map_cons] at e
        injection e with e _
        injection e with e _
        cases hk : f p.1 <;> rw [hk] at e <;> cases e
    | _ => cases e
  | tu f =>
    generalize e : (Kd.tu f).pd d = x at h
    cases h with
    | dctT h1 h2 h3 =>
      injection e with e
      injection e with _ e
      subst e
      rw [List.map_map] at h2 h3
      obtain ⟨r, rfl, hr⟩ := dv_of (f := f) (g := fun l : List Key => PyData.tuple (l.map kPD)) (fun a b z => kPDs_inj (by injection z)) h2 h3
      exact ⟨_, _, r, rfl, h1, hr⟩
    | @dctK a ob kvs ps h1 h2 h3 =>
      injection e with e
      subst e
      cases kvs with
      | nil => cases h2
      | cons p kvs =>
        rw [List.map_cons, List.map_cons] at h2
        injection h2 with e _
        cases hk : p.1 <;> rw [hk] at e <;> cases e
    | _ => cases e
theorem frb_od {kd : Kd κ} {d : List (κ × PyData)} : Frb (od kd d) (kd.pd d) := fun p F os H Q ow q => by
  obtain ⟨fp, o, ho, _, kvs, rfl, hv⟩ := ow.atU uni_od
  refine .lock p _ ho (kd.mut kvs) fun ob => .now ?_
  have o1 : Ow F ((p, fun q G h => h = one q (.frz ob (kd.ho kvs)) ∧ DV G kvs d) :: os) (upd H p (.frz ob (kd.ho kvs))) := ow.putU uni_od fun G g => ⟨rfl, dv_mono g hv⟩
  obtain ⟨o', ho', ⟨rfl, hv'⟩, s, o2⟩ := o1.freezeU (r := fun G o => o = .frz ob (kd.ho kvs) ∧ DV G kvs d) fun q G h ⟨e, x⟩ => ⟨_, e, rfl, x⟩
  exact q _ _ s o2 (dq_pd upd_same (dv_mono s hv'))
end
end Z
namespace Z
open PySem PySem.Spec PyProof.Rows L2
abbrev eM {κ β : Type} (e : β → PyData) (w : List (κ × β)) : List (κ × PyData) := w.map fun p => (p.1, e p.2)
abbrev eD {κ β : Type} (kd : Kd κ) (e : β → PyData) : List (κ × β) → PyData := fun w => kd.pd (eM e w)
section
variable {κ β : Type} {kd : Kd κ} {enc : β → PyData}
def KeyV (kd : Kd κ) (k : κ) (F : Hp) (y : L2.V) : Prop := match kd with
  | .fl f => y = kV (f k)
  | .tu f => ∃ b, y = .ref b ∧ F b = some (.tup ((f k).map kV))
theorem dq_key {F : Hp} : ∀ {k : Key} {v : L2.V}, Dq F v (kPD k) → v = kV k
  | .inl _, _, h => by cases h; rfl
  | .inr _, _, h => by cases h; rfl
theorem dqall_keys {F : Hp} : ∀ {ks : List Key} {vs : List L2.V}, DqAll F vs (ks.map kPD) → vs = ks.map kV
  | [], _, h => by cases h; rfl
  | k :: ks, _, h => by
    cases h with
    | cons h1 h2 => rw [dq_key h1, dqall_keys h2, List.map_cons]
theorem key_val {k : κ} {F : Hp} {y : L2.V} (h : Cl (dat (kd.ek k)) F y) : KeyV kd k F y := by
  have q := h.now
  cases kd with
  | fl f => exact dq_key q
  | tu f =>
    have q : Dq F y (.tuple ((f k).map kPD)) := q
    cases q with
    | tup a b => exact ⟨_, rfl, by rw [← dqall_keys b]; exact a⟩
variable [DecidableEq κ]
theorem dget_of (hi : kd.Inj) {F H : Hp} (s : Same F H) {a : Addr} {kvs : List (κ × L2.V)} {k : κ} {y : L2.V} (e : Rd H a (kd.ho kvs)) (hk : KeyV kd k F y) : DGet H a y (dGet kvs k) := by
  cases kd with
  | fl f => exact .inl ⟨_, f k, e, hk, (dGet_key hi k kvs).symm⟩
  | tu f =>
    obtain ⟨b, rfl, hb⟩ := hk
    exact .inr ⟨_, f k, b, e, rfl, s _ _ hb, (dGet_key hi k kvs).symm⟩
theorem dput_of (hi : kd.Inj) {F H : Hp} (s : Same F H) {a : Addr} {kvs : List (κ × L2.V)} {k : κ} {y v : L2.V} (e : H a = some (kd.ho kvs)) (hk : KeyV kd k F y) (hl : kvs.length < sizeLine) : DPut H a y v (upd H a (kd.ho (dPut kvs k v))) := by
  cases kd with
  | fl f => exact .inl ⟨_, f k, e, hk, by rw [List.length_map]; exact hl, by rw [putK_dPut, dPut_key hi]; rfl⟩
  | tu f =>
    obtain ⟨b, rfl, hb⟩ := hk
    exact .inr ⟨_, f k, b, e, rfl, s _ _ hb, by rw [List.length_map]; exact hl, by rw [putK_dPut, dPut_key hi]; rfl⟩
theorem isD_of {H : Hp} {a : Addr} {kvs : List (κ × L2.V)} (e : Rd H a (kd.ho kvs)) : IsD H a := by
  cases kd with
  | fl f => exact .inl ⟨_, e⟩
  | tu f => exact .inr ⟨_, e⟩
end
theorem Bd.u1 {X : Cx} {N V G : List Str} {n : Nat} (B : Bd X N V G n) : X.A.units + 1 < cLine := by
  have := B.room.units
  omega
section
variable {κ β : Type}
def RdD (kd : Kd κ) (φ : VP) (os : Os) (d : List (κ × PyData)) : Prop := ∀ F H v, Ow F os H → Cl φ F v → ∃ a kvs, v = .ref a ∧ Rd H a (kd.ho kvs) ∧ DV F kvs d
theorem rdd_dat {kd : Kd κ} {os : Os} {d : List (κ × PyData)} : RdD kd (dat (kd.pd d)) os d := fun F H v ow c => by
  obtain ⟨a, ob, kvs, rfl, h1, h2⟩ := pd_dq c.now
  exact ⟨a, kvs, rfl, .inr ⟨ob, ow.ex _ _ h1⟩, h2⟩
theorem rdd_own {kd : Kd κ} {os : Os} {d : List (κ × PyData)} {p : Addr} (k : Nat) (h : os[k]? = some (p, od kd d)) : RdD kd (own p) os d := fun F H v ow c => by
  obtain ⟨_, o, ho, _, kvs, rfl, hv⟩ := (ow.perm (perm_at h)).atU uni_od
  exact ⟨p, kvs, c.now, .inl ho, hv⟩
/-- at q stands an entry of one thing, of the content d; another content may take its place -/
def WrT {γ : Type} (os : Os) (q : Addr) (f : γ → Ent) (d : γ) (os' : γ → Os) : Prop := ∀ F H (r : Hp → HO → Prop), Uni (f d) r → Ow F os H → F q = none ∧ ∃ o, H q = some o ∧ f d q F (one q o) ∧ r F o ∧
  ∀ o' d', (∀ xs, o' ≠ .tup xs) → (∀ F', Same F F' → f d' q F' (one q o')) → Ow F (os' d') (upd H q o')
theorem wr_flat {γ : Type} {os : Os} {q : Addr} {f : γ → Ent} {d : γ} (j : Nat) (h : os[j]? = some (q, f d)) : WrT os q f d (fun d' => os.set j (q, f d')) := fun F H r u ow => by
  have o1 := ow.perm (perm_at h)
  obtain ⟨a, o, b, c, d⟩ := o1.atU u
  exact ⟨a, o, b, c, d, fun o' e' nt he => (o1.putU u he nt).perm (perm_set h)⟩
abbrev odT (kd : Kd κ) (e : β → PyData) : List (κ × β) → Ent := fun w => od kd (eM e w)
abbrev olT (e : β → PyData) : List β → Ent := fun w => ol (w.map e)
theorem rdd_wr {kd : Kd κ} {enc : β → PyData} {os : Os} {d : List (κ × β)} {q : Addr} {os' : List (κ × β) → Os} (h : WrT os q (odT kd enc) d os') : RdD kd (own q) os (eM enc d) := fun F H v ow c => by
  obtain ⟨_, o, ho, _, ⟨kvs, rfl, hv⟩, _⟩ := h F H _ uni_od ow
  exact ⟨q, kvs, c.now, .inl ho, hv⟩
end
section
variable {X : Cx} {es es' : List Slot} {os os1 os2 os3 : Os} {F0 : Hp} {rest : List Stmt} {D : Ends} {N V G W : List Str} {n i vi gi : Nat} {p pos apos cpos : Pos} {e a b c : Expr} {φ : VP} {κ β : Type} [DecidableEq κ] {kd : Kd κ} {enc : β → PyData} {w : List (κ × β)} {k : κ} {x : β}
theorem sx_frzF {j : Nat} {q : Addr} {m : Ent} {d : PyData} (f : Frb m d) (hj : os[j]? = some (q, m)) (hi : es[i]? = some (sl (own q))) (h : SX X (es.set i (sl (dat d))) (os.eraseIdx j) F0 rest D) : SX X es os F0 rest D := fun F σ H s ow sl =>
  wps_lk (f q F _ H _ (ow.perm (perm_at hj)) fun F2 H2 s2 o2 dq => by
    obtain ⟨v, ev, cv⟩ := sl.val hi
    obtain rfl : v = .ref q := cv.now
    have sl2 := (sl.mono s2).put (i := i) (v := .ref q) (φ := dat d) (cl_dat dq)
    have e2 : σ.set i (some (.ref q)) = σ := by
      refine List.ext_getElem? fun m => ?_
      by_cases hm : i = m
      · subst hm
        rw [List.getElem?_set_self (List.getElem?_eq_some_iff.mp ev).1, ev]
      · rw [List.getElem?_set_ne hm]
    rw [e2] at sl2
    exact h F2 σ H2 (s.trans s2) o2 sl2)
theorem ex_dget (hi : kd.Inj) (hk : dGet w k = some x) (B : Bd X N W G n) (hr : RdD kd φ os2 (eM enc w)) (ha : EX X es os a φ os1) (hb : EX X es os1 b (dat (kd.ek k)) os2) (hs : NoSl b := by intro _ _; rfl) : EX X es os (.Subscript a b pos) (dat (enc x)) os2 := fun F σ H Q ow sl q =>
  we_of (pe_dget B.u1 pe_u pe_u hs) (ha F σ H _ ow sl fun F1 H1 v e1 o1 c1 => hb F1 σ H1 _ o1 (sl.mono e1) fun F2 H2 y e2 o2 c2 => by
    obtain ⟨p, kvs, rfl, rd, dv⟩ := hr F2 H2 v o2 (c1.mono e2)
    obtain ⟨u, hu, hd⟩ := (dv_get k dv).1 (enc x) (by rw [dGet_map, hk]; rfl)
    exact ⟨p, u, rfl, hu ▸ dget_of hi o2.ex rd (key_val c2), q F2 H2 u (e1.trans e2) o2 (cl_dat hd)⟩)
theorem dget_some (hi : kd.Inj) {F H : Hp} {p : Addr} {kvs : List (κ × L2.V)} (dv : DV F kvs (eM enc w)) : (dGet kvs k).isSome = (dGet w k).isSome := by
  cases h : dGet w k with
  | none =>
    rw [(dv_get k dv).2 (by rw [dGet_map, h]; rfl)]
    rfl
  | some x =>
    obtain ⟨u, hu, _⟩ := (dv_get k dv).1 (enc x) (by rw [dGet_map, h]; rfl)
    rw [hu]
    rfl
theorem ex_din (hi : kd.Inj) (B : Bd X N W G n) (hr : RdD kd φ os2 (eM enc w)) (ha : EX X es os a (dat (kd.ek k)) os1) (hb : EX X es os1 b φ os2) (hm : behindInMarks .In b = false := by rfl) : EX X es os (.Compare a [.In] [b] pos) (dat (.bool (dGet w k).isSome)) os2 := fun F σ H Q ow sl q =>
  we_of (pe_cmp (pc_din B.u1 pe_u pe_u) hm) (ha F σ H _ ow sl fun F1 H1 y e1 o1 c1 => hb F1 σ H1 _ o1 (sl.mono e1) fun F2 H2 v e2 o2 c2 => by
    obtain ⟨p, kvs, rfl, rd, dv⟩ := hr F2 H2 v o2 c2
    exact ⟨p, _, rfl, dget_of hi o2.ex rd (key_val (c1.mono e2)), by rw [dget_some (H := H2) (p := p) hi dv]; exact q F2 H2 _ (e1.trans e2) o2 (cl_dat (.bl _))⟩)
theorem dq_opt {F : Hp} {kvs : List (κ × L2.V)} (dv : DV F kvs (eM enc w)) : Dq F ((dGet kvs k).getD .non) (eO enc (dGet w k)) := by
  cases h : dGet w k with
  | none =>
    rw [(dv_get k dv).2 (by rw [dGet_map, h]; rfl)]
    exact .non
  | some x =>
    obtain ⟨u, hu, hd⟩ := (dv_get k dv).1 (enc x) (by rw [dGet_map, h]; rfl)
    rw [hu]
    exact hd
/-- d.get(k) -/
theorem ex_dget1 (hi : kd.Inj) (B : Bd X N W G n) (hr : RdD kd φ os1 (eM enc w)) (hr2 : RdD kd φ os2 (eM enc w)) (ha : EX X es os a φ os1) (hb : EX X es os1 b (dat (kd.ek k)) os2) (hbase : attributeBase a "get" X.env (eval a X.env) = eval a X.env := by rfl) (hline : (apos.endLine == cpos.line) = true := by rfl)
    (htr : backTo cpos (starEach [b] X.env) = [(false, eval b X.env)] := by rfl) : EX X es os (.Call (.Attribute a "get" apos) [b] [] cpos) (dat (eO enc (dGet w k))) os2 := fun F σ H Q ow sl q =>
  we_of (pe_dget1 B.u1 pe_u pe_u ⟨hbase, by rw [htr]; rfl, hline, htr⟩) (ha F σ H _ ow sl fun F1 H1 v e1 o1 c1 => by
    obtain ⟨p, kvs, rfl, rd, dv⟩ := hr F1 H1 v o1 c1
    refine ⟨p, rfl, isD_of rd, hb F1 σ H1 _ o1 (sl.mono e1) fun F2 H2 y e2 o2 c2 => ?_⟩
    obtain ⟨p', kvs', ep, rd', dv'⟩ := hr2 F2 H2 _ o2 (c1.mono e2)
    cases ep
    exact ⟨_, dget_of hi o2.ex rd' (key_val c2), q F2 H2 _ (e1.trans e2) o2 (cl_dat (dq_opt dv'))⟩)
/-- d.get(k, x) -/
theorem ex_dget2 (hi : kd.Inj) (B : Bd X N W G n) (hr : RdD kd φ os1 (eM enc w)) (hr2 : RdD kd φ os3 (eM enc w)) (ha : EX X es os a φ os1) (hb : EX X es os1 b (dat (kd.ek k)) os2) (hc : EX X es os2 c (dat (enc x)) os3) (hbase : attributeBase a "get" X.env (eval a X.env) = eval a X.env := by rfl) (hline : (apos.endLine == cpos.line) = true := by rfl)
    (htr : backTo cpos (starEach [b, c] X.env) = [(false, eval b X.env), (false, eval c X.env)] := by rfl) : EX X es os (.Call (.Attribute a "get" apos) [b, c] [] cpos) (dat (enc ((dGet w k).getD x))) os3 := fun F σ H Q ow sl q =>
  we_of (pe_dget2 B.u1 pe_u pe_u pe_u ⟨hbase, by rw [htr]; rfl, hline, htr⟩) (ha F σ H _ ow sl fun F1 H1 v e1 o1 c1 => by
    obtain ⟨p, kvs, rfl, rd, dv⟩ := hr F1 H1 v o1 c1
    refine ⟨p, rfl, isD_of rd, hb F1 σ H1 _ o1 (sl.mono e1) fun F2 H2 y e2 o2 c2 => hc F2 σ H2 _ o2 (sl.mono (e1.trans e2)) fun F3 H3 z e3 o3 c3 => ?_⟩
    obtain ⟨p', kvs', ep, rd', dv'⟩ := hr2 F3 H3 _ o3 ((c1.mono e2).mono e3)
    cases ep
    refine ⟨_, dget_of hi o3.ex rd' (key_val (c2.mono e3)), q F3 H3 _ ((e1.trans e2).trans e3) o3 ?_⟩
    cases h : dGet w k with
    | none =>
      rw [(dv_get k dv').2 (by rw [dGet_map, h]; rfl)]
      exact c3
    | some x =>
      obtain ⟨u, hu, hd⟩ := (dv_get k dv').1 (enc x) (by rw [dGet_map, h]; rfl)
      rw [hu]
      exact cl_dat hd)
/-- {} -/
theorem en_dnew : EN X es os (.Dict [] [] pos) (od kd []) os := fun F σ H Q ow sl q => by
  cases kd with
  | fl f => exact we_of pe_dnewK fun p hp => q F _ p (Same.refl F) (ow.new hp (od_one (kd := .fl f) .nil))
  | tu f => exact we_of pe_dnewT fun p hp => q F _ p (Same.refl F) (ow.new hp (od_one (kd := .tu f) .nil))
/-- len(d), keys ints or texts -/
def rLenD : List L2.V → Hp → VK → Prop := fun xs H Q => ∃ (p : Addr) (kvs : List (Key × L2.V)), xs = [.ref p] ∧ Rd H p (.dK kvs) ∧ Q (.int kvs.length) H
theorem call_len_d : CallR X (.builtin "len") rLenD := by
  intro pins s σ H vs us Q I r h
  obtain ⟨p, kvs, rfl, rd, q⟩ := h
  obtain ⟨u, rfl, ru⟩ := vals1 r
  obtain rfl : u = Value.ref p := ru
  exact d_len I rd fun t s' I' => ⟨.int _, H, I', ⟨_, rfl⟩, q⟩
theorem rc_lenD {f : κ → Key} (hr : RdD (.fl f) φ os (eM enc w)) : RCX rLenD [φ] os (dat (.int (w.length : Int))) os := fun F H vs Q ow c q => by
  obtain ⟨v, rfl, h⟩ := cla1 c
  obtain ⟨p, kvs, rfl, rd, dv⟩ := hr F H v ow h
  refine ⟨p, _, rfl, rd, ?_⟩
  have : (kvs.map fun z => (f z.1, z.2)).length = w.length := by rw [List.length_map, dv_len dv, List.length_map]
  rw [this]
  exact q F H _ (Same.refl F) ow (cl_dat (.int _))
/-- dict(d), keys ints or texts -/
def rCopyD : List L2.V → Hp → VK → Prop := fun xs H Q => ∃ (p : Addr) (kvs : List (Key × L2.V)), xs = [.ref p] ∧ Rd H p (.dK kvs) ∧ ∀ m, H m = none → Q (.ref m) (upd H m (.dK kvs))
theorem call_copy_d : CallR X (.type "dict") rCopyD := by
  intro pins s σ H vs us Q I r h
  obtain ⟨p, kvs, rfl, rd, q⟩ := h
  obtain ⟨u, rfl, ru⟩ := vals1 r
  obtain rfl : u = Value.ref p := ru
  exact d_copyOf I rd fun m s' hm I' => ⟨.ref m, _, I', rfl, q m hm⟩
theorem rc_copyD {f : κ → Key} {d : List (κ × PyData)} (hr : RdD (.fl f) φ os d) : RCN rCopyD [φ] os (od (.fl f) d) os := fun F H vs Q ow c q => by
  obtain ⟨v, rfl, h⟩ := cla1 c
  obtain ⟨p, kvs, rfl, rd, dv⟩ := hr F H v ow h
  exact ⟨p, _, rfl, rd, fun m hm => q F _ m (Same.refl F) (ow.new hm (od_one (kd := .fl f) dv))⟩
theorem dput_enc {F : Hp} {kvs : List (κ × L2.V)} {v : L2.V} (dv : DV F kvs (eM enc w)) (hd : Dq F v (enc x)) : DV F (dPut kvs k v) (eM enc (dPut w k x)) := by
  have := dv_put k hd dv
  rw [dPut_map] at this
  exact this
/-- a[b] = e -/
theorem sx_dput {w' : List (κ × β)} {tpos : Pos} {q : Addr} {os' : List (κ × β) → Os} (hi : kd.Inj) (hp : dPutO w k x = some w') (B : Bd X N W G n) (he : EX X es os e (dat (enc x)) os1) (ho : EX X es os1 a (own q) os2) (hb : EX X es os2 b (dat (kd.ek k)) os3) (hw : WrT os3 q (odT kd enc) w os')
    (h : SX X es (os' w') F0 rest D) (hs : swapsWith e (some (.Subscript a b tpos)) pos.line X.env = pure false := by rfl) : SX X es os F0 (.Assign [.Subscript a b tpos] e pos :: rest) D := fun F σ H s ow sl => by
  unfold dPutO at hp
  split at hp
  · rename_i hl
    cases hp
    refine wps_cons (ws_of (ps_dput B.u1 pe_u pe_u pe_u hs) (he F σ H _ ow sl fun F1 H1 v e1 o1 c1 => ho F1 σ H1 _ o1 (sl.mono e1) fun F2 H2 u e2 o2 c2 => hb F2 σ H2 _ o2 (sl.mono (e1.trans e2)) fun F3 H3 y e3 o3 c3 => ?_))
    obtain rfl : u = .ref q := c2.now
    obtain ⟨_, o, hq, _, ⟨kvs, rfl, dv⟩, z⟩ := hw F3 H3 _ uni_od o3
    have e := (e1.trans e2).trans e3
    refine ⟨q, _, rfl, dput_of hi o3.ex hq (key_val c3) (by rw [dv_len dv, List.length_map]; exact hl), ?_⟩
    exact h F3 σ _ (s.trans e) (z _ _ (Kd.ntup _ _) (od_one (dput_enc dv ((c1.mono e2).mono e3).now))) (sl.mono e)
  · cases hp
/-- a.pop(b), keys ints or texts -/
theorem ex_dpop {f : κ → Key} {r : β × List (κ × β)} {q : Addr} {os' : List (κ × β) → Os} (hi : (Kd.fl f).Inj) (hp : dPopO w k = some r) (ho : EX X es os a (own q) os1) (h0 : RdD (.fl f) (own q) os1 d0) (hb : EX X es os1 b (dat ((Kd.fl f).ek k)) os2) (hw : WrT os2 q (odT (.fl f) enc) w os')
    (hbase : attributeBase a "pop" X.env (eval a X.env) = eval a X.env := by rfl) (hline : (apos.endLine == cpos.line) = true := by rfl) (htr : backTo cpos (starEach [b] X.env) = [(false, eval b X.env)] := by rfl) :
    EX X es os (.Call (.Attribute a "pop" apos) [b] [] cpos) (dat (enc r.1)) (os' r.2) := fun F σ H Q ow sl qq => by
  unfold dPopO at hp
  cases hg : dGet w k with
  | none =>
    rw [hg] at hp
    cases hp
  | some x =>
    rw [hg] at hp
    cases hp
    refine we_of (pe_dpop1 pe_u pe_u ⟨hbase, by rw [htr]; rfl, hline, htr⟩) (ho F σ H _ ow sl fun F1 H1 v e1 o1 c1 => ?_)
    obtain ⟨p, kvs0, rfl, rd, _⟩ := h0 F1 H1 v o1 c1
    obtain rfl : p = q := by
      have := c1.now
      cases this
      rfl
    refine ⟨p, rfl, isD_of (kd := .fl f) rd, hb F1 σ H1 _ o1 (sl.mono e1) fun F2 H2 y e2 o2 c2 => ?_⟩
    obtain ⟨_, o, hq, _, ⟨kvs, rfl, dv⟩, z⟩ := hw F2 H2 _ uni_od o2
    obtain ⟨u, hu, hd⟩ := (dv_get k dv).1 (enc x) (by rw [dGet_map, hg]; rfl)
    refine ⟨_, f k, u, hq, key_val (kd := .fl f) c2, ?_, ?_⟩
    · rw [valV_dGet, dGet_key hi]
      exact hu
    · have e5 : dropK (kvs.map fun p => (f p.1, p.2)) (f k) = (dDel kvs k).map fun p => (f p.1, p.2) := dDel_key hi k kvs
      rw [e5]
      have d5 := dv_del k dv
      rw [dDel_map] at d5
      exact qq F2 _ u (e1.trans e2) (z _ _ (Kd.ntup (.fl f) _) (od_one (kd := .fl f) d5)) (cl_dat hd)
/-- a.setdefault(b, c), keys ints or texts -/
def dSetO (w : List (κ × β)) (k : κ) (x : β) : Option (β × List (κ × β)) := if w.length < sizeLine then some (match dGet w k with
  | some y => (y, w)
  | none => (x, dPut w k x)) else none
theorem ex_dsetd {f : κ → Key} {r : β × List (κ × β)} {q : Addr} {os' : List (κ × β) → Os} (hi : (Kd.fl f).Inj) (hp : dSetO w k x = some r) (ho : EX X es os a (own q) os1) (h0 : RdD (.fl f) (own q) os1 d0) (hb : EX X es os1 b (dat ((Kd.fl f).ek k)) os2) (hc : EX X es os2 c (dat (enc x)) os3) (hw : WrT os3 q (odT (.fl f) enc) w os')
    (hsame : ∀ F H, Ow F os3 H → Ow F (os' w) H)
    (hbase : attributeBase a "setdefault" X.env (eval a X.env) = eval a X.env := by rfl) (hline : (apos.endLine == cpos.line) = true := by rfl) (htr : backTo cpos (starEach [b, c] X.env) = [(false, eval b X.env), (false, eval c X.env)] := by rfl) :
    EX X es os (.Call (.Attribute a "setdefault" apos) [b, c] [] cpos) (dat (enc r.1)) (os' r.2) := fun F σ H Q ow sl qq => by
  unfold dSetO at hp
  split at hp
  · rename_i hl
    cases hp
    refine we_of (pe_dsetd pe_u pe_u pe_u ⟨hbase, by rw [htr]; rfl, hline, htr⟩) (ho F σ H _ ow sl fun F1 H1 v e1 o1 c1 => ?_)
    obtain ⟨p, kvs0, rfl, rd, _⟩ := h0 F1 H1 v o1 c1
    obtain rfl : p = q := by
      have := c1.now
      cases this
      rfl
    refine ⟨p, rfl, isD_of (kd := .fl f) rd, hb F1 σ H1 _ o1 (sl.mono e1) fun F2 H2 y e2 o2 c2 => hc F2 σ H2 _ o2 (sl.mono (e1.trans e2)) fun F3 H3 u e3 o3 c3 => ?_⟩
    obtain ⟨_, o, hq, _, ⟨kvs, rfl, dv⟩, z⟩ := hw F3 H3 _ uni_od o3
    have e := (e1.trans e2).trans e3
    refine ⟨_, f k, hq, key_val (kd := .fl f) c2, by rw [List.length_map, dv_len dv, List.length_map]; exact hl, fun v hv => ?_, fun hn => ?_⟩
    · rw [valV_dGet, dGet_key hi] at hv
      cases hg : dGet w k with
      | none =>
        rw [(dv_get k dv).2 (by rw [dGet_map, hg]; rfl)] at hv
        cases hv
      | some y =>
        obtain ⟨u', hu, hd⟩ := (dv_get k dv).1 (enc y) (by rw [dGet_map, hg]; rfl)
        rw [hu] at hv
        cases hv
        simp only [hg] at qq
        exact qq F3 H3 _ e (hsame F3 H3 o3) (cl_dat hd)
    · rw [valV_dGet, dGet_key hi] at hn
      cases hg : dGet w k with
      | some y =>
        obtain ⟨u', hu, hd⟩ := (dv_get k dv).1 (enc y) (by rw [dGet_map, hg]; rfl)
        rw [hu] at hn
        cases hn
      | none =>
        have e5 : putK (kvs.map fun p => (f p.1, p.2)) (f k) u = (dPut kvs k u).map fun p => (f p.1, p.2) := dPut_key hi k u kvs
        rw [e5]
        simp only [hg] at qq
        exact qq F3 _ u e (z _ _ (Kd.ntup (.fl f) _) (od_one (kd := .fl f) (dput_enc dv c3.now))) c3
  · cases hp
end
end Z
namespace Z
open PySem PySem.Spec PyProof.Rows L2
def uniH : List Hp → Hp
  | [] => fun _ => none
  | h :: hs => ov h (uniH hs)
theorem uniH_some : ∀ {l : List Hp} {a : Addr} {o : HO}, uniH l a = some o → ∃ h ∈ l, h a = some o
  | [], _, _, e => nomatch e
  | h :: l, a, o, e => by
    unfold uniH at e
    cases q : h a with
    | some u =>
      rw [ov_some q] at e
      exact ⟨h, List.mem_cons_self, q.trans e⟩
    | none =>
      rw [ov_none q] at e
      obtain ⟨k, hk, e2⟩ := uniH_some e
      exact ⟨k, List.mem_cons_of_mem _ hk, e2⟩
theorem uniH_same : ∀ {l : List Hp} {h : Hp}, l.Pairwise Ap → h ∈ l → Same h (uniH l)
  | [], _, _, m => nomatch m
  | k :: l, h, p, m => by
    obtain ⟨p1, p2⟩ := List.pairwise_cons.mp p
    intro a o e
    unfold uniH
    rcases List.mem_cons.mp m with rfl | m
    · exact ov_some e
    · have : k a = none := (p1 h m).symm a (by rw [e]; simp)
      rw [ov_none this]
      exact uniH_same p2 m a o e
theorem uniH_none {l : List Hp} {a : Addr} (h : ∀ k ∈ l, k a = none) : uniH l a = none := by
  cases e : uniH l a with
  | none => rfl
  | some o =>
    obtain ⟨k, hk, q⟩ := uniH_some e
    rw [h k hk] at q
    cases q
def onl (qs : List Addr) (es : List Ent) : Ent := fun p F h => ∃ hs, h = uniH (one p (.lst (qs.map .ref)) :: hs) ∧ Pcs F (qs.zip es) hs ∧ (one p (.lst (qs.map .ref)) :: hs).Pairwise Ap ∧ (∀ k ∈ hs, NT k) ∧ qs.length = es.length
def onx (es : List Ent) : Ent := fun p F h => ∃ qs, onl qs es p F h
def orf (qs : List Addr) : Ent := fun p _ h => h = one p (.lst (qs.map .ref))
theorem uni_orf {qs : List Addr} : Uni (orf qs) (fun _ o => o = .lst (qs.map .ref)) := fun p F h e => ⟨_, e, rfl⟩
theorem onl_mono {qs : List Addr} {es : List Ent} {p : Addr} {F F' h : Hp} (e : Same F F') (x : onl qs es p F h) : onl qs es p F' h := by
  obtain ⟨hs, a, b, c, d, l⟩ := x
  exact ⟨hs, a, b.mono e, c, d, l⟩
theorem pcs_app {F : Hp} : ∀ {os os' : Os} {hs hs' : List Hp}, Pcs F os hs → Pcs F os' hs' → Pcs F (os ++ os') (hs ++ hs')
  | _, _, _, _, .nil, h => h
  | _, _, _, _, .cons h1 h2, h => .cons h1 (pcs_app h2 h)
theorem pcs_split {F : Hp} : ∀ {os os' : Os} {l : List Hp}, Pcs F (os ++ os') l → ∃ hs hs', l = hs ++ hs' ∧ Pcs F os hs ∧ Pcs F os' hs'
  | [], os', l, h => ⟨[], l, rfl, .nil, h⟩
  | q :: os, os', _, .cons h1 h2 => by
    obtain ⟨hs, hs', rfl, a, b⟩ := pcs_split h2
    exact ⟨_ :: hs, hs', rfl, .cons h1 a, b⟩
section
variable {F H : Hp} {os : Os} {p : Addr} {qs : List Addr} {es : List Ent}
theorem Ow.opn (h : Ow F ((p, onl qs es) :: os) H) : Ow F ((p, orf qs) :: (qs.zip es ++ os)) H ∧ qs.length = es.length := by
  obtain ⟨l, a, b, c⟩ := h.ps
  cases a with
  | @cons _ _ k r h1 h2 =>
    obtain ⟨hs, rfl, p1, pw, nt, hl⟩ := h1 F (Same.refl F)
    obtain ⟨c1, c2⟩ := List.pairwise_cons.mp c
    obtain ⟨s, x, _⟩ := b _ List.mem_cons_self
    have sub : ∀ g ∈ one p (.lst (qs.map .ref)) :: hs, Same g H ∧ Ap F g := fun g hg =>
      ⟨(uniH_same pw hg).trans s, fun z hz => (uniH_same pw hg).free (x z hz)⟩
    have far : ∀ g ∈ one p (.lst (qs.map .ref)) :: hs, ∀ t ∈ r, Ap g t := fun g hg t ht z hz => by
      refine c1 t ht z ?_
      cases e : g z with
      | none => exact (hz e).elim
      | some o => rw [uniH_same pw hg z o e]; simp
    refine ⟨⟨h.ex, one p (.lst (qs.map .ref)) :: (hs ++ r), .cons (fun _ _ => rfl) (pcs_app p1 h2), fun g hg => ?_, ?_⟩, hl⟩
    · rcases List.mem_cons.mp hg with rfl | hg
      · exact ⟨(sub _ List.mem_cons_self).1, (sub _ List.mem_cons_self).2, nt_one (fun _ z => by cases z)⟩
      · rcases List.mem_append.mp hg with hg | hg
        · exact ⟨(sub g (List.mem_cons_of_mem _ hg)).1, (sub g (List.mem_cons_of_mem _ hg)).2, nt g hg⟩
        · exact b g (List.mem_cons_of_mem _ hg)
    · rw [← List.cons_append]
      exact List.pairwise_append.mpr ⟨pw, c2, fun g hg t ht => far g hg t ht⟩
theorem Ow.cls (h : Ow F ((p, orf qs) :: (qs.zip es ++ os)) H) (hl : qs.length = es.length) : Ow F ((p, onl qs es) :: os) H := by
  obtain ⟨l, a, b, c⟩ := h.ps
  cases a with
  | @cons _ _ k r h1 h2 =>
    obtain rfl : k = one p (.lst (qs.map .ref)) := h1 F (Same.refl F)
    obtain ⟨hs, r', rfl, p1, p2⟩ := pcs_split h2
    rw [← List.cons_append] at c
    obtain ⟨c1, c2, c3⟩ := List.pairwise_append.mp c
    have bb : ∀ g ∈ one p (.lst (qs.map .ref)) :: hs, Same g H ∧ Ap F g ∧ NT g := fun g hg => b g (by
      rcases List.mem_cons.mp hg with rfl | hg
      · exact List.mem_cons_self
      · exact List.mem_cons_of_mem _ (List.mem_append_left _ hg))
    refine ⟨h.ex, uniH (one p (.lst (qs.map .ref)) :: hs) :: r', .cons (fun F' s => ⟨hs, rfl, p1.mono s, c1, fun k hk => (bb k (List.mem_cons_of_mem _ hk)).2.2, hl⟩) p2, fun g hg => ?_, List.pairwise_cons.mpr ⟨fun t ht => ?_, c2⟩⟩
    · rcases List.mem_cons.mp hg with rfl | hg
      · refine ⟨fun z o e => ?_, fun z hz => uniH_none fun k hk => (bb k hk).2.1 z hz, fun z xs e => ?_⟩
        · obtain ⟨k, hk, q⟩ := uniH_some e
          exact (bb k hk).1 z o q
        · obtain ⟨k, hk, q⟩ := uniH_some e
          exact (bb k hk).2.2 z xs q
      · exact b g (List.mem_cons_of_mem _ (List.mem_append_right _ hg))
    · intro z hz
      cases e : uniH (one p (.lst (qs.map .ref)) :: hs) z with
      | none => exact (hz e).elim
      | some o =>
        obtain ⟨k, hk, q⟩ := uniH_some e
        exact c3 k hk t ht z (by rw [q]; simp)
theorem Ow.opx (h : Ow F ((p, onx es) :: os) H) : ∃ qs, Ow F ((p, onl qs es) :: os) H := by
  obtain ⟨l, a, b, c⟩ := h.ps
  cases a with
  | cons h1 h2 =>
    obtain ⟨qs, x⟩ := h1 F (Same.refl F)
    exact ⟨qs, h.ex, _, .cons (fun F' s => onl_mono s x) h2, b, c⟩
theorem Ow.clx (h : Ow F ((p, onl qs es) :: os) H) : Ow F ((p, onx es) :: os) H := h.weak fun _ _ x => ⟨qs, x⟩
end
def ixD (n : Nat) (z : Int) : Nat := (ixN n z).getD 0
/-- the address at the place z -/
def qa (qs : List Addr) (z : Int) : Addr := qs.getD (ixD qs.length z) 0
def setI {α : Type} (xs : List α) (z : Int) (x : α) : List α := xs.set (ixD xs.length z) x
theorem setI_len {α : Type} (xs : List α) (z : Int) (x : α) : (setI xs z x).length = xs.length := by
  unfold setI
  rw [List.length_set]
theorem idx_at {α : Type} {xs : List α} {z : Int} {x : α} (h : idx xs z = some x) : ixN xs.length z = some (ixD xs.length z) ∧ xs[ixD xs.length z]? = some x := by
  unfold idx atI at h
  unfold ixD
  cases e : ixN xs.length z with
  | none => rw [e] at h; cases h
  | some j =>
    rw [e] at h
    exact ⟨rfl, h⟩
theorem zip_at {α β : Type} : ∀ {qs : List α} {es : List β} {i : Nat} {q : α} {e : β}, qs[i]? = some q → es[i]? = some e → (qs.zip es)[i]? = some (q, e)
  | [], _, _, _, _, h, _ => by simp at h
  | _ :: _, [], _, _, _, _, h => by simp at h
  | a :: qs, b :: es, 0, q, e, h, k => by simp at h k; subst h; subst k; rfl
  | a :: qs, b :: es, i + 1, q, e, h, k => zip_at (i := i) (qs := qs) (es := es) (by simpa using h) (by simpa using k)
theorem zip_set {α β : Type} : ∀ {qs : List α} {es : List β} {i : Nat} {q : α} {e' : β}, qs[i]? = some q → (qs.zip es).set i (q, e') = qs.zip (es.set i e')
  | [], _, _, _, _, h => by simp at h
  | _ :: _, [], _, _, _, _ => by simp
  | a :: qs, b :: es, 0, q, e', h => by simp at h; subst h; rfl
  | a :: qs, b :: es, i + 1, q, e', h => by
    rw [List.zip_cons_cons, List.set_cons_succ, List.set_cons_succ, List.zip_cons_cons, zip_set (by simpa using h)]
theorem getD_at {α : Type} {l : List α} {i : Nat} {d : α} (h : i < l.length) : l[i]? = some (l.getD i d) := by
  rw [List.getD_eq_getElem?_getD, List.getElem?_eq_getElem h]
  rfl
section
variable {γ : Type} {os : Os} {p : Addr} {qs : List Addr} {f : γ → Ent} {ws : List γ} {z : Int} {d : γ}
/-- the entry at the place z of an owned list of owned things -/
theorem wr_nest (j : Nat) (h : os[j]? = some (p, onl qs (ws.map f))) (hk : idx ws z = some d) : WrT os (qa qs z) f d (fun d' => os.set j (p, onl qs ((setI ws z d').map f))) := fun F H r u ow => by
  obtain ⟨o1, hl⟩ := (ow.perm (perm_at h)).opn
  rw [List.length_map] at hl
  obtain ⟨k1, k2⟩ := idx_at hk
  have hi : ixD ws.length z < ws.length := (List.getElem?_eq_some_iff.mp k2).1
  have hq : qs[ixD ws.length z]? = some (qa qs z) := by
    unfold qa
    rw [hl]
    exact getD_at (by rw [hl]; exact hi)
  have he : (ws.map f)[ixD ws.length z]? = some (f d) := by rw [List.getElem?_map, k2]; rfl
  have hz : ((p, orf qs) :: (qs.zip (ws.map f) ++ os.eraseIdx j))[ixD ws.length z + 1]? = some (qa qs z, f d) := by
    rw [List.getElem?_cons_succ, List.getElem?_append_left (by rw [List.length_zip, List.length_map]; omega)]
    exact zip_at hq he
  have o2 := o1.perm (perm_at hz)
  obtain ⟨a, o, b, c, e⟩ := o2.atU u
  refine ⟨a, o, b, c, e, fun o' d' nt hd => ?_⟩
  have o3 := (o2.putU u hd nt).perm (perm_set hz)
  rw [List.set_cons_succ, List.set_append_left _ _ (by rw [List.length_zip, List.length_map]; omega), zip_set hq] at o3
  have o4 := o3.cls (by rw [List.length_set, List.length_map]; exact hl)
  have e5 : (ws.map f).set (ixD ws.length z) (f d') = (setI ws z d').map f := by
    unfold setI
    rw [List.map_set]
  rw [e5] at o4
  exact o4.perm (perm_set h)
/-- read as a list of addresses -/
theorem nest_at {F H : Hp} {os : Os} (j : Nat) (h : os[j]? = some (p, onl qs (ws.map f))) (ow : Ow F os H) : H p = some (.lst (qs.map .ref)) ∧ qs.length = ws.length := by
  obtain ⟨o1, hl⟩ := (ow.perm (perm_at h)).opn
  rw [List.length_map] at hl
  obtain ⟨_, o, ho, _, rfl⟩ := o1.atU uni_orf
  exact ⟨ho, hl⟩
end
section
variable {X : Cx} {es es' : List Slot} {os os1 os2 os3 : Os} {F0 : Hp} {rest : List Stmt} {D : Ends} {N V G W : List Str} {n i vi gi : Nat} {p pos apos cpos : Pos} {e a b c : Expr} {φ : VP} {γ : Type} {f : γ → Ent} {ws : List γ} {d : γ} {z : Int} {q : Addr} {qs : List Addr}
/-- x[i], x a list of owned things -/
theorem ex_nst (j : Nat) (hk : idx ws z = some d) (h : os2[j]? = some (q, onl qs (ws.map f))) (ha : EX X es os a (own q) os1) (hb : EX X es os1 b (dat (.int z)) os2) (hp : PlainIx b := by exact fun _ _ => rfl) : EX X es os (.Subscript a b pos) (own (qa qs z)) os2 := fun F σ H Q ow sl qq =>
  we_of (pe_ix L2.ix_list pe_u pe_u hp) (ha F σ H _ ow sl fun F1 H1 x e1 o1 c1 => hb F1 σ H1 _ o1 (sl.mono e1) fun F2 H2 y e2 o2 c2 => by
    obtain rfl : x = .ref q := c1.now
    obtain ⟨h1, hl⟩ := nest_at j h o2
    obtain ⟨k1, k2⟩ := idx_at hk
    have hi : ixD ws.length z < ws.length := (List.getElem?_eq_some_iff.mp k2).1
    have hq : atI (qs.map L2.V.ref) z = some (.ref (qa qs z)) := by
      unfold atI
      rw [List.length_map, hl, k1]
      show (qs.map L2.V.ref)[ixD ws.length z]? = _
      rw [List.getElem?_map]
      unfold qa
      rw [hl, getD_at (d := (0 : Addr)) (by rw [hl]; exact hi)]
      rfl
    exact ⟨q, _, z, _, rfl, clv_int c2, .of h1, hq, qq F2 H2 _ (e1.trans e2) o2 cl_own⟩)
theorem sx_open (j : Nat) (h : os[j]? = some (q, onx es0)) (k : ∀ qs, SX X es (os.set j (q, onl qs es0)) F0 rest D) : SX X es os F0 rest D := fun F σ H s ow sl => by
  obtain ⟨qs, o1⟩ := (ow.perm (perm_at h)).opx
  exact k qs F σ H s (o1.perm (perm_set h)) sl
/-- len of a list of owned things -/
theorem rc_lenO (j : Nat) (h : os[j]? = some (q, onl qs (ws.map f))) : RCX (fun xs H Q => ∃ p ys, xs = [L2.V.ref p] ∧ (SqL X.K H p ys ∨ SqT X.K H p ys) ∧ Q (.int ys.length) H) [own q] os (dat (.int (ws.length : Int))) os := fun F H vs Q ow c qq => by
  obtain ⟨v, rfl, hv⟩ := cla1 c
  obtain rfl : v = .ref q := hv.now
  obtain ⟨h1, hl⟩ := nest_at j h ow
  refine ⟨q, _, rfl, .inl (.of h1), ?_⟩
  rw [List.length_map, hl]
  exact qq F H _ (Same.refl F) ow (cl_dat (.int _))
theorem frz_all {g : γ → PyData} (hf : ∀ w, Frb (f w) (g w)) : ∀ (qs : List Addr) (ws : List γ) (F : Hp) (os : Os) (H : Hp) (Q : Hp → Prop), qs.length = ws.length → Ow F (qs.zip (ws.map f) ++ os) H → (∀ F' H', Same F F' → Ow F' os H' → DqAll F' (qs.map .ref) (ws.map g) → Q H') → Lk Q H
  | [], [], F, os, H, Q, _, ow, k => .now (k F H (Same.refl F) ow .nil)
  | [], _ :: _, _, _, _, _, h, _, _ => by simp at h
  | _ :: _, [], _, _, _, _, h, _, _ => by simp at h
  | q :: qs, w :: ws, F, os, H, Q, hl, ow, k => by
    rw [List.map_cons, List.zip_cons_cons, List.cons_append] at ow
    refine Lk.bind (Q := fun H' => ∃ F', Same F F' ∧ Ow F' (qs.zip (ws.map f) ++ os) H' ∧ Dq F' (.ref q) (g w)) (hf w q F _ H _ ow fun F' H' s o d => ⟨F', s, o, d⟩) ?_
    rintro H1 ⟨F1, s1, o1, d1⟩
    refine frz_all hf qs ws F1 os H1 Q (by simpa using hl) o1 fun F2 H2 s2 o2 d2 => ?_
    exact k F2 H2 (s1.trans s2) o2 (.cons (dq_mono s2 _ _ d1) d2)
theorem frb_onl {g : γ → PyData} (hf : ∀ w, Frb (f w) (g w)) : Frb (onl qs (ws.map f)) (.list (ws.map g)) := fun p F os H Q ow k => by
  obtain ⟨o1, hl⟩ := ow.opn
  rw [List.length_map] at hl
  have o2 : Ow F (qs.zip (ws.map f) ++ (p, orf qs) :: os) H := o1.perm (List.perm_middle.symm)
  refine frz_all hf qs ws F _ H Q hl o2 fun F1 H1 s1 o3 d1 => ?_
  obtain ⟨o, ho, rfl, s2, o4⟩ := o3.freezeU uni_orf
  exact k _ H1 (s1.trans s2) o4 (.lst upd_same (dqall_mono s2 _ _ d1))
end
end Z
namespace Z
open PySem PySem.Spec PyProof.Rows L2
section
variable {X : Cx} {es : List Slot} {os os1 os2 : Os} {F0 : Hp} {rest : List Stmt} {D : Ends} {N V G W : List Str} {n i vi gi : Nat} {x : Str} {p pos apos cpos : Pos} {e a b : Expr} {φ : VP} {κ β : Type} {enc : β → PyData} {w : List (κ × β)}
theorem dq_keyV {F : Hp} : ∀ k : Key, Dq F (kV k) (kPD k)
  | .inl j => .int j
  | .inr t => .str t
theorem dqall_keyV {F : Hp} : ∀ ks : List Key, DqAll F (ks.map kV) (ks.map kPD)
  | [] => .nil
  | k :: ks => .cons (dq_keyV k) (dqall_keyV ks)
/-- list(d) -/
def rListK : List L2.V → Hp → VK → Prop := fun xs H Q => ∃ (d : Addr) (kvs : List (Key × L2.V)), xs = [.ref d] ∧ Rd H d (.dK kvs) ∧ ∀ m, H m = none → Q (.ref m) (upd H m (.lst (kvs.map fun p => kV p.1)))
theorem cr_listK (hc : X.calm = true) : CallR X (.type "list") rListK := by
  intro pins s σ H vs us Q I r h
  obtain ⟨d, kvs, rfl, rd, q⟩ := h
  obtain ⟨u, rfl, ru⟩ := vals1 r
  obtain rfl : u = Value.ref d := ru
  obtain ⟨z, hs, vs, rel, dd⟩ := dk_rd I.hok rd
  obtain ⟨o, es, ep, dr⟩ := id dd
  have da : s.heap.DictAt (mixKind X.prog X.w) d vs ep := ⟨o, es, dr⟩
  have K := PySem.W.kdl_dict (prog := X.prog) (w := X.w) (knd := mixKind X.prog X.w) (d := d) (kvs := vs) (ep := ep) hs
  refine PySem.W.kdl_call K (I.ok.hd hc) da (by rw [← rel.length]; exact z) fun h' tk acc c hk hl hi => ?_
  have hf : H s.heap.objs.size = none := I.hok.fresh (Nat.le_refl _)
  refine ⟨.ref s.heap.objs.size, upd H s.heap.objs.size (.lst (kvs.map fun p => kV p.1)), I.laid (t' := tk) hk (Nat.le_refl _) ?_, rfl, q _ hf⟩
  refine ⟨by rw [List.length_map]; exact z, acc.toList, c, ?_, ?_⟩
  · have key : ∀ (kvs : List (Key × L2.V)) (vs : List (Key × Value)) (us : List Value), KV kvs vs → us.length = vs.length → (∀ (i : Nat) (v : Value), us[i]? = some v → ∃ k x, vs[i]? = some (k, x) ∧ (mixKind X.prog X.w).is k v = true) → Vals (kvs.map fun p => kV p.1) us := by
      intro kvs
      induction kvs with
      | nil =>
        intro vs us r hl hp
        cases r
        cases us with
        | nil => exact .nil
        | cons => simp at hl
      | cons kv kvs ih =>
        intro vs us r hl hp
        cases r with
        | @cons _ b _ vs h1 h2 =>
          cases us with
          | nil => simp at hl
          | cons u us =>
            obtain ⟨k, x, e1, e2⟩ := hp 0 u rfl
            simp at e1
            subst e1
            refine .cons ?_ (ih vs us h2 (by simpa using hl) fun i v hv => ?_)
            · have e3 : keyIs k u = true := e2
              have e4 : kv.1 = k := h1.1
              show L2.RelV (kV kv.1) u
              rw [e4]
              exact relV_key e3
            · obtain ⟨k, x, e3, e4⟩ := hp (i + 1) v (by simpa using hv)
              exact ⟨k, x, by simpa using e3, e4⟩
    refine key kvs vs acc.toList rel (by rw [Array.length_toList]; exact hi.1) fun i v hv => ?_
    exact hi.2 i v (by rw [← Array.getElem?_toList]; exact hv)
  · rw [Array.toArray_toList]
    exact hl
theorem rc_listK {f : κ → Key} (hr : RdD (.fl f) φ os (eM enc w)) : RCN rListK [φ] os (ol ((w.map (·.1)).map (Kd.fl f).ek)) os := fun F H vs Q ow c q => by
  obtain ⟨v, rfl, h⟩ := cla1 c
  obtain ⟨a, kvs, rfl, rd, dv⟩ := hr F H _ ow h
  refine ⟨a, _, rfl, rd, fun m hm => q F _ m (Same.refl F) (ow.new hm fun G g => ⟨_, rfl, ?_⟩)⟩
  have hk := dv_keys dv
  rw [List.map_map] at hk
  have hk : kvs.map (·.1) = w.map (·.1) := hk
  rw [← hk, List.map_map, List.map_map]
  have key : ∀ l : List (κ × L2.V), DqAll G (l.map fun p => kV (f p.1)) (l.map fun p => kPD (f p.1)) := fun l => by
    induction l with
    | nil => exact .nil
    | cons x l ih => exact .cons (dq_keyV _) ih
  exact key kvs
end
end Z
namespace Z
open PySem PySem.Spec PyProof.Rows L2
theorem zip_snoc {α β : Type} : ∀ {qs : List α} {es : List β} {q : α} {e : β}, qs.length = es.length → (qs ++ [q]).zip (es ++ [e]) = qs.zip es ++ [(q, e)]
  | [], [], _, _, _ => rfl
  | [], _ :: _, _, _, h => by simp at h
  | _ :: _, [], _, _, h => by simp at h
  | a :: qs, b :: es, q, e, h => by
    rw [List.cons_append, List.cons_append, List.zip_cons_cons, List.zip_cons_cons, zip_snoc (by simpa using h)]
    rfl
theorem Ow.snoc {F H : Hp} {os : Os} {p q : Addr} {qs : List Addr} {es : List Ent} {e : Ent} (h : Ow F ((q, e) :: (p, onl qs es) :: os) H) : H p = some (.lst (qs.map .ref)) ∧ qs.length = es.length ∧
    Ow F ((p, onl (qs ++ [q]) (es ++ [e])) :: os) (upd H p (.lst (qs.map .ref ++ [.ref q]))) := by
  obtain ⟨o1, hl⟩ := (h.perm (List.Perm.swap _ _ _)).opn
  obtain ⟨_, o, ho, _, rfl⟩ := o1.atU uni_orf
  refine ⟨ho, hl, ?_⟩
  have o2 := o1.putU (e' := orf (qs ++ [q])) (o := .lst ((qs ++ [q]).map .ref)) uni_orf fun _ _ => rfl
  rw [List.map_append] at o2
  refine Ow.cls ?_ (by rw [List.length_append, List.length_append, hl]; rfl)
  rw [zip_snoc hl, List.append_assoc]
  exact o2
/-- what a comprehension asks of its target and of what it walks -/
structure CpOk (X : Cx) (es : List Slot) (os : Os) {α : Type} (tg iter : Expr) (scope : Scope) (own : List (Str × Nat)) (xs : List α) (vp : α → VP) (c : Os → Prop) (g : TG) (up : α → List Slot → List Slot) (os0 : Os) : Prop where
  calm : X.calm = true
  nd : X.N.Nodup
  ok : BlkOk X.N X.env.scope scope own
  pg : ∀ X', Fam X scope X' → PG X' tg g
  hv : ∀ j ∈ own.map (·.2), es[j]? = some un
  hid : ∀ σ : L2.St, wipe (wipe σ (own.map (·.2))) (own.map (·.2)) = wipe σ (own.map (·.2))
  hg : ∀ x F σ H v Q os2, Sl F es σ → wipe σ (own.map (·.2)) = σ → Ow F os2 H → Cl (vp x) F v → (∀ σ', Sl F (up x es) σ' → wipe σ' (own.map (·.2)) = σ → Q σ' H) → g v σ H Q
  hz : xs.length < sizeLine
  hi : IX X tg es os iter xs vp c os0
  hc : ∀ q, c (q :: os0)
section
variable {X : Cx} {es : List Slot} {os os0 os1 os2 : Os} {F0 : Hp} {rest : List Stmt} {D : Ends} {N V G W : List Str} {k i j vi gi : Nat} {x y : Str} {p pos tpos : Pos} {e : Expr} {α β κ γ : Type} {scope : Scope} {iter tg elt kx vx : Expr} {ifs : List Expr} {own : List (Str × Nat)} {xs : List α} {vp : α → VP} {c : Os → Prop} {g : TG} {up : α → List Slot → List Slot}
theorem cp_mk1 (B : Bd X N W G k) (hj : N[j]? = some x) (hun : es[j]? = some un) (hblk : blkC X.N X.env.scope scope [(x, j)] = true) (hown : ownB scope X.env.scope x = true) (hz : xs.length < sizeLine) (hi : IX X (.Name x tpos) es os iter xs vp c os0) (hc : ∀ q, c (q :: os0)) :
    CpOk X es os (.Name x tpos) iter scope [(x, j)] xs vp c (gName j) (fun x es => es.set j (sl (vp x))) os0 where
  calm := B.calm
  nd := B.hN ▸ B.nd
  ok := blkOk_by hblk
  pg := fun X' hX => pg_own hX B hj hown
  hv := fun m hm => by
    have e : m = j := by simpa using hm
    rw [e]
    exact hun
  hid := lc_id1
  hg := fun x F σ H v Q os2 sl hw ow c q => lc_gname x F σ H v Q os2 sl hw ow c q
  hz := hz
  hi := hi
  hc := hc
def LnS (f : γ → Ent) (m : α → Option γ) (xs : List α) (ys : List γ) (os0 : Os) (Dl : Addr) (F1 : Hp) (i : Nat) (H : Hp) : Prop :=
  ∃ d r F, mapO m (xs.drop i) = some r ∧ ys = d ++ r ∧ d.length ≤ i ∧ Same F1 F ∧ Ow F ((Dl, onx (d.map f)) :: os0) H
theorem ln_read {f : γ → Ent} {m : α → Option γ} {ys : List γ} (h : CpOk X es os tg iter scope own xs vp c g up os0) (hl : mapO m xs = some ys)
    (hb : ∀ x y q, x ∈ xs → m x = some y → ∀ X', Fam X scope X' → EN X' (up x es) (q :: os0) elt (f y) (q :: os0))
    {F σ H Q} (ow : Ow F os H) (sl : Sl F es σ) (q : ∀ F' H' p, Same F F' → Ow F' ((p, onx (ys.map f)) :: os0) H' → Q (.ref p) H') : tLc (WI X tg iter) g (tIfs X scope []) (tElt X scope elt) (own.map (·.2)) σ H Q := by
  refine h.hi F σ H _ ow sl fun F1 H1 J e1 o1 good Dl hD => ?_
  refine ⟨fun i n H => n = xs.length - i ∧ i ≤ xs.length ∧ LnS f m xs ys os0 Dl F1 i H, ⟨_, rfl, Nat.zero_le _, [], ys, F1, hl, rfl, Nat.le_refl _, Same.refl F1, ?_⟩, ?_⟩
  · refine o1.new hD fun G s => ⟨[], [], ?_, .nil, ?_, (fun _ z => nomatch z), rfl⟩
    · show one Dl (.lst []) = ov (one Dl (.lst [])) (fun _ => none)
      funext a
      cases z : one Dl (.lst []) a with
      | none => rw [ov_none z]
      | some u => rw [ov_some z]
    · exact List.pairwise_cons.mpr ⟨(fun _ z => nomatch z), .nil⟩
  · rintro i n H' ⟨rfl, hi, d, r, F', hr, hy, hdl, e', o'⟩
    obtain ⟨stop, go⟩ := good F' H' _ i e' o' (h.hc _)
    cases hx : xs[i]? with
    | none =>
      have hi2 : xs.length ≤ i := List.getElem?_eq_none_iff.mp hx
      rw [List.drop_eq_nil_of_le hi2] at hr
      cases hr
      refine .inl ⟨stop hi2, q F' H' Dl (e1.trans e') ?_⟩
      rw [hy, List.append_nil]
      exact o'
    | some x =>
      obtain ⟨hgo, hyl⟩ := go x hx
      have hlt : i < xs.length := (List.getElem?_eq_some_iff.mp hx).1
      rw [drop_cons' hx] at hr
      unfold mapO at hr
      obtain ⟨y, hm, hr⟩ := bnd hr
      obtain ⟨r', hr1, hr2⟩ := bnd hr
      obtain rfl := som hr2
      refine .inr ⟨hgo, LnS f m xs ys os0 Dl F1 (i + 1), fun H2 hH2 => ⟨_, by omega, rfl, by omega, hH2⟩, fun v H3 yv => ?_⟩
      obtain ⟨F3, e3, o3, c3⟩ := hyl v H3 yv
      have slw : Sl F3 es (wipe σ (own.map (·.2))) := sl_wipe (sl.mono ((e1.trans e').trans e3)) _ fun j hj => ⟨un, h.hv j hj, rfl⟩
      refine h.hg x F3 _ H3 v _ _ slw (h.hid σ) o3 c3 fun σ' sl' hw => ⟨hw, ?_⟩
      intro X' hX'
      refine hb x y _ (List.mem_of_getElem? hx) hm X' hX' F3 σ' H3 _ o3 sl' fun F5 H5 qn e5 o5 => ?_
      obtain ⟨qs, o6⟩ := (o5.perm (List.Perm.swap _ _ _)).opx
      obtain ⟨hp, hlen, o7⟩ := (o6.perm (List.Perm.swap _ _ _)).snoc
      rw [List.length_map] at hlen
      refine ⟨_, hp, by rw [List.length_map, hlen]; have := h.hz; omega, d ++ [y], r', F5, hr1, by rw [hy, List.append_assoc]; rfl, by rw [List.length_append, List.length_singleton]; omega, (e'.trans e3).trans e5, ?_⟩
      rw [List.map_append]
      exact o7.clx
theorem en_lcN {f : γ → Ent} {m : α → Option γ} {ys : List γ} (h : CpOk X es os tg iter scope own xs vp c g up os0) (hl : mapO m xs = some ys)
    (hb : ∀ x y q, x ∈ xs → m x = some y → ∀ X', Fam X scope X' → EN X' (up x es) (q :: os0) elt (f y) (q :: os0)) (hs : ∀ x, foldedSetIterable iter X.env x = pure x := by intro _; rfl) : EN X es os (.ListComp elt [⟨tg, iter, [], 0⟩] scope pos) (onx (ys.map f)) os0 := fun F σ H Q ow sl q =>
  we_of (pe_lc h.calm h.nd pi_u h.ok (fun s H C cl fp => h.pg _ ⟨s, H, C, cl, fp, rfl⟩) (fun s H C cl fp => pts_u ⟨s, H, C, cl, fp, rfl⟩ []) (fun s H C cl fp => pe_elt ⟨s, H, C, cl, fp, rfl⟩) hs)
    (ln_read h hl hb ow sl q)
theorem sx_asgLcN {y : Str} {py spos : Pos} {f : γ → Ent} {m : α → Option γ} {ys : List γ} (B : Bd X N W G k) (T : Bt X V) (hi : N[i]? = some y) (hyl : X.env.scope.names.lookup y = some .local) (h : CpOk X es os tg iter scope own xs vp c g up os0) (hl : mapO m xs = some ys)
    (hb : ∀ x y q, x ∈ xs → m x = some y → ∀ X', Fam X scope X' → EN X' (up x es) (q :: os0) elt (f y) (q :: os0))
    (hsw : swapsWith (.ListComp elt [⟨tg, iter, [], 0⟩] scope pos) (some (.Name y py)) spos.line X.env = pure true)
    (hn : ∀ p, SX X (es.set i (sl (Z.own p))) ((p, onx (ys.map f)) :: os0) F0 rest D) (hs : ∀ x, foldedSetIterable iter X.env x = pure x := by intro _; rfl) : SX X es os F0 (.Assign [.Name y py] (.ListComp elt [⟨tg, iter, [], 0⟩] scope pos) spos :: rest) D := fun F σ H s ow sl =>
  wps_cons (ws_of (ps_setLc h.calm h.nd (B.hN ▸ hi) hyl hsw pi_u h.ok (fun s H C cl fp => h.pg _ ⟨s, H, C, cl, fp, rfl⟩) (fun s H C cl fp => pts_u ⟨s, H, C, cl, fp, rfl⟩ []) (fun s H C cl fp => pe_elt ⟨s, H, C, cl, fp, rfl⟩) hs)
    (ln_read (Q := fun v H1 => gName i v σ H1 (WPs X rest D)) h hl hb ow sl fun F1 H1 p e1 o1 => hn p F1 _ H1 (s.trans e1) o1 ((sl.mono e1).put cl_own)))
theorem dput_len [DecidableEq κ] (w : List (κ × β)) (k : κ) (v : β) : (dPut w k v).length ≤ w.length + 1 := by
  unfold dPut
  split
  · rw [List.length_map]; omega
  · rw [List.length_append]; simp
end
end Z
namespace Z
open PySem PySem.Spec PyProof.Rows L2
/-- to assign a value of ψ to tg: slots and what is owned change -/
def GY (X : Cx) (tg : Expr) (ψ : VP) (es : List Slot) (os : Os) (es' : List Slot) (os' : Os) : Prop := ∀ F σ H v (Q : L2.St → Hp → Prop), Ow F os H → Sl F es σ → Cl ψ F v → (∀ F' σ' H', Same F F' → Ow F' os' H' → Sl F' es' σ' → Q σ' H') → WG X tg v σ H Q
section
variable {X : Cx} {es es1 es2 : List Slot} {os os1 os2 os3 os4 : Os} {F0 : Hp} {rest : List Stmt} {D : Ends} {N V G W : List Str} {n i j vi gi : Nat} {x : Str} {p pos tpos apos cpos : Pos} {e a b tg tg1 tg2 : Expr} {φ ψ : VP} {κ β γ : Type} {enc : β → PyData}
/-- .append of a list wherever it stands -/
theorem ex_appW {xs xs0 ys : List β} {y : β} {q : Addr} {os' os0' : List β → Os} (hz : appO xs y = some ys) (ho : EX X es os a (own q) os1) (h0 : WrT os1 q (olT enc) xs0 os0') (he : EX X es os1 e (dat (enc y)) os2) (hw : WrT os2 q (olT enc) xs os')
    (hbase : attributeBase a "append" X.env (eval a X.env) = eval a X.env := by rfl) (hline : (apos.endLine == cpos.line) = true := by rfl) (hs : starEach [e] X.env = (false, eval e X.env) :: starEach [] X.env := by rfl)
    (hfew : ((backTo cpos (starEach [e] X.env)).all (fun x => !x.1) && (backToKw cpos (keywordEach [] X.env)).all (fun x => x.1.isSome) && decide ([e].length + ([] : List Keyword).length + (if ([] : List Keyword).isEmpty then 0 else 1) < 30)) = true := by rfl)
    (hplain : (backTo cpos (starEach [] X.env)).any (·.1) = false := by rfl) : EX X es os (.Call (.Attribute a "append" apos) [e] [] cpos) (dat .none) (os' ys) := fun F σ H Q ow sl q => by
  unfold appO at hz
  split at hz
  · rename_i hl
    cases hz
    refine we_of (pe_bm PySem.F.plainAttrs_list PySem.F.slot_list_append PySem.F.type_list_append mt_append pe_u pa_u hbase hfew hline hs hplain) (ho F σ H _ ow sl fun F1 H1 v e1 o1 c1 => ?_)
    obtain ⟨_, o, hq, _, ⟨vs0, rfl, _⟩, _⟩ := h0 F1 H1 _ uni_ol o1
    cases c1.now
    refine ⟨.inl ⟨rfl, vs0, .of hq⟩, wa_of (pa_cons pe_u pa_nil hs) (he F1 σ H1 _ o1 (sl.mono e1) fun F2 H2 u e2 o2 c2 => ?_)⟩
    obtain ⟨_, o, hq, _, ⟨vs, rfl, dv⟩, zz⟩ := hw F2 H2 _ uni_ol o2
    have hlen := dqall_len dv
    rw [List.length_map] at hlen
    refine ⟨_, vs, u, rfl, rfl, hq, by rw [hlen]; exact hl, q F2 _ .non (e1.trans e2) (zz _ (xs ++ [y]) (fun _ h => by cases h) fun G g => ⟨_, rfl, ?_⟩) (cl_dat .non)⟩
    rw [List.map_append]
    exact dqall_mono g _ _ (dqall_app dv (.cons c2.now .nil))
  · cases hz
end
end Z
namespace Z
open PySem PySem.Spec PyProof.Rows L2
def lenO {α : Type} (xs : List α) : Option Unit := if xs.length < sizeLine then some () else none
theorem lenO_ok {α : Type} {xs : List α} {u : Unit} (h : lenO xs = some u) : xs.length < sizeLine := by
  unfold lenO at h
  split at h
  · assumption
  · cases h
theorem wpAny_Dict_pairsH' {prog : Program} {w : World} {A : Around} {E : Value → Shared → Prop} {s : Shared} {K : Type} [DecidableEq K] {knd : HeapKind prog w K} {env : Env} {keys : List (Option Expr)} {values : List Expr} {pos : Pos} {pairs : List (Sem Value × Sem Value)} {Q : Value → Shared → Prop} (hu : knd.room A)
    (hshape : (evalEachOpt keys env).zip ((evalEach values env).map fun v => do let x ← v; standAt pos; pure x) = pairs.map fun p => (some p.1, p.2)) (h0 : pairs ≠ []) (hlen : pairs.length ≤ 15)
    (h : wpAny (model prog w) A (evalPairs pairs) (fun vs s₁ => ∃ ps, CarriesH knd s₁.heap vs ps ∧ s₁.heap.DictOfH knd s.heap.objs.size [] ∧
      ∀ h' tk, h'.DictOfH knd s.heap.objs.size (storedAllH [] ps) → Heap.SameBut s.heap.objs.size s₁.heap h' → Q (.ref s.heap.objs.size) { s₁ with heap := h', toks := tk }) E
      { s with heap := s.heap.push { cls := .type "dict", data := .dict #[] } }) :
    wpAny (model prog w) A (eval (.Dict keys values pos) env) Q E s := by
  rw [arm_eval_Dict, hshape, dictDisplay_pairs pairs h0 (by omega)]
  exact wpAny_bind (wpAny_standAt (wpAny_bind (wpAny_subDictH (knd := knd) (Q := fun d s' => wpAny (model prog w) A (pure (Value.ref d)) Q E s') hu hlen
    (wpAny_mono h (fun vs s₁ h₁ => by obtain ⟨ps, hc, hm, hq⟩ := h₁; exact ⟨ps, hc, hm, fun h' tk a b => wpAny_pure (hq h' tk a b)⟩) fun _ _ e => e))))
section
variable {X : Cx} {es es1 es2 : List Slot} {os os1 os2 os3 : Os} {F0 : Hp} {rest : List Stmt} {D : Ends} {N V G W : List Str} {n i j vi gi : Nat} {x y : Str} {p pos tpos apos cpos : Pos} {e a b c k v : Expr} {φ ψ : VP} {α κ β γ : Type} {enc : β → PyData}
theorem wr_same_nest {f : γ → Ent} {ws : List γ} {d : γ} {q : Addr} {qs : List Addr} {z : Int} (j : Nat) (h : os[j]? = some (q, onl qs (ws.map f))) (hk : idx ws z = some d) : ∀ F H, Ow F os H → Ow F (os.set j (q, onl qs ((setI ws z d).map f))) H := fun F H ow => by
  have e : setI ws z d = ws := by
    obtain ⟨_, k2⟩ := idx_at hk
    unfold setI
    refine List.ext_getElem? fun m => ?_
    by_cases hm : ixD ws.length z = m
    · subst hm
      rw [List.getElem?_set_self (List.getElem?_eq_some_iff.mp k2).1, k2]
    · rw [List.getElem?_set_ne hm]
  rw [e]
  exact (ow.perm (perm_at h)).perm (perm_set h)
theorem en_nil {f : γ → Ent} : EN X es os (.List [] pos) (onx (([] : List γ).map f)) os := fun F σ H Q ow sl q =>
  we_of (pe_lst pa_u) (wa_of pa_nil ⟨by decide, fun p hp => q F _ p (Same.refl F) (ow.new hp fun G s => ⟨[], [], by
    show one p (.lst []) = ov (one p (.lst [])) (fun _ => none)
    funext a
    cases z : one p (.lst []) a with
    | none => rw [ov_none z]
    | some u => rw [ov_some z], .nil, List.pairwise_cons.mpr ⟨(fun _ z => nomatch z), .nil⟩, (fun _ z => nomatch z), rfl⟩)⟩)
theorem en_disp1 {f : κ → Key} {k' : κ} {x' : β} (hi : (Kd.fl f).Inj) (hk : ∀ q, EX X es (q :: os) k (dat ((Kd.fl f).ek k')) (q :: os1)) (hv : ∀ q, EX X es (q :: os1) v (dat (enc x')) (q :: os2)) : EN X es os (.Dict [some k] [v] pos) (od (.fl f) (eM enc [(k', x')])) os2 := fun F σ H Q ow sl q =>
  we_of (pe_disp (pps_cons pe_u pe_u pps_nil) rfl rfl (by simp) (by simp)) fun p hp => by
    have o0 : Ow F ((p, od (.fl f) ([] : List (κ × PyData))) :: os) (upd H p (.dK [])) := ow.new hp (od_one (kd := .fl f) .nil)
    refine hk _ F σ _ _ o0 sl fun F1 H1 y e1 o1 c1 => hv _ F1 σ H1 _ o1 (sl.mono e1) fun F2 H2 u e2 o2 c2 => ?_
    obtain ⟨_, o, ho, _, kvs, rfl, dv⟩ := o2.atU uni_od
    cases dv
    refine ⟨ho, [(f k', u)], ?_, by simp, ?_⟩
    · rw [key_val (kd := .fl f) (c1.mono e2)]
      rfl
    · exact q F2 _ p (e1.trans e2) (o2.putU uni_od (od_one (kd := .fl f) (kvs := [(k', u)]) (.cons c2.now .nil)))
theorem en_disp1T {f : κ → List Key} {k' : κ} {x' : β} (B : Bd X N W G n) (hk : ∀ q, EX X es (q :: os) k (dat ((Kd.tu f).ek k')) (q :: os1)) (hv : ∀ q, EX X es (q :: os1) v (dat (enc x')) (q :: os2)) : EN X es os (.Dict [some k] [v] pos) (od (.tu f) (eM enc [(k', x')])) os2 := fun F σ H Q ow sl qq pins s I => by
  have hn := I.hok.fresh (Nat.le_refl s.heap.objs.size)
  have I1 := I.laid (a := s.heap.objs.size) (o := .dT []) (h' := s.heap.push { cls := .type "dict", data := .dict #[] }) (t' := s.toks) (fun _ _ q => Heap.get?_push_of_some _ q) (Nat.le_refl _) (dt_empty s.heap I.big)
  have o0 : Ow F ((s.heap.objs.size, od (.tu f) ([] : List (κ × PyData))) :: os) (upd H s.heap.objs.size (.dT [])) := ow.new hn (od_one (kd := .tu f) .nil)
  have hu : (tupleKind (mixKind X.prog X.w)).room X.A := by
    have := B.u1
    show X.A.units < cLine
    omega
  have run := (pps_cons (X := X) (pos := pos) (pe_u (e := k)) (pe_u (e := v)) pps_nil).run pins _ σ _ (fun ps H2 => ∃ F2 kv u, Same F F2 ∧ Ow F2 ((s.heap.objs.size, od (.tu f) ([] : List (κ × PyData))) :: os2) H2 ∧ ps = [(kv, u)] ∧ KeyV (.tu f) k' F2 kv ∧ Dq F2 u (enc x')) I1
    (hk _ F σ _ _ o0 sl fun F1 H1 y e1 o1 c1 => hv _ F1 σ H1 _ o1 (sl.mono e1) fun F2 H2 u e2 o2 c2 => ⟨F2, y, u, e1.trans e2, o2, rfl, key_val (c1.mono e2), c2.now⟩)
  refine wpAny_Dict_pairsH' (knd := tupleKind (mixKind X.prog X.w)) hu (pairs := pairTrees [some k] [v] X.env pos) (zip_pairTrees _ _ _ _ rfl rfl) (by simp [pairTrees]) (by simp [pairTrees]) (wpAny_mono run (fun vs s2 h => ?_) fun _ _ z => z)
  obtain ⟨ps, H2, I2, rel, F2, kv, u, e, o2, rfl, hkv, hd⟩ := h
  obtain ⟨b, rfl, hb⟩ := hkv
  obtain ⟨_, o, ho, _, kvs, rfl, dv⟩ := o2.atU uni_od
  cases dv
  cases rel with
  | cons r1 r2 =>
    cases r2
    obtain ⟨r1, r3⟩ := r1
    rename_i kw
    obtain ⟨w1, w2⟩ := kw
    obtain rfl : w1 = Value.ref b := r1
    obtain ⟨z, hs, xs, rel, dd⟩ := dt_of I2.hok ho
    cases rel
    have hbt : H2 b = some (.tup ((f k').map kV)) := o2.ex _ _ hb
    refine ⟨[(f k', b, w2)], ⟨rfl, rfl, key_of I2.hok hbt, trivial⟩, dd, fun h' tk dd' hs2 => ?_⟩
    refine ⟨.ref s.heap.objs.size, upd H2 s.heap.objs.size (.dT [(f k', u)]), ?_, rfl, ?_⟩
    · have he : ∃ q, h'.get? s.heap.objs.size = some q := let ⟨q, _, _, hq, _⟩ := dd'; ⟨q, hq⟩
      refine d_write I2 (by rw [ho]; exact True.intro) hs2 he ?_
      obtain ⟨o', es', ep', g1, g2, g3, g4, g5, g6⟩ := dd'
      refine ⟨by show 1 ≤ sizeLine; decide, hs, [(f k', b, w2)], .cons ⟨rfl, ?_, r3⟩ .nil, o', es', ep', g1, g2, g3, g4, g6⟩
      have : b ≠ s.heap.objs.size := fun z => by
        rw [z, ho] at hbt
        cases hbt
      rw [upd_ne this]
      exact hbt
    · exact qq F2 _ _ e (o2.putU uni_od (od_one (kd := .tu f) (kvs := [(k', u)]) (.cons hd .nil)))
def popI {α : Type} (xs : List α) (i : Int) : Option (α × List α) := if -(2 ^ 63) ≤ i ∧ i < 2 ^ 63 then (match seqIndex? i xs.length with
  | some k => (xs[k]?).map fun y => (y, xs.eraseIdx k)
  | none => none) else none
theorem dqall_erase {F : Hp} : ∀ {ds : List PyData} {vs : List L2.V} (i : Nat), DqAll F vs ds → DqAll F (vs.eraseIdx i) (ds.eraseIdx i)
  | _, _, _, .nil => .nil
  | _, _, 0, .cons h1 h2 => h2
  | _, _, i + 1, .cons h1 h2 => .cons h1 (dqall_erase i h2)
theorem map_eraseIdx {α β : Type} (f : α → β) : ∀ (xs : List α) (i : Nat), (xs.eraseIdx i).map f = (xs.map f).eraseIdx i
  | [], _ => rfl
  | x :: xs, 0 => rfl
  | x :: xs, i + 1 => by
    rw [List.eraseIdx_cons_succ, List.map_cons, List.map_cons, List.eraseIdx_cons_succ, map_eraseIdx f xs i]
theorem rc_listKI {w : List (Int × β)} (hr : RdD kI φ os (eM enc w)) : RCN rListK [φ] os (ol ((w.map (·.1)).map PyData.int)) os := rc_listK (f := Sum.inl) hr
end
end Z
namespace Z
open PySem PySem.Spec PyProof.Rows L2
def lenSetO (ns : List Int) : Option Int := if ns.Nodup ∧ ns.length ≤ 4000 then some (ns.length : Int) else none
section
variable {X : Cx} {es es1 es2 : List Slot} {os os1 os2 os3 : Os} {F0 : Hp} {rest : List Stmt} {D : Ends} {N V G W : List Str} {n i j vi gi gj : Nat} {x y : Str} {p p2 q pos tpos apos cpos : Pos} {e a b c k v : Expr} {φ ψ : VP} {α κ β γ : Type} {enc : β → PyData}
theorem ex_lenSet {ns : List Int} {m : Int} (B : Bd X N W G n) (hj : G[gi]? = some "len") (hm : X.mg "len" = none) (hj2 : G[gj]? = some "set") (hm2 : X.mg "set" = none) (h : lenSetO ns = some m) (hr : RdL X φ os1 (ns.map PyData.int)) (ha : EX X es os a φ os1)
    (na : starEach [a] X.env = (false, eval a X.env) :: starEach [] X.env := by rfl) : EX X es os (.Call (.Name "len" p) [.Call (.Name "set" p2) [a] [] q] [] pos) (dat (.int m)) os1 := fun F σ H Q ow sl qq => by
  unfold lenSetO at h
  split at h
  · rename_i hl
    cases h
    refine we_of (RZ.pe_lenSetI (B.gl _ (List.mem_of_getElem? hj)).1 hm (B.gl _ (List.mem_of_getElem? hj2)).1 hm2 pe_u B.calm na) (ha F σ H _ ow sl fun F1 H1 v e1 o1 c1 => ?_)
    obtain ⟨l, vs, rfl, h1, h2⟩ := hr F1 H1 v o1 c1
    have ev := dqall_of_ints ns h2
    subst ev
    exact ⟨l, ns, rfl, h1, hl.1, hl.2, qq F1 H1 _ e1 o1 (cl_dat (.int _))⟩
  · cases h
/-- a comprehension stored into a name that is no plain local one is an ordinary store -/
theorem sw_no {elt : Expr} {gs : List Comprehension} {scope : Scope} {py : Pos} {l : Nat} {env : Env} (hy : (env.scope.names.lookup y == some .local) = false) : swapsWith (.ListComp elt gs scope pos) (some (.Name y py)) l env = pure false := by
  unfold swapsWith
  have ky : (env.kindOf y == some NameKind.local) = false := hy
  simp only [ky, Bool.and_false, Bool.false_and]
theorem tx_din [DecidableEq κ] {kd : Kd κ} {w : List (κ × β)} {k : κ} (hi : kd.Inj) (B : Bd X N W G n) (hr : RdD kd φ os2 (eM enc w)) (ha : EX X es os a (dat (kd.ek k)) os1) (hb : EX X es os1 b φ os2) (hm : behindInMarks .In b = false := by rfl) : TX X es os (.Compare a [.In] [b] pos) (dGet w k).isSome os2 := fun F σ H Q ow sl q =>
  wt_of (pt_cmp (pc_din B.u1 pe_u pe_u) hm) (ha F σ H _ ow sl fun F1 H1 y e1 o1 c1 => hb F1 σ H1 _ o1 (sl.mono e1) fun F2 H2 v e2 o2 c2 => by
    obtain ⟨p, kvs, rfl, rd, dv⟩ := hr F2 H2 v o2 c2
    exact ⟨p, _, rfl, dget_of hi o2.ex rd (key_val (c1.mono e2)), _, rfl, by rw [dget_some (H := H2) (p := p) hi dv]; exact q F2 H2 (e1.trans e2) o2⟩)
theorem tx_dnotin [DecidableEq κ] {kd : Kd κ} {w : List (κ × β)} {k : κ} (hi : kd.Inj) (B : Bd X N W G n) (hr : RdD kd φ os2 (eM enc w)) (ha : EX X es os a (dat (kd.ek k)) os1) (hb : EX X es os1 b φ os2) (hm : behindInMarks .NotIn b = false := by rfl) : TX X es os (.Compare a [.NotIn] [b] pos) (!(dGet w k).isSome) os2 := fun F σ H Q ow sl q =>
  wt_of (pt_cmp (pc_dnotin B.u1 pe_u pe_u) hm) (ha F σ H _ ow sl fun F1 H1 y e1 o1 c1 => hb F1 σ H1 _ o1 (sl.mono e1) fun F2 H2 v e2 o2 c2 => by
    obtain ⟨p, kvs, rfl, rd, dv⟩ := hr F2 H2 v o2 c2
    exact ⟨p, _, rfl, dget_of hi o2.ex rd (key_val (c1.mono e2)), _, rfl, by rw [dget_some (H := H2) (p := p) hi dv]; exact q F2 H2 (e1.trans e2) o2⟩)
theorem ex_popI2 {m : Nat} {xs xs0 : List β} {z : Int} {r : β × List β} {q : Addr} (hr : popI xs z = some r) (ho : EX X es os a (own q) os) (h0 : os[m]? = some (q, ol (xs0.map enc))) (he : EX X es os e (dat (.int z)) os1) (hj : os1[j]? = some (q, ol (xs.map enc)))
    (hbase : attributeBase a "pop" X.env (eval a X.env) = eval a X.env := by rfl) (hline : (apos.endLine == cpos.line) = true := by rfl) (hs : starEach [e] X.env = (false, eval e X.env) :: starEach [] X.env := by rfl)
    (hfew : ((backTo cpos (starEach [e] X.env)).all (fun x => !x.1) && (backToKw cpos (keywordEach [] X.env)).all (fun x => x.1.isSome) && decide ([e].length + ([] : List Keyword).length + (if ([] : List Keyword).isEmpty then 0 else 1) < 30)) = true := by rfl)
    (hplain : (backTo cpos (starEach [] X.env)).any (·.1) = false := by rfl) : EX X es os (.Call (.Attribute a "pop" apos) [e] [] cpos) (dat (enc r.1)) (os1.set j (q, ol (r.2.map enc))) := fun F σ H Q ow sl qq => by
  unfold popI at hr
  split at hr
  · rename_i hl
    split at hr
    · rename_i k hk
      cases hy : xs[k]? with
      | none =>
        rw [hy] at hr
        cases hr
      | some y =>
        rw [hy] at hr
        cases hr
        refine we_of (pe_bm PySem.F.plainAttrs_list PySem.F.slot_list_pop PySem.F.type_list_pop mt_popAt pe_u pa_u hbase hfew hline hs hplain) (ho F σ H _ ow sl fun F1 H1 v e1 o1 c1 => ?_)
        obtain rfl : v = .ref q := c1.now
        obtain ⟨_, _, _, ty⟩ := ty_own (K := X.K) o1 h0
        refine ⟨ty, wa_of (pa_cons pe_u pa_nil hs) (he F1 σ H1 _ o1 (sl.mono e1) fun F2 H2 u e2 o2 c2 => ?_)⟩
        obtain ⟨vs, hp, hv, _⟩ := ty_own (K := X.K) o2 hj
        have hlen := dqall_len hv
        rw [List.length_map] at hlen
        obtain ⟨u', hu, hd⟩ := dqall_map hv hy
        refine ⟨q, vs, z, k, u', rfl, by rw [clv_int c2], hp, hl.1, hl.2, by rw [hlen]; exact hk, hu, ?_⟩
        have o3 := ow_set o2 hj (dqall_erase k hv)
        rw [← map_eraseIdx] at o3
        exact qq F2 _ u' (e1.trans e2) o3 (cl_dat hd)
    · cases hr
  · cases hr
end
end Z
namespace Z
open PySem PySem.Spec PyProof.Rows L2
/-- a product: one factor is small, or both are not too long -/
def mulW (i j : Int) : Option Int := if (-(2 ^ 64) < i ∧ i < 2 ^ 64) ∨ (-(2 ^ 64) < j ∧ j < 2 ^ 64) ∨ i.natAbs.log2 + j.natAbs.log2 < 1000000 then some (i * j) else none
theorem ex_mulW {X : Cx} {es : List Slot} {os os1 os2 : Os} {a b : Expr} {pos : Pos} {i j m : Int} (hm : mulW i j = some m) (ha : EX X es os a (dat (.int i)) os1) (hb : EX X es os1 b (dat (.int j)) os2) : EX X es os (.BinOp a .Mult b pos) (dat (.int m)) os2 := by
  unfold mulW at hm
  split at hm
  · rename_i h
    cases hm
    rcases h with h | h | h
    · exact ex_mulL h ha hb
    · exact ex_mulR h ha hb
    · exact ex_mul (if_pos h) ha hb
  · cases hm
end Z
namespace Z
open PySem PySem.Spec PyProof.Rows L2
end Z
namespace Z
open PySem PySem.Spec PyProof.Rows L2
section
variable {X : Cx} {es es1 es2 : List Slot} {os os1 os2 os3 : Os} {F0 : Hp} {rest : List Stmt} {D : Ends} {N V G W : List Str} {n i j k vi gi gj : Nat} {x y : Str} {pos pos' tpos apos cpos pp : Pos} {p q : Addr} {e a b c v : Expr} {φ ψ : VP} {γ : Type} {f : γ → Ent} {ws : List γ} {d d' : γ} {z : Int} {qs : List Addr}
/-- one of a list of owned things, opened for a call -/
theorem Ow.sub {F H : Hp} (j : Nat) (h : os[j]? = some (p, onl qs (ws.map f))) (hk : idx ws z = some d) (ow : Ow F os H) : ∃ tl, qs.length = ws.length ∧ Ow F ((qa qs z, f d) :: (p, orf qs) :: (os.eraseIdx j ++ tl)) H ∧
    ∀ d' F' H', Ow F' ((qa qs z, f d') :: (p, orf qs) :: (os.eraseIdx j ++ tl)) H' → Ow F' (os.set j (p, onl qs ((setI ws z d').map f))) H' := by
  obtain ⟨o1, hl⟩ := (ow.perm (perm_at h)).opn
  rw [List.length_map] at hl
  obtain ⟨k1, k2⟩ := idx_at hk
  have hi : ixD ws.length z < ws.length := (List.getElem?_eq_some_iff.mp k2).1
  have hq : qs[ixD ws.length z]? = some (qa qs z) := by
    unfold qa
    rw [hl]
    exact getD_at (by rw [hl]; exact hi)
  have he : (ws.map f)[ixD ws.length z]? = some (f d) := by rw [List.getElem?_map, k2]; rfl
  have hz : (qs.zip (ws.map f))[ixD ws.length z]? = some (qa qs z, f d) := zip_at hq he
  have pz : ∀ e' : Ent, (qs.zip (ws.map f)).set (ixD ws.length z) (qa qs z, e') = qs.zip ((ws.map f).set (ixD ws.length z) e') := fun e' => zip_set hq
  have pm : ∀ e' : Ent, ((p, orf qs) :: (((qs.zip (ws.map f)).set (ixD ws.length z) (qa qs z, e')) ++ os.eraseIdx j)).Perm ((qa qs z, e') :: (p, orf qs) :: (os.eraseIdx j ++ (qs.zip (ws.map f)).eraseIdx (ixD ws.length z))) := fun e' => by
    have hs : ((qs.zip (ws.map f)).set (ixD ws.length z) (qa qs z, e')).Perm ((qa qs z, e') :: (qs.zip (ws.map f)).eraseIdx (ixD ws.length z)) := (perm_set hz).symm
    refine (List.Perm.cons _ (hs.append_right _)).trans ?_
    refine (List.Perm.swap _ _ _).trans (List.Perm.cons _ (List.Perm.cons _ List.perm_append_comm))
  refine ⟨(qs.zip (ws.map f)).eraseIdx (ixD ws.length z), hl, ?_, fun d' F' H' o' => ?_⟩
  · have := pm (f d)
    rw [show (qs.zip (ws.map f)).set (ixD ws.length z) (qa qs z, f d) = qs.zip (ws.map f) from by
      obtain ⟨q1, q2⟩ := List.getElem?_eq_some_iff.mp hz
      rw [← q2, List.set_getElem_self]] at this
    exact o1.perm this
  · have o2 := o'.perm (pm (f d')).symm
    rw [pz] at o2
    have o3 := o2.cls (by rw [List.length_set, List.length_map]; exact hl)
    have e5 : (ws.map f).set (ixD ws.length z) (f d') = (setI ws z d').map f := by
      unfold setI
      rw [List.map_set]
    rw [e5] at o3
    exact o3.perm (perm_set h)
theorem EX.sub (j : Nat) (h : os[j]? = some (p, onl qs (ws.map f))) (hk : idx ws z = some d) (k : ∀ tl, qs.length = ws.length → EX X es ((qa qs z, f d) :: (p, orf qs) :: (os.eraseIdx j ++ tl)) e φ ((qa qs z, f d') :: (p, orf qs) :: (os.eraseIdx j ++ tl))) : EX X es os e φ (os.set j (p, onl qs ((setI ws z d').map f))) := fun F σ H Q ow sl qq => by
  obtain ⟨tl, hl, o1, back⟩ := ow.sub j h hk
  exact k tl hl F σ H Q o1 sl fun F' H' v e' o' c' => qq F' H' v e' (back d' F' H' o') c'
end
end Z
namespace Z
open PySem PySem.Spec PyProof.Rows L2
section
variable {P : Program} {w : World} {K : PySem.W.Frag} {mg : Str → Option Value} {base : Heap}
variable {α β : Type} {ps : α → List VP} {pre : α → Os} {m : α → Option β} {res : α → β → VP} {post : α → β → Os} {n : α → β → Ent} {x : Str} {st : Stmt} {f : Addr} {fd : FuncData} {N V Gs pn : List Str} {k nl : Nat}
theorem cal_ZQ {sts : List Stmt} (hst : defBody st = sts) (Fn : Fun K x x st f fd) (S : FnScope N pn (defScope st)) (nam : namB (defScope st) V Gs = true) (loc : V.all (locB (defScope st)) = true) (hmg : mg x = some (.ref f)) (hb : Binds K fd pn []) (hps : ∀ a, (ps a).length = pn.length) (hN : N.length = pn.length + nl)
    (body : ∀ (f : Addr) (cdv : Value) (A : Around) (outer : List Env) (s : Shared) (H : Hp) (E : XK) (a : α) (b : β) (F0 : Hp) (os : Os) (D : Ends), Bd (cxOf CX0 P w K mg base N x (defScope st) f cdv A outer s H E).nox N V Gs k → Bt (cxOf CX0 P w K mg base N x (defScope st) f cdv A outer s H E).nox V →
      m a = some b → RetZ F0 (post a b ++ os) (res a b) D → SX (cxOf CX0 P w K mg base N x (defScope st) f cdv A outer s H E).nox ((ps a).map sl ++ List.replicate nl un) (pre a ++ os) F0 sts D) : Cal P w K mg base (k + 1) x st pn (spZ ps pre m res post) := by
  subst hst
  exact cal_Z Fn S nam loc hmg hb hps hN body
theorem cal_NQ {sts : List Stmt} (hst : defBody st = sts) (Fn : Fun K x x st f fd) (S : FnScope N pn (defScope st)) (nam : namB (defScope st) V Gs = true) (loc : V.all (locB (defScope st)) = true) (hmg : mg x = some (.ref f)) (hb : Binds K fd pn []) (hps : ∀ a, (ps a).length = pn.length) (hN : N.length = pn.length + nl)
    (body : ∀ (f : Addr) (cdv : Value) (A : Around) (outer : List Env) (s : Shared) (H : Hp) (E : XK) (a : α) (b : β) (F0 : Hp) (os : Os) (D : Ends), Bd (cxOf CX0 P w K mg base N x (defScope st) f cdv A outer s H E).nox N V Gs k → Bt (cxOf CX0 P w K mg base N x (defScope st) f cdv A outer s H E).nox V →
      m a = some b → RetN F0 (post a b ++ os) (n a b) D → SX (cxOf CX0 P w K mg base N x (defScope st) f cdv A outer s H E).nox ((ps a).map sl ++ List.replicate nl un) (pre a ++ os) F0 sts D) : Cal P w K mg base (k + 1) x st pn (spN ps pre m n post) := by
  subst hst
  exact cal_N Fn S nam loc hmg hb hps hN body
end
end Z
namespace Z
open PySem PySem.Spec PyProof.Rows L2
def ltI : Int → Int → Bool := fun a b => decide (a < b)
def ltL {α : Type} [DecidableEq α] (lt : α → α → Bool) : List α → List α → Bool
  | x :: xs, y :: ys => if x = y then ltL lt xs ys else lt x y
  | [], _ :: _ => true
  | _, [] => false
def ltP2 {α β : Type} [DecidableEq α] (l1 : α → α → Bool) (l2 : β → β → Bool) : α × β → α × β → Bool := fun a b => if a.1 = b.1 then l2 a.2 b.2 else l1 a.1 b.1
end Z
namespace Z
open PySem PySem.Spec PyProof.Rows L2
end Z
namespace Z
open PySem PySem.Spec PyProof.Rows L2
end Z
namespace Z
open PySem PySem.Spec PyProof.Rows L2
def idxH {γ : Type} (ws : List (Option γ)) (z : Int) : Option γ := (idx ws z).bind id
def unH {γ : Type} : List (Option γ) → Option (List γ)
  | [] => some []
  | o :: r => o.bind fun x => (unH r).bind fun xs => some (x :: xs)
theorem idx_mapS {γ : Type} {ws : List γ} {z : Int} {d : γ} (h : idx ws z = some d) : idx (ws.map some) z = some (some d) := by
  obtain ⟨k1, k2⟩ := idx_at h
  unfold idx atI
  rw [List.length_map, k1]
  show (ws.map some)[ixD ws.length z]? = _
  rw [List.getElem?_map, k2]
  rfl
section
variable {X : Cx} {es es1 : List Slot} {os os1 os2 : Os} {F0 : Hp} {rest : List Stmt} {D : Ends} {N V G W : List Str} {n k i j vi gi : Nat} {x : Str} {p q pos apos cpos tpos : Pos} {e a b tg : Expr} {φ ψ : VP} {γ : Type} {f : γ → Ent} {g : γ → PyData} {m : Ent}
theorem GY.drop {es' : List Slot} {u : Addr × Ent} (k : GY X tg ψ es os es' (u :: os1)) : GY X tg ψ es os es' os1 := fun F σ H v Q ow s c qq => k F σ H v Q ow s c fun F' σ' H' e o l => qq F' σ' H' e o.drop l
end
end Z
namespace Z
open PySem PySem.Spec PyProof.Rows L2
end Z
namespace Z
open PySem PySem.Spec PyProof.Rows L2
abbrev T3 : Type := Tri Int Int Int
abbrev e3 : T3 → PyData := eP3 PyData.int PyData.int PyData.int
/-- the place of a triple in the order, if its parts lie in [0, 10^6) -/
def cd3 (t : T3) : Int := (t.a * 1000000 + t.b) * 1000000 + t.c
end Z
namespace Z
open PySem PySem.Spec PyProof.Rows L2
end Z
namespace Z
open PySem PySem.Spec PyProof.Rows L2
end Z
namespace Z
open PySem PySem.Spec PyProof.Rows L2
end Z
namespace Z
open PySem PySem.Spec L2
def maxO : List Int → Option Int
  | [] => none
  | x :: t => some (t.foldl (fun a b => if b > a then b else a) x)
theorem fold_max : ∀ (t : List Int) (x : Int), (t.foldl (fun a b => if b > a then b else a) x = x ∨ t.foldl (fun a b => if b > a then b else a) x ∈ t) ∧ x ≤ t.foldl (fun a b => if b > a then b else a) x ∧ ∀ y ∈ t, y ≤ t.foldl (fun a b => if b > a then b else a) x
  | [], x => ⟨.inl rfl, Int.le_refl _, fun _ z => nomatch z⟩
  | b :: t, x => by
    obtain ⟨h1, h2, h3⟩ := fold_max t (if b > x then b else x)
    rw [List.foldl_cons]
    have hb : x ≤ (if b > x then b else x) ∧ b ≤ (if b > x then b else x) := by split <;> omega
    refine ⟨?_, by omega, fun y hy => ?_⟩
    · rcases h1 with h1 | h1
      · rw [h1]
        split
        · exact .inr List.mem_cons_self
        · exact .inl rfl
      · exact .inr (List.mem_cons_of_mem _ h1)
    · rcases List.mem_cons.mp hy with rfl | hy
      · omega
      · exact h3 y hy
theorem maxO_ok {ns : List Int} {r : Int} (h : maxO ns = some r) : r ∈ ns ∧ ∀ y ∈ ns, y ≤ r := by
  cases ns with
  | nil => cases h
  | cons x t =>
    cases h
    obtain ⟨h1, h2, h3⟩ := fold_max t x
    refine ⟨h1.elim (fun e => by rw [e]; exact List.mem_cons_self) fun e => List.mem_cons_of_mem _ e, fun y hy => ?_⟩
    rcases List.mem_cons.mp hy with rfl | hy
    · exact h2
    · exact h3 y hy
section
variable {X : Cx} {os : Os}
theorem rc_maxL {φ : VP} {ns : List Int} {r : Int} (h : maxO ns = some r) (hr : RdL X φ os (ns.map PyData.int)) : RCX (rMax X.K) [φ] os (dat (.int r)) os := fun F H vs Q ow c q => by
  obtain ⟨v, rfl, hv⟩ := cla1 c
  obtain ⟨a, us, rfl, h1, h2⟩ := hr F H v ow hv
  have e := dqall_of_ints ns h2
  subst e
  obtain ⟨m1, m2⟩ := maxO_ok h
  refine ⟨a, ns, rfl, h1, List.length_pos_of_mem m1, fun m hm hle => ?_⟩
  have : m = r := Int.le_antisymm (m2 m hm) (hle r m1)
  subst this
  exact q F H _ (Same.refl F) ow (cl_dat (.int _))
end
end Z
namespace Z
open PySem PySem.Spec PyProof.Rows L2
end Z
namespace Z
open PySem PySem.Spec PyProof.Rows L2
open PySem.Sem (wp)
/-- one step deeper -/
def a1 (X : Cx) : Cx := { X with A := X.A.in1 }
section
variable {X : Cx} {pins : List (Addr × Obj)} {σ : L2.St} {H : Hp} {s : Shared}
/-- a new place -/
structure Fsh (X : Cx) (pins : List (Addr × Obj)) (a : Addr) : Prop where
  sz : X.s_0.heap.objs.size ≤ a
  loc : a ≠ X.env.locals
  cell : ∀ x c, X.env.cells.lookup x = some c → c ≠ a
  pin : ∀ p ∈ X.pn ++ pins, p.1 ≠ a
  fs : a ∉ X.fs
theorem list_raw {l : Addr} {xs : List V} (I : Inv X pins σ H s) (h : H l = some (.lst xs)) : ∃ its : List Value, Vals xs its ∧ s.heap.IsList l its.toArray := by
  obtain ⟨_, its, n, r, e⟩ := I.hok l _ h
  exact ⟨its, r, _, e, rfl, n, rfl⟩
theorem inv_turned {it : Addr} {h' : Heap} {t' : Nat} (I : Inv X pins σ H s) (f : Fsh X pins it) (hn : H it = none) (k : ∀ b o, b ≠ it → s.heap.get? b = some o → h'.get? b = some o) : Inv X pins σ H { s with heap := h', toks := t' } :=
  I.turned k hn f.loc (.inr f.sz) f.cell f.pin
end
section
variable {X : Cx} {pins : List (Addr × Obj)} {σ : L2.St} {os : Os} {F0 : Hp} {l S I f : Addr} {xs : List V} {kd : Nat → PyData} {k : Nat} {fd : FuncData} {ps : List Str} {sp : Sp}
/-- the state between two keys -/
def Btw (X : Cx) (pins : List (Addr × Obj)) (σ : L2.St) (os : Os) (F0 : Hp) (S I : Addr) (s : Shared) (P : Hp → Prop) : Prop := ∃ H F, Inv X pins σ H s ∧ Ow F os H ∧ Same F0 F ∧ H S = none ∧ H I = none ∧ P F
theorem Btw.turned {s : Shared} {it : Addr} {h' : Heap} {t' : Nat} {P : Hp → Prop} (b : Btw X pins σ os F0 S I s P) (f : Fsh X pins it) (hi : it = S ∨ it = I) (k : ∀ b o, b ≠ it → s.heap.get? b = some o → h'.get? b = some o) : Btw X pins σ os F0 S I { s with heap := h', toks := t' } P := by
  obtain ⟨H, F, inv, ow, sf, nS, nI, hP⟩ := b
  exact ⟨H, F, inv_turned inv f (hi.elim (fun e => e ▸ nS) fun e => e ▸ nI) k, ow, sf, nS, nI, hP⟩
theorem Btw.list {s : Shared} {P : Hp → Prop} (b : Btw X pins σ os F0 S I s P) (hl : F0 l = some (.lst xs)) : ∃ its : List Value, Vals xs its ∧ s.heap.IsList l its.toArray := by
  obtain ⟨H, F, inv, ow, sf, nS, nI, hP⟩ := b
  exact list_raw inv (ow.ex l _ (sf l _ hl))
end
end Z
namespace Z
open PySem PySem.Spec PyProof.Rows L2
theorem ek_tI (w : List Int) : PyData.tuple (w.map PyData.int) = kTI.ek w := by
  show _ = PyData.tuple ((w.map Sum.inl).map kPD)
  rw [List.map_map]
  rfl
end Z
namespace Z
open PySem PySem.Spec PyProof.Rows L2
section
variable {X : Cx} {os os1 : Os} {es : List Slot} {φ : VP}
def mergeT (acc kvs : List (List Key × L2.V)) : List (List Key × L2.V) := kvs.foldl (fun a p => putK a p.1 p.2) acc
theorem kt_all {H : Hp} : ∀ {kvs : List (List Key × L2.V)} {prs : List (List Key × Addr × Value)} {acc : List (List Key × L2.V)} {xs : List (List Key × Addr × Value)}, KT H kvs prs → KT H acc xs → KT H (mergeT acc kvs) (storedAllH xs prs)
  | _, _, _, _, .nil, h => h
  | _, _, _, _, .cons (a := p) (b := q) hq t, h => by
    obtain ⟨e, hb, hr⟩ := hq
    show KT H (mergeT (putK _ p.1 p.2) _) (storedAllH (storedH _ q.1 q.2.1 q.2.2) _)
    rw [← e]
    exact kt_all t (h.put p.1 hb hr)
/-- a pair as it lies there: a tuple of the key and what it holds -/
def PrT (K : PySem.W.Frag) (H : Hp) (p : Addr) (kv : List Key × L2.V) : Prop := ∃ b, SqT K H p [.ref b, kv.2] ∧ H b = some (.tup (kv.1.map kV))
theorem pairsT_of {pins : List (Addr × Obj)} {σ : L2.St} {H : Hp} {s : Shared} (I : Inv X pins σ H s) : ∀ {ps : List Addr} {kvs : List (List Key × L2.V)}, Paired (fun p kv => PrT X.K H p kv) ps kvs →
    ∃ prs : List (List Key × Addr × Value), KT H kvs prs ∧ prs.length = ps.length ∧ ∀ (j : Nat) (q : List Key × Addr × Value), prs[j]? = some q → ∃ t : Addr, ps[j]? = some t ∧ IsTup s.heap t #[.ref q.2.1, q.2.2]
  | _, _, .nil => ⟨[], .nil, rfl, fun j q e => by simp at e⟩
  | _, _, .cons (a := p) (b := kv) h t => by
    obtain ⟨prs, r, hl, hp⟩ := pairsT_of I t
    obtain ⟨b, hs, hb⟩ := h
    obtain ⟨its, rv, ht, _⟩ := I.tuple hs
    obtain ⟨u, y, ei, ru, ry⟩ := vals2 rv
    subst ei
    obtain rfl : u = Value.ref b := ru
    refine ⟨(kv.1, b, y) :: prs, .cons ⟨rfl, hb, ry⟩ r, by rw [List.length_cons, List.length_cons, hl], fun j q e => ?_⟩
    cases j with
    | zero =>
      have e' : (kv.1, b, y) = q := Option.some.inj e
      subst e'
      exact ⟨p, rfl, ht⟩
    | succ j =>
      obtain ⟨b', e1, e2⟩ := hp j q (by simpa using e)
      exact ⟨b', by simpa using e1, e2⟩
theorem kt_keys {P : Program} {w : World} {H : Hp} {h : Heap} (ok : HOk P w H h) : ∀ {l : List (List Key × L2.V)} {m : List (List Key × Addr × Value)}, KT H l m → ∀ x ∈ m, (tupleKind (mixKind P w)).is h x.1 x.2.1
  | _, _, .nil => fun x hx => nomatch hx
  | _, _, .cons hq t => fun x hx => by
    rcases List.mem_cons.mp hx with e | hx
    · subst e
      exact key_of ok (by rw [← hq.1]; exact hq.2.1)
    · exact kt_keys ok t x hx
theorem merge_le : ∀ (kvs acc : List (List Key × L2.V)), (mergeT acc kvs).length ≤ acc.length + kvs.length
  | [], acc => Nat.le_refl _
  | p :: kvs, acc => by
    have a := merge_le kvs (putK acc p.1 p.2)
    have b : (putK acc p.1 p.2).length ≤ acc.length + 1 := by
      unfold putK
      split
      · rw [List.length_map]; omega
      · rw [List.length_append]; simp
    show (mergeT (putK acc p.1 p.2) kvs).length ≤ _
    rw [List.length_cons]
    omega
def rDictT (K : PySem.W.Frag) : List L2.V → Hp → VK → Prop := fun xs H Q => ∃ (a : Addr) (ps : List Addr) (kvs : List (List Key × L2.V)), xs = [.ref a] ∧ SqL K H a (ps.map L2.V.ref) ∧ Paired (fun p kv => PrT K H p kv) ps kvs ∧
    ∀ p, H p = none → Q (.ref p) (upd H p (.dT (mergeT [] kvs)))
theorem call_dictT (hcalm : X.calm = true) (hu : X.A.units + 64 < cLine) : CallR X (.type "dict") (rDictT X.K) := by
  intro pins s σ H xs us Q I r q
  obtain ⟨a, ps, kvs, ex, hq, hp, q⟩ := q
  subst ex
  obtain ⟨u, eu, rx⟩ := vals1 r
  subst eu
  cases rx
  obtain ⟨its, rv, pl, hz⟩ := I.list hq
  have ei := refs_at rv
  subst ei
  rw [List.length_map] at hz
  obtain ⟨prs, rel, hl, hpr⟩ := pairsT_of I hp
  obtain ⟨o, n, ho, hc, hd, hdat⟩ := pl
  have P := PairArg.list (prog := X.prog) (w := X.w) a (ps.map Value.ref).toArray (fun j => ps.getD j 0) (prs.map fun x => (Value.ref x.2.1, x.2.2))
  have hit : PairItems s.heap (ps.map Value.ref).toArray (fun j => ps.getD j 0) (prs.map fun x => (Value.ref x.2.1, x.2.2)) := by
    refine ⟨by simp [hl], fun j k v hj => ?_⟩
    rw [List.getElem?_map] at hj
    cases e : prs[j]? with
    | none => rw [e] at hj; cases hj
    | some x =>
      rw [e] at hj
      cases hj
      obtain ⟨t, e1, e2⟩ := hpr j x e
      have e3 : ps.getD j 0 = t := by rw [List.getD_eq_getElem?_getD, e1]; rfl
      refine ⟨?_, ?_⟩
      · show (ps.map Value.ref).toArray[j]? = some (Value.ref (ps.getD j 0))
        rw [e3]
        simp [e1]
      · show PairAt s.heap (ps.getD j 0) _ _
        rw [e3]
        exact .inl e2
  refine call_dict_pairsH (knd := tupleKind (mixKind X.prog X.w)) (ps := prs) P (I.ok.hd hcalm) (by show X.A.units + 1 + 1 < cLine; omega) ⟨⟨o, n, ho, hc, hd, hdat⟩, hit⟩ ?_ ?_ ?_ fun h' tk hd' k => ?_
  · refine ⟨by rw [List.length_map], fun i key v hr => ?_⟩
    have hr : (prs.map fun x => (Value.ref x.2.1, x.2.2))[i]? = some (key, v) := hr
    rw [List.getElem?_map] at hr
    cases e : prs[i]? with
    | none => rw [e] at hr; cases hr
    | some x =>
      rw [e] at hr
      cases hr
      exact ⟨x.1, x.2.1, rfl, rfl⟩
  · intro h' hk x hx
    obtain ⟨o1, its1, n1, e1, e2, e3, e4⟩ := kt_keys I.hok rel x hx
    exact ⟨o1, its1, n1, hk _ _ (Nat.ne_of_lt (Heap.lt_size e1)) (fun z => nomatch z) e1, e2, e3, e4⟩
  · rw [List.length_map, hl]; exact hz
  · have hm : (s.heap.objs.size == sysModules) = false := beq_eq_false_iff_ne.mpr (Nat.ne_of_gt I.big)
    have hlen : (mergeT [] kvs).length ≤ sizeLine := by
      refine Nat.le_trans (merge_le kvs []) ?_
      rw [List.length_nil, Nat.zero_add]
      rw [rel.length, hl]
      exact hz
    obtain ⟨o', es', ep', g1, g2, g3, g4, g5, g6⟩ := hd'
    have hn : H s.heap.objs.size = none := I.hok.fresh (Nat.le_refl _)
    refine ⟨.ref s.heap.objs.size, upd H s.heap.objs.size (.dT (mergeT [] kvs)), I.laid (t' := tk) (fun b o e => k b o (fun z => nomatch z) e) (Nat.le_refl _) (show ObjOk X.prog X.w _ _ _ (.dT (mergeT [] kvs)) from ⟨hlen, hm, storedAllH [] prs, ?_, o', es', ep', g1, g2, g3, g4, g6⟩), rfl, q _ hn⟩
    refine KT.keeps (kt_all rel .nil) fun b ys hb => ?_
    have : b ≠ s.heap.objs.size := fun z => by
      rw [z, hn] at hb
      cases hb
    rw [upd_ne this]
    exact hb
/-- the mirror: the later of pairs with one key wins, the place is the first one's -/
def dOf {κ β : Type} [DecidableEq κ] (w : List (κ × β)) : List (κ × β) := w.foldl (fun d p => dPut d p.1 p.2) []
theorem dq_pairT {κ : Type} {f : κ → List Key} {k : κ} {e : PyData} {F : Hp} {v : L2.V} (h : Dq F v (.tuple [(Kd.tu f).ek k, e])) : ∃ p b y, v = .ref p ∧ F p = some (.tup [.ref b, y]) ∧ F b = some (.tup ((f k).map kV)) ∧ Dq F y e := by
  cases h with
  | tup a hs =>
    cases hs with
    | cons h1 t =>
      cases t with
      | cons h2 t =>
        cases t
        have h1 : Dq F _ (.tuple ((f k).map kPD)) := h1
        cases h1 with
        | tup a1 b1 => exact ⟨_, _, _, rfl, a, by rw [← dqall_keys b1]; exact a1, h2⟩
theorem dq_pairsT {κ β : Type} [DecidableEq κ] {f : κ → List Key} {enc : β → PyData} (hinj : (Kd.tu f).Inj) {K : PySem.W.Frag} {F H : Hp} (hs : Same F H) : ∀ {w acc : List (κ × β)} {vs : List L2.V} {kacc : List (κ × L2.V)}, DqAll F vs (w.map fun p => PyData.tuple [(Kd.tu f).ek p.1, enc p.2]) → DV F kacc (eM enc acc) →
    ∃ (ps : List Addr) (kvs : List (List Key × L2.V)) (kr : List (κ × L2.V)), vs = ps.map L2.V.ref ∧ Paired (fun p kv => PrT K H p kv) ps kvs ∧ mergeT (kacc.map fun p => (f p.1, p.2)) kvs = kr.map (fun p => (f p.1, p.2)) ∧ DV F kr (eM enc (w.foldl (fun d p => dPut d p.1 p.2) acc))
  | [], acc, vs, kacc, h, dv => by
    cases h
    exact ⟨[], [], kacc, rfl, .nil, rfl, dv⟩
  | (k, x) :: w, acc, vs, kacc, h, dv => by
    cases h with
    | cons h t =>
      obtain ⟨p, b, y, rfl, hp, hb, hy⟩ := dq_pairT (f := f) h
      obtain ⟨ps, kvs, kr, e1, e2, e3, e4⟩ := dq_pairsT hinj (K := K) hs t (dput_enc (k := k) dv hy)
      refine ⟨p :: ps, (f k, y) :: kvs, kr, by rw [e1]; rfl, .cons ⟨b, .inl (.of (hs _ _ hp)), hs _ _ hb⟩ e2, ?_, e4⟩
      show mergeT (putK (kacc.map fun p => (f p.1, p.2)) (f k) y) kvs = _
      have e9 : putK (kacc.map fun p => (f p.1, p.2)) (f k) y = (dPut kacc k y).map fun p => (f p.1, p.2) := dPut_key hinj k y kacc
      rw [e9]
      exact e3
theorem rc_dictT {κ β : Type} [DecidableEq κ] {f : κ → List Key} {enc : β → PyData} {w : List (κ × β)} {g : κ × β → PyData} (hinj : (Kd.tu f).Inj) (hr : RdL X φ os (w.map g)) (hg : ∀ x, g x = PyData.tuple [(Kd.tu f).ek x.1, enc x.2]) : RCN (rDictT X.K) [φ] os (od (.tu f) (eM enc (dOf w))) os := fun F H vs Q ow c q => by
  obtain ⟨v, rfl, h⟩ := cla1 c
  obtain ⟨a, us, rfl, h1, h2⟩ := hr F H v ow h
  have eg : w.map g = w.map fun p => PyData.tuple [(Kd.tu f).ek p.1, enc p.2] := List.map_congr_left fun x _ => hg x
  rw [eg] at h2
  obtain ⟨ps, kvs, kr, e1, e2, e3, e4⟩ := dq_pairsT hinj (K := X.K) (H := H) (fun _ _ z => ow.ex _ _ z) (acc := []) (kacc := []) h2 .nil
  refine ⟨a, ps, kvs, rfl, by rw [← e1]; exact h1, e2, fun m hm => ?_⟩
  rw [show mergeT [] kvs = kr.map (fun p => (f p.1, p.2)) from e3]
  exact q F _ m (Same.refl F) (ow.new hm (od_one (kd := .tu f) e4))
theorem Bd.u64 {N V G : List Str} {n : Nat} (B : Bd X N V G n) : X.A.units + 64 < cLine := B.room.units
end
end Z
namespace Z
open PySem PySem.Spec L2
end Z
namespace Z
open PySem PySem.Spec L2
end Z
namespace Z
open PySem PySem.Spec PyProof.Rows L2
theorem frzT2 {X : Cx} {pins : List (Addr × Obj)} {σ : L2.St} {H : Hp} {s : Shared} {d : Addr} {o : Obj} {kvs : List (List Key × L2.V)} (I : Inv X pins σ H s) (h : H d = some (.frz o (.dT kvs))) :
    (d == sysModules) = false ∧ s.heap.get? d = some o ∧ o.ExactDict ∧ ∃ (es : Array DictEntry) (ep : Nat), o.data = .dict es ep ∧ es.size = kvs.length ∧
      ∀ (i : Nat) (k : List Key) (v : L2.V), kvs[i]? = some (k, v) → ∃ (en : DictEntry) (q : Addr), es[i]? = some en ∧ en.key = .ref q ∧ H q = some (.tup (k.map kV)) ∧ RelV v en.val := by
  obtain ⟨hd, z, hs, xs, pr, o', es, ep, ho, hx, hdt, he, _⟩ := I.hok d _ h
  rw [hd] at ho
  cases ho
  refine ⟨hs, hd, hx, es, ep, hdt, ?_, fun i k v e => ?_⟩
  · have l1 : es.size = xs.length := size_of_entries he
    have l2 : kvs.length = xs.length := Paired.length pr
    omega
  · obtain ⟨b, hb, e1, e2, e3⟩ := paired_get pr e
    have q := entry_at he i
    rw [hb] at q
    exact ⟨_, b.2.1, q, rfl, e2, e3⟩
/-- the pairs, each a new tuple that holds the key's own tuple -/
def Itit (d : Addr) (o : Obj) (kvs : List (List Key × L2.V)) : It :=
  ⟨fun i H => H d = some (.frz o (.dT kvs)) ∧ i < kvs.length, fun i H x H' => ∃ (T q : Addr) (k : List Key) (v : L2.V), kvs[i]? = some (k, v) ∧ x = .ref T ∧ H q = some (.tup (k.map kV)) ∧ H T = none ∧ H' = upd H T (.tup [.ref q, v]), fun i H => H d = some (.frz o (.dT kvs)) ∧ kvs.length ≤ i⟩
theorem turn_itemsT {P : Program} {w : World} {K : PySem.W.Frag} {d : Addr} {o : Obj} {es : Array DictEntry} {ep : Nat} {kvs : List (List Key × L2.V)} {elts : List Expr} {kk : Nat} {tpos : Pos} (it : Addr) (hod : o.data = .dict es ep) :
    Turn P w K (.Tuple elts kk tpos) (Itit d o kvs) [it] it (fun i h => ∃ ok ov, IsItemIter h it d i kvs.length ep ok ov) where
  mem := by simp
  obj := fun i h st b hb => by
    have e : b = it := by simpa using hb
    subst e
    obtain ⟨ok, ov, e⟩ := st
    exact ⟨_, e, fun v z => nomatch z⟩
  keep := fun i h h' st k => let ⟨ok, ov, e⟩ := st; ⟨ok, ov, k it (by simp) _ e⟩
  item := by
    intro X hP hw hK hc i pins s σ H E I hf st hg
    subst hP hw hK
    obtain ⟨hd, hi⟩ := hg
    obtain ⟨hs, hgd, hx, es', ep', hdt, hsz, ent⟩ := frzT2 I hd
    obtain ⟨rfl, rfl⟩ := dict_ep hod hdt
    obtain ⟨⟨k, v⟩, hkv⟩ : ∃ p, kvs[i]? = some p := ⟨kvs[i], List.getElem?_eq_getElem hi⟩
    obtain ⟨en, q, hen, hkey, hq, rv⟩ := ent i k v hkv
    obtain ⟨hlt', hen'⟩ := Array.getElem?_eq_some_iff.mp hen
    obtain ⟨ok, ov, he⟩ := st
    rw [← hsz] at he
    have hlt : it < s.heap.objs.size := Heap.lt_size he
    refine wpAny_pyNext_items_item_raw he ⟨o, hgd, hx, hdt⟩ hlt' fun h' ho hT hz hk => ?_
    rw [hen', hkey] at ho hT
    refine ⟨_, rfl, wpAny_letOwnedTupleGo_items (s := { s with heap := h' }) ho fun h'' he' sb => ?_⟩
    have hT2 : h''.get? s.heap.objs.size = some { cls := .type "tuple", data := .seq #[.ref q, en.val] } := (sb.2 _ (Nat.ne_of_gt hlt)).trans hT
    have new : ObjOk X.prog X.w (upd H s.heap.objs.size (.tup [.ref q, v])) h'' s.heap.objs.size (.tup [.ref q, v]) :=
      ⟨by show 2 ≤ sizeLine; decide, [.ref q, en.val], .cons rfl (.cons rv .nil), ⟨_, hT2, rfl, _, rfl⟩⟩
    have I1 : Inv X pins σ (upd H s.heap.objs.size (.tup [.ref q, v])) { s with heap := h'' } :=
      I.turnedNew (t' := s.toks) (ch := [it]) (fun b ob hb e => (sb.2 b (by simpa using hb)).trans (hk b ob (by simpa using hb) e)) hf (Nat.le_refl _) new
    refine ⟨.ref s.heap.objs.size, _, I1, rfl, ⟨_, q, k, v, hkv, rfl, hq, I.hok.fresh (Nat.le_refl _), rfl⟩, ⟨.ref q, en.val, ?_⟩, fun b hb => ?_⟩
    · rw [← hsz]; exact he'
    · have e : b = it := by simpa using hb
      rw [e, upd_ne (Nat.ne_of_lt hlt)]
      exact (hf it (by simp)).1
  done := by
    intro X hP hw hK hc i pins s σ H E I hf st hg
    subst hP hw hK
    obtain ⟨hd, hi⟩ := hg
    obtain ⟨f0, f1, f2, f3, f4, f5⟩ := hf it (by simp)
    obtain ⟨hs, hgd, hx, es', ep', hdt, hsz, ent⟩ := frzT2 I hd
    obtain ⟨rfl, rfl⟩ := dict_ep hod hdt
    obtain ⟨ok, ov, he⟩ := st
    rw [← hsz] at he
    exact wpAny_pyNext_items_end_raw (I.ok.hd hc) he ⟨o, hgd, hx, hdt⟩ (by omega) fun h' eb => ⟨rfl, I.turned (t' := s.toks) (fun b ob hb e => eb b ob hb e) f0 f1 f3 f4 f5⟩
  self := fun A i s Q E st h => let ⟨_, _, e⟩ := st; PySem.W.kcp_self e h
def iItemsT (td : TE) : TI := fun σ H R => td σ H fun x H1 => ∃ d o kvs, x = .ref d ∧ H1 d = some (.frz o (.dT kvs)) ∧ R (Itit d o kvs) H1
section
variable {X : Cx} {e : Expr} {td : TE} {apos cpos : Pos}
theorem pi_itemsT {elts : List Expr} {kk : Nat} {tpos : Pos} (he : PE X e td) (hbase : attributeBase e "items" X.env (eval e X.env) = eval e X.env := by rfl) (hline : (apos.endLine == cpos.line) = true := by rfl) :
    PI X (.Tuple elts kk tpos) (.Call (.Attribute e "items" apos) [] [] cpos) (iItemsT td) := by
  refine ⟨fun pins s σ H R I h => ?_⟩
  refine wpAny_Call_method (T := "dict") (id := "dict.items") hbase rfl hline PySem.F.plainAttrs_dict PySem.F.slot_dict_items PySem.F.type_dict_items (thn (he.run pins s σ H _ I h) fun u s1 ⟨x, H1, I1, rx, d, o, kvs, ex, hd, q⟩ => ?_)
  subst ex
  obtain rfl : u = Value.ref d := rx
  obtain ⟨hs, hgd, hx, es, ep, hdt, hsz, ent⟩ := frzT2 I1 hd
  have raw : s1.heap.DictRaw d es ep := ⟨o, hgd, hx, hdt⟩
  refine ⟨raw.typeIs, ?_, ?_⟩
  · exact fun a z => by cases z; exact ⟨o, hgd, hx.2.1⟩
  have I2 : Inv X pins σ H1 { s1 with heap := s1.heap.push { cls := .type "dict_items", data := .fields #[.ref d] } } := I1.kept (t' := s1.toks) fun b ob q => Heap.get?_push_of_some _ q
  have fin : wpAny (model X.prog X.w) X.A (pyIter (.ref s1.heap.objs.size)) (PIE X pins σ (.Tuple elts kk tpos) R) X.xe { s1 with heap := s1.heap.push { cls := .type "dict_items", data := .fields #[.ref d] } } := by
    refine wpAny_pyIter_items_raw (d := d) ⟨_, Heap.get?_push_size _ rfl, rfl, rfl⟩ (es := es) (ep := ep) ⟨o, Heap.get?_push_of_some _ hgd, hx, hdt⟩ (pi_one (tk := s1.toks) I2 _ (turn_itemsT _ hdt) ⟨.none, .none, ?_⟩ q)
    rw [← hsz]
    exact Heap.get?_push_size _ rfl
  show wpAny _ _ (callWith cpos (.builtin "dict.items") [.ref d] [] []) _ X.xe s1
  exact method_meetsIn PySem.F.slot_dict_items PySem.F.entry_dict_items rfl (PySem.evalArgs_none ⟨rfl, raw.typeIs, PySem.F.args_dict_items_1 _, _, meets_dict_items_raw d hs, ⟨es, ep, raw⟩, fin⟩)
end
section
variable {X : Cx} {es : List Slot} {os os1 : Os} {e : Expr} {κ β : Type} {enc : β → PyData} {w : List (κ × β)} {f : κ → List Key} {apos cpos : Pos}
theorem ix_itemsT {elts : List Expr} {kk : Nat} {tpos : Pos} (he : EX X es os e (dat ((Kd.tu f).pd (eM enc w))) os1) (hbase : attributeBase e "items" X.env (eval e X.env) = eval e X.env := by rfl) (hline : (apos.endLine == cpos.line) = true := by rfl) :
    IX X (.Tuple elts kk tpos) es os (.Call (.Attribute e "items" apos) [] [] cpos) w (fun x => dat (.tuple [(Kd.tu f).ek x.1, enc x.2])) anyOs os1 := fun F σ H R ow sl q =>
  wi_of (pi_itemsT pe_u hbase hline) (he F σ H _ ow sl fun F1 H1 v e1 o1 c1 => by
    obtain ⟨d, ob, kvs, rfl, h1, dv⟩ := pd_dq c1.now
    refine ⟨d, ob, _, rfl, o1.ex _ _ h1, q F1 H1 _ e1 o1 fun F2 H2 os2 i s ow2 _ => ?_⟩
    have hd := ow2.ex _ _ (s _ _ h1)
    have hl : (kvs.map fun p => (f p.1, p.2)).length = w.length := by rw [List.length_map, dv_len dv, List.length_map]
    refine ⟨fun h => ⟨hd, by omega⟩, fun x hx => ?_⟩
    have hlt : i < w.length := (List.getElem?_eq_some_iff.mp hx).1
    obtain ⟨v, hv, dq⟩ := dv_at (i := i) (k := x.1) (d := enc x.2) dv (by rw [List.getElem?_map, hx]; rfl)
    refine ⟨⟨hd, by omega⟩, fun u H3 y => ?_⟩
    obtain ⟨T, r, k, v2, h2, rfl, h3, hT, rfl⟩ := y
    rw [List.getElem?_map, hv] at h2
    cases h2
    obtain ⟨sf, o3⟩ := ow2.tup h3
    have fT := o3.ex.free hT
    exact ⟨_, sf.trans (same_upd fT), o3.frozen hT, cl_dat (.tup upd_same (.cons (dq_mono (same_upd fT) _ _ (.tup upd_same (dqall_keyV _))) (.cons (dq_mono ((s.trans sf).trans (same_upd fT)) _ _ dq) .nil)))⟩)
end
section
variable {X : Cx} {es : List Slot} {os os1 : Os} {e : Expr} {β : Type} {enc : β → PyData} {w : List (List Int × β)} {apos cpos : Pos}
theorem ix_itemsTI {elts : List Expr} {kk : Nat} {tpos : Pos} (he : EX X es os e (dat (kTI.pd (eM enc w))) os1) (hbase : attributeBase e "items" X.env (eval e X.env) = eval e X.env := by rfl) (hline : (apos.endLine == cpos.line) = true := by rfl) :
    IX X (.Tuple elts kk tpos) es os (.Call (.Attribute e "items" apos) [] [] cpos) w (fun x => dat (.tuple [PyData.tuple (x.1.map PyData.int), enc x.2])) anyOs os1 := by
  have h : (fun (x : List Int × β) => dat (.tuple [PyData.tuple (x.1.map PyData.int), enc x.2])) = fun x => dat (.tuple [kTI.ek x.1, enc x.2]) := funext fun x => by rw [ek_tI]
  rw [h]
  exact ix_itemsT he hbase hline
end
end Z
namespace Z
open PySem PySem.Spec PyProof.Rows L2
def lcA {γ β : Type} (f : γ → Option (Option β)) : List γ → List β → Option (List β)
  | [], w => some w
  | y :: l, w => (f y).bind fun t => match t with
    | none => lcA f l w
    | some z => lcA f l (w ++ [z])
def lc2S {α γ β : Type} (ys : α → Option (List γ)) (m : α → γ → Option (Option β)) : List α → List β → Option (List β)
  | [], w => some w
  | x :: xs, w => (ys x).bind fun l => (lcA (m x) l w).bind fun w' => lc2S ys m xs w'
theorem lcA_ge {γ β : Type} {f : γ → Option (Option β)} : ∀ {l : List γ} {w wf : List β}, lcA f l w = some wf → w.length ≤ wf.length
  | [], w, wf, h => by cases h; exact Nat.le_refl _
  | y :: l, w, wf, h => by
    unfold lcA at h
    obtain ⟨t, _, h⟩ := bnd h
    cases t with
    | none => exact lcA_ge h
    | some z =>
      have := lcA_ge h
      rw [List.length_append] at this
      exact Nat.le_trans (Nat.le_add_right _ _) this
theorem lc2S_ge {α γ β : Type} {ys : α → Option (List γ)} {m : α → γ → Option (Option β)} : ∀ {xs : List α} {w wf : List β}, lc2S ys m xs w = some wf → w.length ≤ wf.length
  | [], w, wf, h => by cases h; exact Nat.le_refl _
  | x :: xs, w, wf, h => by
    unfold lc2S at h
    obtain ⟨l, _, h⟩ := bnd h
    obtain ⟨w', h1, h⟩ := bnd h
    exact Nat.le_trans (lcA_ge h1) (lc2S_ge h)
section
variable {X : Cx} {es : List Slot} {os os0 : Os} {i j : Nat} {x0 y0 : Str} {p0 p1 : Pos} {α β γ : Type} {scope : Scope} {iter iter1 elt : Expr} {ifs1 : List Expr} {xs : List α} {vp : α → VP} {vp1 : α → γ → VP}
theorem lc_read2 {enc : β → PyData} {ys : α → Option (List γ)} {m : α → γ → Option (Option β)} {wf : List β} (hij : i ≠ j) (hu1 : es[i]? = some un) (hu2 : es[j]? = some un) (hif : ifs1.length ≤ 1)
    (hi : IX X (.Name x0 p0) es os iter xs vp anyOs os0) (hl : lc2S ys m xs [] = some wf) (hz : wf.length < sizeLine)
    (hb : ∀ x l q, x ∈ xs → ys x = some l → ∀ X', Fam X scope X' → IX X' (.Name y0 p1) (es.set i (sl (vp x))) (q :: os0) iter1 l (vp1 x) anyOs (q :: os0))
    (hc : ∀ x l y t q, x ∈ xs → ys x = some l → y ∈ l → m x y = some t → ∃ b, ∀ X', Fam X scope X' → PTX X' ((es.set i (sl (vp x))).set j (sl (vp1 x y))) (q :: os0) ifs1 b (q :: os0) ∧ (b = true → ∃ z, t = some z ∧ EX X' ((es.set i (sl (vp x))).set j (sl (vp1 x y))) (q :: os0) elt (dat (enc z)) (q :: os0)) ∧ (b = false → t = none))
    {F σ H Q} (ow : Ow F os H) (slo : Sl F es σ) (q : ∀ F' H' p, Same F F' → Ow F' ((p, ol (wf.map enc)) :: os0) H' → Q (.ref p) H') :
    tLc2 (WI X (.Name x0 p0) iter) (gName i) (tIfs X scope []) (fun σ H R => ∀ X', Fam X scope X' → WI X' (.Name y0 p1) iter1 σ H R) (gName j) (tIfs X scope ifs1) (tElt X scope elt) [i, j] [j] σ H Q := by
  refine hi F σ H _ ow slo fun F1 H1 J e1 o1 good Dl hD => ?_
  refine ⟨fun a n H => n = xs.length - a ∧ a ≤ xs.length ∧ ∃ w F, lc2S ys m (xs.drop a) w = some wf ∧ Same F1 F ∧ Ow F ((Dl, ol (w.map enc)) :: os0) H, ⟨_, rfl, Nat.zero_le _, [], F1, hl, Same.refl F1, o1.new hD fun G g => ⟨[], rfl, .nil⟩⟩, ?_⟩
  rintro a n H' ⟨rfl, ha, w, F', hr, e', o'⟩
  obtain ⟨stop, go⟩ := good F' H' _ a e' o' trivial
  cases hx : xs[a]? with
  | none =>
    have ha2 : xs.length ≤ a := List.getElem?_eq_none_iff.mp hx
    rw [List.drop_eq_nil_of_le ha2] at hr
    cases hr
    exact .inl ⟨stop ha2, q F' H' Dl (e1.trans e') o'⟩
  | some x =>
    obtain ⟨hgo, hyl⟩ := go x hx
    have hlt : a < xs.length := (List.getElem?_eq_some_iff.mp hx).1
    have hmem := List.mem_of_getElem? hx
    rw [drop_cons' hx] at hr
    unfold lc2S at hr
    obtain ⟨l, hys, hr⟩ := bnd hr
    obtain ⟨w', hm, hr⟩ := bnd hr
    refine .inr ⟨hgo, fun H => ∃ w F, lc2S ys m (xs.drop (a + 1)) w = some wf ∧ Same F1 F ∧ Ow F ((Dl, ol (w.map enc)) :: os0) H, fun H2 hH2 => ⟨_, by omega, rfl, by omega, hH2⟩, fun v H3 yv => ?_⟩
    obtain ⟨F3, e3, o3, c3⟩ := hyl v H3 yv
    have slw : Sl F3 es (wipe σ [i, j]) := sl_wipe (slo.mono ((e1.trans e').trans e3)) _ fun q hq => by
      rcases List.mem_cons.mp hq with rfl | hq
      · exact ⟨un, hu1, rfl⟩
      · rcases List.mem_cons.mp hq with rfl | hq
        · exact ⟨un, hu2, rfl⟩
        · cases hq
    have hw : wipe ((wipe σ [i, j]).set i (some v)) [i, j] = wipe σ [i, j] := by
      show ((((σ.set j none).set i none).set i (some v)).set j none).set i none = (σ.set j none).set i none
      rw [List.set_set, List.set_comm _ _ hij, List.set_set, List.set_set]
    refine ⟨hw, ?_⟩
    have sl2 : Sl F3 (es.set i (sl (vp x))) ((wipe σ [i, j]).set i (some v)) := slw.put c3
    generalize (wipe σ [i, j]).set i (some v) = σ2 at sl2 ⊢
    refine fun X' hX' => ?_
    refine hb x l (Dl, ol (w.map enc)) hmem hys X' hX' F3 σ2 H3 _ o3 sl2 fun F4 H4 J1 e4 o4 good1 => ?_
    refine ⟨fun b n H => n = l.length - b ∧ b ≤ l.length ∧ ∃ u F, lcA (m x) (l.drop b) u = some w' ∧ Same F1 F ∧ Same F4 F ∧ Ow F ((Dl, ol (u.map enc)) :: os0) H, ⟨_, rfl, Nat.zero_le _, w, F4, hm, (e'.trans e3).trans e4, Same.refl F4, o4⟩, ?_⟩
    rintro b n H5 ⟨rfl, hb', u, F5, hr5, e15, e45, o5⟩
    obtain ⟨stop1, go1⟩ := good1 F5 H5 _ b e45 o5 trivial
    cases hy : l[b]? with
    | none =>
      have hb2 : l.length ≤ b := List.getElem?_eq_none_iff.mp hy
      rw [List.drop_eq_nil_of_le hb2] at hr5
      cases hr5
      exact .inl ⟨stop1 hb2, _, F5, hr, e15, o5⟩
    | some y =>
      obtain ⟨hgo1, hyl1⟩ := go1 y hy
      have hlt1 : b < l.length := (List.getElem?_eq_some_iff.mp hy).1
      have hmem1 := List.mem_of_getElem? hy
      rw [drop_cons' hy] at hr5
      unfold lcA at hr5
      obtain ⟨t, ht, hr5⟩ := bnd hr5
      refine .inr ⟨hgo1, fun H => ∃ u F, lcA (m x) (l.drop (b + 1)) u = some w' ∧ Same F1 F ∧ Same F4 F ∧ Ow F ((Dl, ol (u.map enc)) :: os0) H, fun H6 h6 => ⟨_, by omega, rfl, by omega, h6⟩, fun v1 H6 yv1 => ?_⟩
      obtain ⟨F6, e6, o6, c6⟩ := hyl1 v1 H6 yv1
      have e36 : Same F3 F6 := (e4.trans e45).trans e6
      have slw1 : Sl F6 (es.set i (sl (vp x))) (wipe σ2 [j]) := sl_wipe (sl2.mono e36) _ fun q hq => by
        rcases List.mem_cons.mp hq with rfl | hq
        · exact ⟨un, by rw [List.getElem?_set_ne hij]; exact hu2, rfl⟩
        · cases hq
      have hw1 : wipe ((wipe σ2 [j]).set j (some v1)) [j] = wipe σ2 [j] := by
        show (((σ2.set j none).set j (some v1)).set j none) = σ2.set j none
        rw [List.set_set, List.set_set]
      refine ⟨hw1, ?_⟩
      have sl3 : Sl F6 ((es.set i (sl (vp x))).set j (sl (vp1 x y))) ((wipe σ2 [j]).set j (some v1)) := slw1.put c6
      generalize (wipe σ2 [j]).set j (some v1) = σ3 at sl3 ⊢
      obtain ⟨bb, key⟩ := hc x l y t (Dl, ol (u.map enc)) hmem hys hmem1 ht
      have l3 := lc2S_ge hr
      have fin : ∀ F7 H7, Same F6 F7 → Ow F7 ((Dl, ol (u.map enc)) :: os0) H7 → bb = true → tElt X scope elt σ3 H7 fun y H8 => ∃ acc, H8 Dl = some (.lst acc) ∧ acc.length < sizeLine ∧ ∃ u F, lcA (m x) (l.drop (b + 1)) u = some w' ∧ Same F1 F ∧ Same F4 F ∧ Ow F ((Dl, ol (u.map enc)) :: os0) (upd H8 Dl (.lst (acc ++ [y]))) := fun F7 H7 e7 o7 hbb X3 hX3 => by
        obtain ⟨z, ez, k4⟩ := (key X3 hX3).2.1 hbb
        subst ez
        refine k4 F7 σ3 H7 _ o7 (sl3.mono e7) fun F8 H8 uu e8 o8 c8 => ?_
        obtain ⟨_, vs, hu, hv⟩ := o8.atL
        have hlen := dqall_len hv
        rw [List.length_map] at hlen
        have l2 := lcA_ge hr5
        rw [List.length_append] at l2
        have l2 : u.length + 1 ≤ w'.length := l2
        refine ⟨vs, hu, by omega, u ++ [z], F8, hr5, ((e15.trans e6).trans e7).trans e8, ((e45.trans e6).trans e7).trans e8, ?_⟩
        refine o8.putL (ds' := (u ++ [z]).map enc) ?_
        rw [List.map_append]
        exact dqall_app hv (.cons c8.now .nil)
      match ifs1, hif, key, fin with
      | [], _, key, fin =>
        have hbb : bb = true := by
          obtain ⟨k1, _, _⟩ := key X' hX'
          cases k1
          rfl
        exact fin F6 H6 (Same.refl F6) o6 hbb
      | [cd], _, key, fin =>
        intro X'' hX''
        obtain ⟨k1, k2, k3⟩ := key X'' hX''
        cases k1 with
        | one ht2 =>
          refine ht2 F6 σ3 H6 _ o6 sl3 fun F7 H7 e7 o7 => ?_
          cases bb with
          | true =>
            rw [if_pos rfl]
            exact fin F7 H7 e7 o7 rfl
          | false =>
            rw [if_neg Bool.false_ne_true]
            have := k3 rfl
            subst this
            exact ⟨u, F7, hr5, (e15.trans e6).trans e7, (e45.trans e6).trans e7, o7⟩
      | _ :: _ :: _, hif, key, fin =>
        rw [List.length_cons, List.length_cons] at hif
        omega
end
section
variable {X : Cx} {es : List Slot} {os os0 : Os} {F0 : Hp} {rest : List Stmt} {D : Ends} {N V G W : List Str} {k i j q0 : Nat} {x0 y0 y : Str} {p0 p1 pos py spos : Pos} {α β γ : Type} {scope : Scope} {iter iter1 elt : Expr} {ifs1 : List Expr} {xs : List α} {vp : α → VP} {vp1 : α → γ → VP}
theorem sx_asgLc2 {enc : β → PyData} {ys : α → Option (List γ)} {m : α → γ → Option (Option β)} {wf : List β} (B : Bd X N W G k) (hq : N[q0]? = some y) (hyl : X.env.scope.names.lookup y = some .local) (hx : N[i]? = some x0) (hy : N[j]? = some y0) (hij : i ≠ j) (hu1 : es[i]? = some un) (hu2 : es[j]? = some un) (hif : ifs1.length ≤ 1)
    (hblk : blkC X.N X.env.scope scope [(x0, i), (y0, j)] = true) (ho1 : ownB scope X.env.scope x0 = true) (ho2 : ownB scope X.env.scope y0 = true)
    (hi : IX X (.Name x0 p0) es os iter xs vp anyOs os0) (hl : lc2S ys m xs [] = some wf) (hz : wf.length < sizeLine)
    (hb : ∀ x l q, x ∈ xs → ys x = some l → ∀ X', Fam X scope X' → IX X' (.Name y0 p1) (es.set i (sl (vp x))) (q :: os0) iter1 l (vp1 x) anyOs (q :: os0))
    (hc : ∀ x l y t q, x ∈ xs → ys x = some l → y ∈ l → m x y = some t → ∃ b, ∀ X', Fam X scope X' → PTX X' ((es.set i (sl (vp x))).set j (sl (vp1 x y))) (q :: os0) ifs1 b (q :: os0) ∧ (b = true → ∃ z, t = some z ∧ EX X' ((es.set i (sl (vp x))).set j (sl (vp1 x y))) (q :: os0) elt (dat (enc z)) (q :: os0)) ∧ (b = false → t = none))
    (hsw : swapsWith (.ListComp elt [⟨.Name x0 p0, iter, [], 0⟩, ⟨.Name y0 p1, iter1, ifs1, 0⟩] scope pos) (some (.Name y py)) spos.line X.env = pure true)
    (hn : ∀ p, SX X (es.set q0 (sl (Z.own p))) ((p, ol (wf.map enc)) :: os0) F0 rest D) (hs : ∀ x, foldedSetIterable iter X.env x = pure x := by intro _; rfl) (hs1 : ∀ env x, foldedSetIterable iter1 env x = pure x := by intro _ _; rfl) :
    SX X es os F0 (.Assign [.Name y py] (.ListComp elt [⟨.Name x0 p0, iter, [], 0⟩, ⟨.Name y0 p1, iter1, ifs1, 0⟩] scope pos) spos :: rest) D := fun F σ H s ow sl =>
  wps_cons (ws_of (ps_setLc2 (own := [(x0, i), (y0, j)]) (vs1 := [j]) B.calm (B.hN ▸ B.nd) (B.hN ▸ hq) hyl hsw pi_u (blkOk_by hblk) (fun q hq => by
      rcases List.mem_cons.mp hq with rfl | hq
      · simp
      · cases hq) (fun s H C cl fp => pg_own ⟨s, H, C, cl, fp, rfl⟩ B hx ho1) (fun s H C cl fp => pts_u ⟨s, H, C, cl, fp, rfl⟩ [])
      (fun s H C cl fp => (⟨fun pins s' σ H' R I h => h _ ⟨s, H, C, cl, fp, rfl⟩ pins s' I⟩ : PI _ (.Name y0 p1) iter1 (fun σ H R => ∀ X', Fam X scope X' → WI X' (.Name y0 p1) iter1 σ H R)))
      (fun s H C cl fp => pg_own ⟨s, H, C, cl, fp, rfl⟩ B hy ho2) (fun s H C cl fp => pts_u ⟨s, H, C, cl, fp, rfl⟩ ifs1) (fun s H C cl fp => pe_elt ⟨s, H, C, cl, fp, rfl⟩) hs hs1)
    (lc_read2 (Q := fun v H1 => gName q0 v σ H1 (WPs X rest D)) hij hu1 hu2 hif hi hl hz hb hc ow sl fun F1 H1 p e1 o1 => hn p F1 _ H1 (s.trans e1) o1 ((sl.mono e1).put cl_own)))
end
def lc2O {α γ β : Type} (ys : α → Option (List γ)) (m : α → γ → Option (Option β)) (xs : List α) : Option (List β) := (lc2S ys m xs []).bind fun r => if r.length < sizeLine then some r else none
theorem lc2O_ok {α γ β : Type} {ys : α → Option (List γ)} {m : α → γ → Option (Option β)} {xs : List α} {wf : List β} (h : lc2O ys m xs = some wf) : lc2S ys m xs [] = some wf ∧ wf.length < sizeLine := by
  unfold lc2O at h
  obtain ⟨r, e, h⟩ := bnd h
  split at h
  · rename_i hl
    cases h
    exact ⟨e, hl⟩
  · cases h
section
variable {X : Cx} {es : List Slot} {os os1 : Os} {N V G W : List Str} {k gi gj : Nat} {p pos : Pos} {e : Expr}
theorem ex_rgT1 {b : Int} {xs : List Int} (B : Bd X N W G k) (hj : G[gi]? = some "tuple") (hj2 : G[gj]? = some "range") (hm : X.mg "tuple" = none) (hm2 : X.mg "range" = none) (hr : rgO 0 b = some xs) (ha : EX X es os e (dat (.int b)) os1) {p2 pos2 : Pos}
    (na : starEach [(.Call (.Name "range" p2) [e] [] pos2)] X.env = (false, eval (.Call (.Name "range" p2) [e] [] pos2) X.env) :: starEach [] X.env := by rfl) (nb : starEach [e] X.env = (false, eval e X.env) :: starEach [] X.env := by rfl) :
    EX X es os (.Call (.Name "tuple" p) [.Call (.Name "range" p2) [e] [] pos2] [] pos) (dat (.tuple (xs.map PyData.int))) os1 := fun F σ H Q ow sl q => by
  unfold rgO at hr
  split at hr
  · rename_i hl
    cases hr
    refine we_of (pe_tupRg B.calm (B.gl _ (List.mem_of_getElem? hj)).1 hm (prg_1 (B.gl _ (List.mem_of_getElem? hj2)).1 hm2 pe_u nb) na) (ha F σ H _ ow sl fun F1 H1 v e1 o1 c1 => ⟨b, clv_int c1, hl, fun r hr => ?_⟩)
    rw [rgV_map]
    exact q _ _ (.ref r) (e1.trans (same_upd (o1.ex.free hr))) (o1.frozen hr) (cl_dat (.tup upd_same (dqall_ints _)))
  · cases hr
end
end Z
namespace L25
open PySem PySem.Spec L2 Z
/-- steps_of -/
def m_p_steps_of (letters : Int) : Option (List Int) :=
  ((rngO 1 (letters + 1)).bind fun t1 => ((lp (fun (s2 : (List Int)) (letter3 : Int) => ((catO (α := Int) s2 ([letter3, (-letter3)])).bind fun t7 => some t7)) t1 ([] : (List Int))).bind fun f4 => some f4))
/-- straightened -/
def m_p_straightened (walk : (List Int)) : Option (List Int) :=
  ((lp (fun (s1 : (List Int)) (step2 : Int) => ((if (decide (0 < (s1.length : Int))) = true then ((idx s1 (-1)).bind fun t6 => some (decide (t6 = (-step2)))) else some false).bind fun t7 => ((if t7 = true then ((popO s1).bind fun t8 => some t8.2) else ((appO s1 step2).bind fun t9 => some t9) : Option (List Int)).bind fun s10 => some s10))) walk ([] : (List Int))).bind fun f3 => some f3)
/-- turned_back -/
def m_p_turned_back (walk : (List Int)) : Option (List Int) :=
  ((lcT (fun (step1 : Int) => (-step1)) walk.reverse).bind fun t3 => some t3)
/-- is_integer -/
def m_p_is_integer (value : Int) : Option Bool :=
  some (true && true)
/-- is_letters -/
def m_p_is_letters (value : Int) : Option Bool :=
  ((m_p_is_integer value).bind fun t1 => some (t1 && (decide (1 ≤ value) && decide (value ≤ 4))))
/-- is_a_row -/
def m_p_is_a_row (value : (List Int)) (letters : Int) (rooms : Int) : Option Bool :=
  (if (false || (!decide ((value.length : Int) = letters))) = true then some false else ((lcO (β := Bool) (fun (room1 : Int) => ((m_p_is_integer room1).bind fun t3 => some (t3 && (decide ((-1) ≤ room1) && decide (room1 < rooms))))) value).bind fun t4 => some (t4.all id)))
/-- doors_of -/
def m_p_doors_of (rows : (List (List Int))) : Option (List (List (Int × Int))) :=
  ((lenO rows).bind fun z2 => (mapO (fun (row1 : (List Int)) => (some ([] : (List (Int × Int))) : Option (List (Int × Int)))) rows).bind fun t4 => ((lp (fun (s6 : (List (List (Int × Int)))) (x7 : (Int × (List Int))) => ((lp (fun (s11 : (List (List (Int × Int)))) (x12 : (Int × Int)) => ((if (decide (0 ≤ x12.2)) = true then ((idx s11 x7.1).bind fun t16 => (dPutO t16 (x12.1 + 1) x12.2).bind fun t17 => ((idx (setI s11 x7.1 t17) x12.2).bind fun t18 => (dPutO t18 ((-x12.1) - 1) x7.1).bind fun t19 => some (setI (setI s11 x7.1 t17) x12.2 t19))) else some s11 : Option (List (List (Int × Int)))).bind fun s20 => some s20)) (enum x7.2) s6).bind fun f13 => some f13)) (enum rows) t4).bind fun f8 => some f8))
/-- is_one_way -/
def m_p_is_one_way (rows : (List (List Int))) (letters : Int) : Option Bool :=
  ((rngO 0 letters).bind fun t1 => ((lpR (fun (s2 : Unit) (at_3 : Int) => (((lcG (β := Int) (fun (row7 : (List Int)) => ((idx row7 at_3).bind fun t9 => if (decide (0 ≤ t9)) = true then ((idx row7 at_3).bind fun t10 => some (some t10)) else some none)) rows).bind fun t11 => ((lenSetO t11).bind fun t12 => (if (decide (t12 < (t11.length : Int))) = true then some (Step.ret false) else some (Step.go ())))) : Option (Step Bool Unit))) t1 ()).bind fun f4o => Sum.elim (fun r14 => some r14) (fun f4 => some true) f4o))
/-- first_order -/
def m_p_first_order (letters : Int) (doors : (List (List (Int × Int)))) (home : Int) : Option (List Int) :=
  ((wh (fun (s3 : (Int × (List (Int × Bool)) × (List Int))) => some (decide (s3.1 < (s3.2.2.length : Int)))) (fun (s3 : (Int × (List (Int × Bool)) × (List Int))) => (((m_p_steps_of letters).bind fun t7 => ((lp (fun (s8 : ((List (Int × Bool)) × (List Int))) (step9 : Int) => ((idx s8.2 s3.1).bind fun t13 => (idx doors t13).bind fun t14 => (match (dGet t14 step9) with | none => (some (s8.1, s8.2)) | some goal15 => ((if (true && (!(dGet s8.1 goal15).isSome)) = true then ((dPutO s8.1 goal15 true).bind fun t16 => ((appO s8.2 goal15).bind fun t17 => some (t16, t17))) else some (s8.1, s8.2) : Option ((List (Int × Bool)) × (List Int))).bind fun s18 => some (s18.1, s18.2))))) t7 (s3.2.1, s3.2.2)).bind fun f10 => some (Step.go ((s3.1 + 1), f10.1, f10.2)))) : Option (Step (List Int) (Int × (List (Int × Bool)) × (List Int))))) 10000 (0, [(home, true)], [home])).bind fun f4o => Sum.elim (fun r21 => none) (fun f4 => some f4.2.2) f4o)
/-- is_a_web -/
def m_p_is_a_web (value : (Int × (List (List Int)))) : Option Bool :=
  ((if false = true then some true else ((if (!decide (2 = 2)) = true then some true else ((m_p_is_letters value.1).bind fun t1 => some (!t1))).bind fun t2 => some t2)).bind fun t3 => (if t3 = true then some false else (if (false || (decide ((value.2.length : Int) = 0))) = true then some false else ((lcO (β := Bool) (fun (row4 : (List Int)) => ((m_p_is_a_row row4 value.1 (value.2.length : Int)).bind fun t6 => some t6)) value.2).bind fun t7 => (if (!(t7.all id)) = true then some true else ((m_p_is_one_way value.2 value.1).bind fun t8 => some (!t8))).bind fun t9 => (if t9 = true then some false else ((m_p_doors_of value.2).bind fun t10 => ((lcT (fun (steps11 : (List (Int × Int))) => (decide ((steps11.length : Int) < 2))) (cut t10 (some 1) none)).bind fun t13 => (if (t13.any id) = true then some false else ((m_p_first_order value.1 t10 0).bind fun t14 => (rgO 0 (value.2.length : Int)).bind fun t15 => some (decide (t14 = t15)))))))))))
/-- need_web -/
def m_p_need_web (web : (Int × (List (List Int)))) : Option Unit :=
  ((m_p_is_a_web web).bind fun t1 => (if (!t1) = true then none else some ()))
/-- need_number -/
def m_p_need_number (number : Int) (low : Int) (high : Unit) : Option Unit :=
  (if ((decide (number < low)) || false) = true then none else some ())
/-- rows_of_rooms -/
def m_p_rows_of_rooms (count : Int) (size : Int) : Option (List (List Int)) :=
  ((rngO 0 size).bind fun t1 => ((lp (fun (s2 : (List (List Int))) (turn3 : Int) => ((lc2O (fun (row7 : (List Int)) => (((rngO 0 count).bind fun t9 => some t9) : Option (List Int))) (fun (row7 : (List Int)) (room8 : Int) => (if (!row7.contains room8) = true then ((catO (α := Int) row7 ([room8])).bind fun t10 => some (some t10)) else some none : Option (Option (List Int)))) s2).bind fun t11 => some t11)) t1 ([([] : (List Int))])).bind fun f4 => some f4))
/-- rows_led -/
def m_p_rows_led (letters : Int) (doors : (List (List (Int × Int)))) (row : (List Int)) : Option (List ((List Int) × (List Int))) :=
  ((wh (fun (s3 : (Int × (List (List Int)) × (List ((List Int) × (List Int))))) => some (decide (s3.1 < (s3.2.1.length : Int)))) (fun (s3 : (Int × (List (List Int)) × (List ((List Int) × (List Int))))) => (((idx s3.2.1 s3.1).bind fun t7 => ((m_p_steps_of letters).bind fun t8 => ((lp (fun (s9 : ((List (List Int)) × (List ((List Int) × (List Int))))) (step10 : Int) => ((lcO (β := Bool) (fun (room14 : Int) => ((idx doors room14).bind fun t16 => some ((dGet t16 step10).isSome))) t7).bind fun t17 => ((if (t17.all id) = true then ((lcO (β := Int) (fun (room18 : Int) => ((idx doors room18).bind fun t20 => (dGet t20 step10).bind fun t21 => some t21)) t7).bind fun t22 => ((if (!(dGet s9.2 t22).isSome) = true then ((dGet s9.2 t7).bind fun t23 => (catO (α := Int) t23 ([step10])).bind fun t24 => (dPutO s9.2 t22 t24).bind fun t25 => ((appO s9.1 t22).bind fun t26 => some (t26, t25))) else some (s9.1, s9.2) : Option ((List (List Int)) × (List ((List Int) × (List Int))))).bind fun s27 => some (s27.1, s27.2))) else some (s9.1, s9.2) : Option ((List (List Int)) × (List ((List Int) × (List Int))))).bind fun s28 => some (s28.1, s28.2)))) t8 (s3.2.1, s3.2.2)).bind fun f11 => some (Step.go ((s3.1 + 1), f11.1, f11.2))))) : Option (Step (List ((List Int) × (List Int))) (Int × (List (List Int)) × (List ((List Int) × (List Int))))))) 10000 (0, [row], [(row, ([] : (List Int)))])).bind fun f4o => Sum.elim (fun r31 => none) (fun f4 => some f4.2.2) f4o)
/-- round_walk -/
def m_p_round_walk (letters : Int) (doors : (List (List (Int × Int)))) (times : Int) : Option (Option (Int × (List Int))) :=
  (if (decide ((doors.length : Int) < times)) = true then some none else ((m_p_rows_of_rooms (doors.length : Int) times).bind fun t1 => ((lpR (fun (s2 : (List ((List Int) × Bool))) (first3 : (List Int)) => ((if (!(dGet s2 first3).isSome) = true then ((m_p_rows_led letters doors first3).bind fun t7 => ((lpR (fun (s8 : (List ((List Int) × Bool))) (x9 : ((List Int) × (List Int))) => (((dPutO s8 x9.1 true).bind fun t13 => ((catO (α := Int) (cut x9.1 (some 1) none) (cut x9.1 none (some 1))).bind fun t14 => (if (dGet t7 t14).isSome = true then ((idx x9.1 0).bind fun t15 => (m_p_turned_back x9.2).bind fun t16 => (dGet t7 t14).bind fun t17 => (catO (α := Int) t16 t17).bind fun t18 => (m_p_straightened t18).bind fun t19 => some (Step.ret (some ((t15, t19) : (Int × (List Int)))))) else some (Step.go t13)))) : Option (Step (Option (Int × (List Int))) (List ((List Int) × Bool))))) t7 s2).bind fun f10o => Sum.elim (fun r21 => some (Step.ret r21)) (fun f10 => some (Step.go f10)) f10o)) else some (Step.go s2)) : Option (Step (Option (Int × (List Int))) (List ((List Int) × Bool))))) t1 ([] : (List ((List Int) × Bool)))).bind fun f4o => Sum.elim (fun r24 => some r24) (fun f4 => some none) f4o)))
/-- first_ways -/
def m_p_first_ways (letters : Int) (doors : (List (List (Int × Int)))) (home : Int) : Option (List (Int × (List Int))) :=
  ((m_p_first_order letters doors home).bind fun t1 => ((lp (fun (s2 : (List (Int × (List Int)))) (room3 : Int) => ((m_p_steps_of letters).bind fun t7 => ((lp (fun (s8 : (List (Int × (List Int)))) (step9 : Int) => ((idx doors room3).bind fun t13 => (match (dGet t13 step9) with | none => (some s8) | some goal14 => ((if (true && (!(dGet s8 goal14).isSome)) = true then ((dGet s8 room3).bind fun t15 => (catO (α := Int) t15 ([step9])).bind fun t16 => (dPutO s8 goal14 t16).bind fun t17 => some t17) else some s8 : Option (List (Int × (List Int)))).bind fun s18 => some s18)))) t7 s2).bind fun f10 => some f10))) t1 ([(home, ([] : (List Int)))])).bind fun f4 => some f4))
/-- power_walk -/
def m_p_power_walk (web : (Int × (List (List Int)))) (times : Int) : Option (Option (List Int)) :=
  ((m_p_need_web web).bind fun t1 => ((m_p_need_number times 1 ()).bind fun t2 => ((m_p_doors_of web.2).bind fun t3 => ((m_p_round_walk web.1 t3 times).bind fun t4 => (match t4 with | none => (some none) | some found5 => (((m_p_first_ways web.1 t3 0).bind fun t6 => (dGet t6 found5.1).bind fun t7 => ((catO (α := Int) t7 found5.2).bind fun t8 => (m_p_turned_back t7).bind fun t9 => (catO (α := Int) t8 t9).bind fun t10 => (m_p_straightened t10).bind fun t11 => some (some t11)))))))))
/-- greatest_power -/
def m_p_greatest_power (web : (Int × (List (List Int)))) : Option Int :=
  ((m_p_need_web web).bind fun t1 => ((m_p_doors_of web.2).bind fun t2 => ((rngO 1 ((t2.length : Int) + 1)).bind fun t3 => (lcG (β := Int) (fun (times4 : Int) => ((m_p_round_walk web.1 t2 times4).bind fun t6 => if t6.isSome = true then some (some times4) else some none)) t3).bind fun t7 => (maxO t7).bind fun t8 => some t8)))
/-- is_rooted -/
def m_p_is_rooted (web : (Int × (List (List Int)))) : Option Bool :=
  ((m_p_greatest_power web).bind fun t1 => some (decide (t1 = 1)))
/-- _law_pot -/
def m_l_pot (script : (List Int)) (k_ : Int) : Option (List Int) :=
  ((if (decide (k_ < (script.length : Int))) = true then ((idx script k_).bind fun t1 => some t1) else some ((29 * k_) + 3) : Option Int).bind fun s2 => ((lp (fun (s3 : Int) (other4 : Int) => ((some (((s3 * 7919) + (other4 % 10000000000000000000009)) % 100000000000000000000000067)).bind fun total8 => some total8)) script (script.length : Int)).bind fun f5 => some [(maxI 0 (s2 - 1000000000000000000)), ((((((absI s2) * 9973) + (2 * f5)) + (if (decide (s2 < 0)) = true then 1 else 0)) + k_) % 10000000000000000000000000331), 0]))
/-- _law_draw -/
def m_l_draw (w_pot_here : (List Int)) (many : Int) : Option (Int × (List Int)) :=
  ((idx w_pot_here 0).bind fun t1 => (if (decide (0 < t1)) = true then ((idx w_pot_here 0).bind fun t2 => (modO t2 many).bind fun t3 => ((idx w_pot_here 0).bind fun t4 => (fdivO t4 many).bind fun t5 => (setO w_pot_here 0 t5).bind fun t6 => some (t3, t6))) else ((idx w_pot_here 2).bind fun t7 => (setO w_pot_here 2 (t7 + 1)).bind fun t8 => ((idx t8 1).bind fun t9 => (idx t8 2).bind fun t10 => (some (((t9 * 524287) + (t10 * 1442695040888963407)) % 10000000000000000000000000331)).bind fun mixed11 => ((mulW mixed11 mixed11).bind fun t13 => (idx t8 2).bind fun t14 => (idx t8 1).bind fun t15 => (some (((t13 + (7046029254386353131 * t14)) + t15) % 100000000000000000000000000319)).bind fun mixed16 => ((mulW mixed16 mixed16).bind fun t18 => ((modO (((t18 + 5) % 1000000000000000000000000000057) / 9001) many).bind fun t19 => some (t19, t8))))))))
/-- _law_steps -/
def m_l_steps (letters : Int) : Option (List Int) :=
  ((rngO 1 (letters + 1)).bind fun t1 => ((lp (fun (s2 : (List Int)) (letter3 : Int) => ((catO (α := Int) s2 ([letter3, (-letter3)])).bind fun t7 => some t7)) t1 ([] : (List Int))).bind fun f4 => some f4))
/-- _law_web -/
def m_l_web (letters : Int) (doors_here : (List (List (Int × Int)))) : Option (Int × (List (List Int))) :=
  ((lenO doors_here).bind fun z2 => (mapO (fun (steps_here1 : (List (Int × Int))) => (some steps_here1 : Option (List (Int × Int)))) doors_here).bind fun t4 => ((rngO 0 (t4.length : Int)).bind fun t6 => ((lp (fun (s7 : (List (List (Int × Int)))) (turn8 : Int) => ((rngO 1 (s7.length : Int)).bind fun t12 => ((lp (fun (s13 : (List (List (Int × Int)))) (room14 : Int) => ((idx s13 room14).bind fun t18 => ((if (decide ((t18.length : Int) = 1)) = true then ((idx s13 room14).bind fun t19 => (idx (List.map Prod.fst t19) 0).bind fun t20 => ((idx s13 room14).bind fun t21 => (dPopO t21 t20).bind fun t22 => ((idx (setI s13 room14 t22.2) t22.1).bind fun t23 => (dPopO t23 (-t20)).bind fun t24 => some (setI (setI s13 room14 t22.2) t22.1 t24.2)))) else some s13 : Option (List (List (Int × Int)))).bind fun s25 => some s25))) t12 s7).bind fun f15 => some f15))) t6 t4).bind fun f9 => ((wh (fun (s30 : (Int × (List Int))) => some (decide (s30.1 < (s30.2.length : Int)))) (fun (s30 : (Int × (List Int))) => (((m_l_steps letters).bind fun t34 => ((lp (fun (s35 : (List Int)) (step36 : Int) => ((idx s35 s30.1).bind fun t40 => (idx f9 t40).bind fun t41 => ((if ((decide (0 ≤ ((dGet t41 step36).getD (-1)))) && (!s35.contains ((dGet t41 step36).getD (-1)))) = true then ((appO s35 ((dGet t41 step36).getD (-1))).bind fun t42 => some t42) else some s35 : Option (List Int)).bind fun s43 => some s43))) t34 s30.2).bind fun f37 => some (Step.go ((s30.1 + 1), f37)))) : Option (Step (Int × (List (List Int))) (Int × (List Int))))) 10000 (0, [0])).bind fun f31o => Sum.elim (fun r64 => none) (fun f31 => ((lp (fun (s46 : (List (List Int))) (room47 : Int) => ((rngO 1 (letters + 1)).bind fun t51 => (lcO (β := Int) (fun (letter52 : Int) => ((idx f9 room47).bind fun t54 => some ((dGet t54 letter52).getD (-1)))) t51).bind fun t55 => ((lcO (β := Int) (fun (goal56 : Int) => ((if (decide (0 ≤ goal56)) = true then ((ixOf f31.2 goal56).bind fun t58 => some ((t58 : Nat) : Int)) else some (-1)).bind fun t59 => some t59)) t55).bind fun t60 => (appO s46 t60).bind fun t61 => some t61))) f31.2 ([] : (List (List Int)))).bind fun f48 => some (letters, f48))) f31o))))
/-- _law_doors -/
def m_l_doors (web_here : (Int × (List (List Int)))) : Option (List (List (Int × Int))) :=
  ((lenO web_here.2).bind fun z2 => (mapO (fun (row1 : (List Int)) => (some ([] : (List (Int × Int))) : Option (List (Int × Int)))) web_here.2).bind fun t4 => ((rngO 0 (t4.length : Int)).bind fun t6 => ((lp (fun (s7 : (List (List (Int × Int)))) (room8 : Int) => ((rngO 0 web_here.1).bind fun t12 => ((lp (fun (s13 : (List (List (Int × Int)))) (at_14 : Int) => ((idx web_here.2 room8).bind fun t18 => (idx t18 at_14).bind fun t19 => ((if (decide (0 ≤ t19)) = true then ((idx s13 room8).bind fun t20 => (dPutO t20 (at_14 + 1) t19).bind fun t21 => ((idx (setI s13 room8 t21) t19).bind fun t22 => (dPutO t22 ((-at_14) - 1) room8).bind fun t23 => some (setI (setI s13 room8 t21) t19 t23))) else some s13 : Option (List (List (Int × Int)))).bind fun s24 => some s24))) t12 s7).bind fun f15 => some f15))) t6 t4).bind fun f9 => some f9)))
/-- _law_straight -/
def m_l_straight (w_pot_here : (List Int)) (letters : Int) (size : Int) : Option ((List Int) × (List Int)) :=
  ((rngO 0 size).bind fun t1 => ((lp (fun (s2 : ((List Int) × (List Int))) (turn3 : Int) => ((m_l_steps letters).bind fun t7 => (lcG (β := Int) (fun (step8 : Int) => ((if (decide (s2.1 = ([] : (List Int)))) = true then some true else ((idx s2.1 (-1)).bind fun t10 => some (!decide (step8 = (-t10))))).bind fun t11 => if t11 = true then some (some step8) else some none)) t7).bind fun t12 => ((m_l_draw s2.2 (t12.length : Int)).bind fun t13 => (idx t12 t13.1).bind fun t14 => (appO s2.1 t14).bind fun t15 => some (t15, t13.2)))) t1 (([] : (List Int)), w_pot_here)).bind fun f4 => some (f4.1, f4.2)))
/-- _law_tables -/
def m_l_tables (w_pot_here : (List Int)) (letters : Int) (count : Int) (gaps : Int) : Option ((List (List (Int × Int))) × (List Int)) :=
  ((rngO 0 count).bind fun t1 => (lenO t1).bind fun z3 => (mapO (fun (room2 : Int) => (some ([] : (List (Int × Int))) : Option (List (Int × Int)))) t1).bind fun t5 => ((rngO 1 (letters + 1)).bind fun t7 => ((lp (fun (s8 : ((List (List (Int × Int))) × (List Int))) (letter9 : Int) => ((rgO 0 count).bind fun t13 => ((rngO 0 count).bind fun t14 => ((lp (fun (s15 : ((List Int) × (List (List (Int × Int))) × (List Int))) (room16 : Int) => ((m_l_draw s15.2.2 (s15.1.length : Int)).bind fun t20 => (popI s15.1 t20.1).bind fun t21 => ((if (decide (gaps = 0)) = true then some (true, t20.2) else ((m_l_draw t20.2 gaps).bind fun t22 => some ((decide (0 < t22.1)), t22.2))).bind fun t23 => ((if t23.1 = true then ((idx s15.2.1 room16).bind fun t24 => (dPutO t24 letter9 t21.1).bind fun t25 => ((idx (setI s15.2.1 room16 t25) t21.1).bind fun t26 => (dPutO t26 (-letter9) room16).bind fun t27 => some (setI (setI s15.2.1 room16 t25) t21.1 t27))) else some s15.2.1 : Option (List (List (Int × Int)))).bind fun s28 => some (t21.2, s28, t23.2))))) t14 (t13, s8.1, s8.2)).bind fun f17 => some (f17.2.1, f17.2.2))))) t7 (t5, w_pot_here)).bind fun f10 => some (f10.1, f10.2))))
/-- _law_rings -/
def m_l_rings (walks : (List (List Int))) : Option (List (List (Int × Int))) :=
  ((lp (fun (s2 : (Int × (List (Tri Int Int Int)))) (walk3 : (List Int)) => ((rngO 0 ((walk3.length : Int) - 1)).bind fun t7 => (lcT (fun (k_8 : Int) => (s2.1 + k_8)) t7).bind fun t10 => (catO (α := Int) ([0]) t10).bind fun t11 => (catO (α := Int) t11 ([0])).bind fun t12 => ((rngO 0 (walk3.length : Int)).bind fun t13 => ((lp (fun (s14 : (List (Tri Int Int Int))) (k_15 : Int) => ((idx t12 k_15).bind fun t19 => (idx walk3 k_15).bind fun t20 => (idx t12 (k_15 + 1)).bind fun t21 => (appO s14 (Tri.mk t19 t20 t21)).bind fun t22 => ((idx t12 (k_15 + 1)).bind fun t23 => (idx walk3 k_15).bind fun t24 => (idx t12 k_15).bind fun t25 => (appO t22 (Tri.mk t23 (-t24) t25)).bind fun t26 => some t26))) t13 s2.2).bind fun f16 => some (((s2.1 + (walk3.length : Int)) - 1), f16))))) walks (1, ([] : (List (Tri Int Int Int))))).bind fun f4 => ((rgO 0 f4.1).bind fun t30 => ((rngO 0 f4.1).bind fun t33 => ((lp (fun (s34 : ((List Int) × (List (List (Int × Int))))) (turn35 : Int) => ((rngO 0 f4.1).bind fun t39 => (lenO t39).bind fun z41 => (mapO (fun (room40 : Int) => (some ([] : (List (Int × Int))) : Option (List (Int × Int)))) t39).bind fun t43 => ((lp (fun (s45 : ((List Int) × (List (List (Int × Int))))) (x46 : (Tri Int Int Int)) => ((idx s45.1 x46.a).bind fun t50 => (idx s45.1 x46.c).bind fun t51 => ((idx s45.2 t50).bind fun t52 => (dSetO t52 x46.b t51).bind fun t53 => ((if (!decide (t53.1 = t51)) = true then ((lcT (fun (head54 : Int) => (if (decide (head54 = (maxI t53.1 t51))) = true then (minI t53.1 t51) else head54)) s45.1).bind fun t56 => some t56) else some s45.1 : Option (List Int)).bind fun s57 => some (s57, (setI s45.2 t50 t53.2)))))) f4.2 (s34.1, t43)).bind fun f47 => some (f47.1, f47.2)))) t33 (t30, ([] : (List (List (Int × Int)))))).bind fun f36 => some f36.2))))
/-- _law_drawn -/
def m_l_drawn (w_pot_here : (List Int)) (most : Int) (top : Int) : Option ((Int × (List (List Int))) × (List Int)) :=
  ((m_l_draw w_pot_here top).bind fun t1 => ((m_l_draw t1.2 9).bind fun t2 => (if (decide (t2.1 = 0)) = true then ((repT ([(-1)]) (1 + t1.1)).bind fun t3 => some (((1 + t1.1), [t3]), t2.2)) else (if (decide (t2.1 < 5)) = true then ((m_l_draw t2.2 3).bind fun t5 => (rngO 0 (1 + t5.1)).bind fun t6 => ((lp (fun (s7 : (Int × (List Int) × (List (List Int)))) (turn8 : Int) => ((if (decide (0 < s7.1)) = true then ((m_l_draw s7.2.1 s7.1).bind fun t12 => ((m_l_straight t12.2 (1 + t1.1) (1 + t12.1)).bind fun t13 => (appO s7.2.2 t13.1).bind fun t14 => some ((s7.1 - (1 + t12.1)), t13.2, t14))) else some (s7.1, s7.2.1, s7.2.2) : Option (Int × (List Int) × (List (List Int)))).bind fun s15 => some (s15.1, s15.2.1, s15.2.2))) t6 (most, t5.2, ([] : (List (List Int))))).bind fun f9 => ((m_l_rings f9.2.2).bind fun t17 => (m_l_web (1 + t1.1) t17).bind fun t18 => some (t18, f9.2.1)))) else ((m_l_draw t2.2 5).bind fun t20 => (idx ([0, 0, 2, 3, 6]) t20.1).bind fun t21 => ((m_l_draw t20.2 most).bind fun t22 => (m_l_tables t22.2 (1 + t1.1) (1 + t22.1) t21).bind fun t23 => (m_l_web (1 + t1.1) t23.1).bind fun t24 => some (t24, t23.2)))))))
/-- _law_short -/
def m_l_short (walk : (List Int)) : Option (List Int) :=
  ((lp (fun (s1 : (List Int)) (step2 : Int) => ((if (!decide (s1 = ([] : (List Int)))) = true then ((idx s1 (-1)).bind fun t6 => some (decide (t6 = (-step2)))) else some false).bind fun t7 => ((if t7 = true then ((popO s1).bind fun t8 => some t8.2) else ((appO s1 step2).bind fun t9 => some t9) : Option (List Int)).bind fun s10 => some s10))) walk ([] : (List Int))).bind fun f3 => some f3)
/-- _law_is_integer -/
def m_l_is_integer (found : Int) (due : Int) : Option Bool :=
  some (true && (true && (decide (found = due))))
/-- _law_all_tables -/
def m_l_all_tables (doors_here : (List (List (Int × Int)))) (letters : Int) : Option (List (List Int)) :=
  ((rgO 0 (doors_here.length : Int)).bind fun t1 => ((idx ([t1]) 0).bind fun t3 => ((wh (fun (s4 : (Int × (List ((List Int) × Bool)) × (List (List Int)))) => some (decide (s4.1 < (s4.2.2.length : Int)))) (fun (s4 : (Int × (List ((List Int) × Bool)) × (List (List Int)))) => (((m_l_steps letters).bind fun t8 => ((lp (fun (s9 : ((List ((List Int) × Bool)) × (List (List Int)))) (step10 : Int) => ((idx s9.2 s4.1).bind fun t14 => (lcO (β := Int) (fun (room15 : Int) => ((if (decide (0 ≤ room15)) = true then ((idx doors_here room15).bind fun t17 => some ((dGet t17 step10).getD (-1))) else some (-1)).bind fun t18 => some t18)) t14).bind fun t19 => ((if (!(dGet s9.1 t19).isSome) = true then ((dPutO s9.1 t19 true).bind fun t20 => ((appO s9.2 t19).bind fun t21 => some (t20, t21))) else some (s9.1, s9.2) : Option ((List ((List Int) × Bool)) × (List (List Int)))).bind fun s22 => some (s22.1, s22.2)))) t8 (s4.2.1, s4.2.2)).bind fun f11 => some (Step.go ((s4.1 + 1), f11.1, f11.2)))) : Option (Step (List (List Int)) (Int × (List ((List Int) × Bool)) × (List (List Int)))))) 10000 (0, (dOf ([(t3, true)])), [t1])).bind fun f5o => Sum.elim (fun r25 => none) (fun f5 => some f5.2.2) f5o)))
/-- _law_rounds -/
def m_l_rounds (tables_here : (List (List Int))) (count : Int) : Option (List Bool) :=
  ((repO ([false]) (count + 1)).bind fun t1 => ((lp (fun (s2 : (List Bool)) (table3 : (List Int)) => ((rngO 0 count).bind fun t7 => ((lp (fun (s8 : (List Bool)) (first9 : Int) => ((idx table3 first9).bind fun t13 => ((rngO 0 count).bind fun t14 => ((lp (fun (s15 : (Int × Int)) (turn16 : Int) => ((if ((decide (0 ≤ s15.1)) && (!decide (s15.1 = first9))) = true then ((idx table3 s15.1).bind fun t20 => some (t20, (s15.2 + 1))) else some (s15.1, s15.2) : Option (Int × Int)).bind fun s21 => some (s21.1, s21.2))) t14 (t13, 1)).bind fun f17 => ((if (decide (f17.1 = first9)) = true then ((setO s8 f17.2 true).bind fun t23 => some t23) else some s8 : Option (List Bool)).bind fun s24 => some s24))))) t7 s2).bind fun f10 => some f10))) tables_here t1).bind fun f4 => some f4))
/-- _law_round -/
def m_l_round (doors_here : (List (List (Int × Int)))) (walk : (List Int)) (most : Int) : Option Int :=
  ((rngO 1 (most + 1)).bind fun t1 => ((lpR (fun (s2 : Unit) (times3 : Int) => (((repT walk times3).bind fun t7 => (m_l_short t7).bind fun t8 => ((lp (fun (s9 : Int) (step10 : Int) => ((if (decide (0 ≤ s9)) = true then ((idx doors_here s9).bind fun t14 => some ((dGet t14 step10).getD (-1))) else some s9 : Option Int).bind fun s15 => some s15)) t8 0).bind fun f11 => (if (decide (f11 = 0)) = true then some (Step.ret times3) else some (Step.go ())))) : Option (Step Int Unit))) t1 ()).bind fun f4o => Sum.elim (fun r19 => some r19) (fun f4 => some 0) f4o))
/-- _law_is_walk -/
def m_l_is_walk (found : (List Int)) (letters : Int) : Option Bool :=
  (((lpR (fun (s1 : Unit) (step2 : Int) => ((if (false || (false || ((decide (step2 = 0)) || (decide (letters < (absI step2)))))) = true then some (Step.ret false) else some (Step.go ())) : Option (Step Bool Unit))) found ()).bind fun f3o => Sum.elim (fun r8 => some r8) (fun f3 => ((m_l_short found).bind fun t7 => some (decide (t7 = found)))) f3o))
/-- _law_walk_right -/
def m_l_walk_right (doors_here : (List (List (Int × Int)))) (letters : Int) (found : (Option (List Int))) (times : Int) (due : Bool) : Option Bool :=
  (if (!due) = true then (match found with | none => some true | some found1 => some false) else ((found).bind fun t2 => (m_l_is_walk t2 letters).bind fun t3 => (if t3 = true then ((found).bind fun t4 => (m_l_round doors_here t4 (doors_here.length : Int)).bind fun t5 => some (decide (t5 = times))) else some false).bind fun t6 => some t6))
/-- _law_truth -/
def m_l_truth (found : Bool) (due : Bool) : Option Bool :=
  some (true && (decide (found = due)))
/-- _law_right -/
def m_l_right (w_pot_here : (List Int)) : Option (Bool × (List Int)) :=
  ((m_l_draw w_pot_here 4).bind fun t1 => (idx ([4, 4, 3, 5]) t1.1).bind fun t2 => (m_l_drawn t1.2 t2 3).bind fun t3 => ((m_l_doors t3.1).bind fun t4 => ((m_l_all_tables t4 t3.1.1).bind fun t5 => (m_l_rounds t5 (t4.length : Int)).bind fun t6 => ((rngO 0 (t6.length : Int)).bind fun t7 => (lcG (β := Int) (fun (times8 : Int) => ((idx t6 times8).bind fun t10 => if t10 = true then some (some times8) else some none)) t7).bind fun t11 => (maxO t11).bind fun t12 => ((m_p_greatest_power t3.1).bind fun t13 => (m_l_is_integer t13 t12).bind fun t14 => (if (!t14) = true then some true else ((m_p_is_rooted t3.1).bind fun t15 => (m_l_truth t15 (decide (t12 = 1))).bind fun t16 => some (!t16))).bind fun t17 => (if t17 = true then some (false, t3.2) else ((rgO 1 ((t4.length : Int) + 2)).bind fun t18 => (m_l_draw t3.2 999999999999999999999999999999999999999999999999999999999994).bind fun t19 => (catO (α := Int) t18 ([(6 + t19.1)])).bind fun t20 => ((rngO 0 (t20.length : Int)).bind fun t21 => ((lpR (fun (s22 : ((List Int) × (List Int))) (turn23 : Int) => (((m_l_draw s22.2 (s22.1.length : Int)).bind fun t27 => (popI s22.1 t27.1).bind fun t28 => ((if (decide (t28.1 < (t6.length : Int))) = true then ((idx t6 t28.1).bind fun t29 => some t29) else some false).bind fun t30 => ((m_p_power_walk t3.1 t28.1).bind fun t31 => ((m_l_walk_right t4 t3.1.1 t31 t28.1 t30).bind fun t32 => (if (!t32) = true then some (Step.ret (false, t27.2)) else ((m_p_power_walk t3.1 t28.1).bind fun t33 => (m_l_walk_right t4 t3.1.1 t33 t28.1 t30).bind fun t34 => (if (!t34) = true then some (Step.ret (false, t27.2)) else some (Step.go (t28.2, t27.2))))))))) : Option (Step (Bool × (List Int)) ((List Int) × (List Int))))) t21 (t20, t19.2)).bind fun f24o => Sum.elim (fun r41 => some r41) (fun f24 => ((m_p_is_rooted t3.1).bind fun t36 => (m_l_truth t36 (decide (t12 = 1))).bind fun t37 => (if t37 = true then ((m_p_greatest_power t3.1).bind fun t38 => (m_l_is_integer t38 t12).bind fun t39 => some t39) else some false).bind fun t40 => some (t40, f24.2))) f24o)))))))))
/-- law -/
def m_l_law (script : (List Int)) : Option Bool :=
  ((rngO 0 (maxI 1 (minI 3 (script.length : Int)))).bind fun t1 => ((lpR (fun (s2 : Unit) (k_3 : Int) => (((m_l_pot script k_3).bind fun t7 => (m_l_right t7).bind fun t8 => (if (!t8.1) = true then some (Step.ret false) else some (Step.go ()))) : Option (Step Bool Unit))) t1 ()).bind fun f4o => Sum.elim (fun r10 => some r10) (fun f4 => some true) f4o))
end L25
namespace L25
open PySem PySem.Spec PyProof.Rows L2 Z
def top (i : Nat) : Stmt := PySem.Challenge.pw_walkclubs_k25_walks_with_wanted_powers.main.body.getD i (.Pass ⟨0, 0, 0, 0⟩)
abbrev s_p_steps_of : Stmt := top 5
def N_p_steps_of : List Str := ["letters", "found", "letter"]
def V_p_steps_of : List Str := ["letters", "found", "letter"]
def G_p_steps_of : List Str := ["range"]
theorem sc_p_steps_of : FnScope N_p_steps_of ["letters"] (defScope s_p_steps_of) := ⟨rfl, rfl, rfl, by decide +kernel, rfl, by decide +kernel, by decide +kernel⟩
abbrev sp_p_steps_of (K : PySem.W.Frag) : Sp := spZ (α := Int) (β := (List Int)) (fun a => [(dat (PyData.int a))]) (fun a => []) (fun a => m_p_steps_of a) (fun a b => (dat (PyData.list (List.map PyData.int b)))) (fun a b => [])
set_option maxHeartbeats 4000000 in
theorem body_p_steps_of {X : Cx} (hsc : X.env.scope = defScope s_p_steps_of) {sts_ : List Stmt} (hst_ : defBody s_p_steps_of = sts_) (B : Bd X N_p_steps_of V_p_steps_of G_p_steps_of 0) (T : Bt X V_p_steps_of) (g_range : X.mg "range" = none) (letters : Int) (b : (List Int)) (F0 : Hp) (os : Os) (D : Ends) (hm : m_p_steps_of letters = some b) (R : RetZ F0 (os) (dat (PyData.list (List.map PyData.int b))) D) :
    SX X [sl (dat (PyData.int letters)), un, un] (os) F0 sts_ D := by
  subst hst_
  unfold m_p_steps_of at hm
  refine sx_asgN (i := 1) (vi := 1) (n := ol (List.map PyData.int ([] : (List Int)))) B T rfl rfl (en_lst (ds := []) ax_nil) (fun q_found0 => ?_)
  obtain ⟨t1, h1, hm⟩ := bnd hm
  obtain ⟨f4, h8, hm⟩ := bnd hm
  refine sx_for (c := anyOs) _ (fun (s2 : (List Int)) (_ : Unit) => [sl (dat (PyData.int letters)), sl (own q_found0), un]) (fun (s2 : (List Int)) (_ : Unit) => (q_found0, ol (List.map PyData.int s2)) :: os) B T (fun letter3 => gx_name (i := 2) (vi := 2) (φ := (dat (PyData.int letter3))) B T rfl rfl) ([] : (List Int)) () f4 h8 (ix_rng2 (gi := 0) B rfl g_range h1 ex_int (ex_add (ex_v (i := 0) (j := 0) B rfl rfl rfl) ex_int)) ⟨.inl rfl, .inl rfl, .inl rfl, trivial⟩ (fun _ _ => trivial) (fun F6 e5 s2 _ letter3 z9 hx hm => ?_) (fun _ => ?_)
  · clear h8
    obtain ⟨t7, h7, hm⟩ := bnd hm
    refine sx_expr (ex_extend (enc := PyData.int) (j := 0) (xs0 := s2) (xs := s2) (ys := ([letter3, (-letter3)])) h7 (ex_v (i := 1) (j := 1) B rfl rfl rfl) rfl (en_lst (ds := [(PyData.int letter3), (PyData.int (-letter3))]) (hl := len_ok (n := 2) rfl) (ax_cons (ex_v (i := 2) (j := 2) B rfl rfl rfl) (ax_cons (ex_neg (ex_v (i := 2) (j := 2) B rfl rfl rfl)) ax_nil))) rfl) ?_
    obtain rfl := som hm
    exact sx_nil fun σ H a => ⟨(), (a.weak ⟨.inl rfl, .inl rfl, .inr rfl, trivial⟩)⟩
  · skip
    refine sx_frz (j := 0) (i := 1) rfl rfl ?_
    obtain rfl := som hm
    exact sx_ret (ex_v (i := 1) (j := 1) B rfl rfl rfl) (fun F H v e o c => R.rt F H v e o c)
theorem cal_p_steps_of {P : Program} {w : World} {K : PySem.W.Frag} {mg : Str → Option Value} {base : Heap} {f : Addr} {fd : FuncData} (Fn : Fun K "steps_of" "steps_of" s_p_steps_of f fd) (hmg : mg "steps_of" = some (.ref f)) (hb : Binds K fd ["letters"] []) (g_range : mg "range" = none) : Cal P w K mg base 1 "steps_of" s_p_steps_of ["letters"] (sp_p_steps_of K) := by
  obtain ⟨sts_, hst_⟩ : ∃ z_, defBody s_p_steps_of = z_ := ⟨_, rfl⟩
  exact cal_ZQ (V := V_p_steps_of) (Gs := G_p_steps_of) (nl := 2) hst_ Fn sc_p_steps_of (by decide +kernel) (by decide +kernel) hmg hb (fun _ => rfl) rfl fun _ _ _ _ _ _ _ a b F0 os D B T hm R => body_p_steps_of rfl hst_ B T g_range a b F0 os D hm R
abbrev s_p_straightened : Stmt := top 6
def N_p_straightened : List Str := ["walk", "found", "step"]
def V_p_straightened : List Str := ["walk", "found", "step"]
def G_p_straightened : List Str := ["len", "tuple"]
theorem sc_p_straightened : FnScope N_p_straightened ["walk"] (defScope s_p_straightened) := ⟨rfl, rfl, rfl, by decide +kernel, rfl, by decide +kernel, by decide +kernel⟩
abbrev sp_p_straightened (K : PySem.W.Frag) : Sp := spZ (α := (List Int)) (β := (List Int)) (fun a => [(dat (PyData.tuple (List.map PyData.int a)))]) (fun a => []) (fun a => m_p_straightened a) (fun a b => (dat (PyData.tuple (List.map PyData.int b)))) (fun a b => [])
set_option maxHeartbeats 4000000 in
theorem body_p_straightened {X : Cx} (hsc : X.env.scope = defScope s_p_straightened) {sts_ : List Stmt} (hst_ : defBody s_p_straightened = sts_) (B : Bd X N_p_straightened V_p_straightened G_p_straightened 0) (T : Bt X V_p_straightened) (g_len : X.mg "len" = none) (g_tuple : X.mg "tuple" = none) (walk : (List Int)) (b : (List Int)) (F0 : Hp) (os : Os) (D : Ends) (hm : m_p_straightened walk = some b) (R : RetZ F0 (os) (dat (PyData.tuple (List.map PyData.int b))) D) :
    SX X [sl (dat (PyData.tuple (List.map PyData.int walk))), un, un] (os) F0 sts_ D := by
  subst hst_
  unfold m_p_straightened at hm
  refine sx_asgN (i := 1) (vi := 1) (n := ol (List.map PyData.int ([] : (List Int)))) B T rfl rfl (en_lst (ds := []) ax_nil) (fun q_found0 => ?_)
  obtain ⟨f3, h11, hm⟩ := bnd hm
  refine sx_for (c := anyOs) _ (fun (s1 : (List Int)) (_ : Unit) => [sl (dat (PyData.tuple (List.map PyData.int walk))), sl (own q_found0), un]) (fun (s1 : (List Int)) (_ : Unit) => (q_found0, ol (List.map PyData.int s1)) :: os) B T (fun step2 => gx_name (i := 2) (vi := 2) (φ := (dat (PyData.int step2))) B T rfl rfl) ([] : (List Int)) () f3 h11 (ix_tup (enc := PyData.int) (ex_v (i := 0) (j := 0) B rfl rfl rfl) rdt_dat) ⟨.inl rfl, .inl rfl, .inl rfl, trivial⟩ (fun _ _ => trivial) (fun F5 e4 s1 _ step2 z12 hx hm => ?_) (fun _ => ?_)
  · clear h11
    obtain ⟨t7, h7, hm⟩ := bnd hm
    obtain ⟨s10, h_s10, hm⟩ := bnd hm
    refine sx_join [sl (dat (PyData.tuple (List.map PyData.int walk))), sl (own q_found0), sl (dat (PyData.int step2))] ((q_found0, ol (List.map PyData.int s10)) :: os) (?_) (fun Q => ?_)
    · clear h_s10
      obtain rfl := som hm
      exact sx_nil fun σ H a => ⟨(), (a.weak ⟨.inl rfl, .inl rfl, .inr rfl, trivial⟩)⟩
    · have hm := h_s10
      refine sx_if (WX.tx (wx_and (l := t7) (os2 := (q_found0, ol (List.map PyData.int s1)) :: os) (tx_cmp op_gt r2_gt (nomark _) (EX.to (ex_fn (j := 0) B rfl g_len (by decide +kernel) call_len_seq (rc_lenL (ds := List.map PyData.int s1) (rdl_own 0 rfl)) (ax_cons (ex_v (i := 1) (j := 1) B rfl rfl rfl) ax_nil)) (by rw [List.length_map])) ex_int) (fun hk => by (have hm := ifT h7 hk; obtain ⟨t6, h6, hm⟩ := bnd hm; obtain rfl := som hm; exact (wx_and1 (tx_cmp op_eq r2_eqI (nomark _) (ex_idxL (enc := PyData.int) h6 (rdl_own 0 rfl) (ex_v (i := 1) (j := 1) B rfl rfl rfl) (ex_neg ex_int)) (ex_neg (ex_v (i := 2) (j := 2) B rfl rfl rfl)))))) (fun hk => by (have hm := ifF h7 hk; obtain rfl := som hm; rfl)) (and_fix (fun hk => by (have hm := ifF h7 hk; obtain rfl := som hm; rfl))))) (fun hk => ?_) (fun hk => ?_)
      · have hm := ifT hm hk
        obtain ⟨t8, h8, hm⟩ := bnd hm
        refine sx_expr (ex_popO (enc := PyData.int) (j := 0) h8 (ex_v (i := 1) (j := 1) B rfl rfl rfl) rfl) ?_
        obtain rfl := som hm
        exact sx_fall Q rfl
      · have hm := ifF hm hk
        obtain ⟨t9, h9, hm⟩ := bnd hm
        refine sx_expr (ex_app (enc := PyData.int) (j := 0) (xs0 := s1) (xs := s1) (y := step2) h9 (ex_v (i := 1) (j := 1) B rfl rfl rfl) rfl (ex_v (i := 2) (j := 2) B rfl rfl rfl) rfl) ?_
        obtain rfl := som hm
        exact sx_fall Q rfl
  · skip
    refine sx_frz (j := 0) (i := 1) rfl rfl ?_
    obtain rfl := som hm
    exact sx_ret (ex_ty (j := 1) B rfl g_tuple (by decide +kernel) call_tuple_of (rc_tupL (ds := List.map PyData.int f3) rdl_dat) (ax_cons (ex_v (i := 1) (j := 1) B rfl rfl rfl) ax_nil)) (fun F H v e o c => R.rt F H v e o c)
theorem cal_p_straightened {P : Program} {w : World} {K : PySem.W.Frag} {mg : Str → Option Value} {base : Heap} {f : Addr} {fd : FuncData} (Fn : Fun K "straightened" "straightened" s_p_straightened f fd) (hmg : mg "straightened" = some (.ref f)) (hb : Binds K fd ["walk"] []) (g_len : mg "len" = none) (g_tuple : mg "tuple" = none) : Cal P w K mg base 1 "straightened" s_p_straightened ["walk"] (sp_p_straightened K) := by
  obtain ⟨sts_, hst_⟩ : ∃ z_, defBody s_p_straightened = z_ := ⟨_, rfl⟩
  exact cal_ZQ (V := V_p_straightened) (Gs := G_p_straightened) (nl := 2) hst_ Fn sc_p_straightened (by decide +kernel) (by decide +kernel) hmg hb (fun _ => rfl) rfl fun _ _ _ _ _ _ _ a b F0 os D B T hm R => body_p_straightened rfl hst_ B T g_len g_tuple a b F0 os D hm R
abbrev s_p_turned_back : Stmt := top 7
def N_p_turned_back : List Str := ["walk", "step"]
def V_p_turned_back : List Str := ["walk"]
def G_p_turned_back : List Str := ["tuple"]
theorem sc_p_turned_back : FnScope N_p_turned_back ["walk"] (defScope s_p_turned_back) := ⟨rfl, rfl, rfl, by decide +kernel, rfl, by decide +kernel, by decide +kernel⟩
abbrev sp_p_turned_back (K : PySem.W.Frag) : Sp := spZ (α := (List Int)) (β := (List Int)) (fun a => [(dat (PyData.tuple (List.map PyData.int a)))]) (fun a => []) (fun a => m_p_turned_back a) (fun a b => (dat (PyData.tuple (List.map PyData.int b)))) (fun a b => [])
set_option maxHeartbeats 4000000 in
theorem body_p_turned_back {X : Cx} (hsc : X.env.scope = defScope s_p_turned_back) {sts_ : List Stmt} (hst_ : defBody s_p_turned_back = sts_) (B : Bd X N_p_turned_back V_p_turned_back G_p_turned_back 0) (T : Bt X V_p_turned_back) (g_tuple : X.mg "tuple" = none) (walk : (List Int)) (b : (List Int)) (F0 : Hp) (os : Os) (D : Ends) (hm : m_p_turned_back walk = some b) (R : RetZ F0 (os) (dat (PyData.tuple (List.map PyData.int b))) D) :
    SX X [sl (dat (PyData.tuple (List.map PyData.int walk))), un] (os) F0 sts_ D := by
  subst hst_
  unfold m_p_turned_back at hm
  obtain ⟨t3, h3, hm⟩ := bnd hm
  obtain rfl := som hm
  exact sx_ret (ex_ty (j := 0) B rfl g_tuple (by decide +kernel) call_tuple_of (rc_tupL (ds := List.map PyData.int t3) rdl_dat) (ax_cons (EN.ex (en_lc (lc_mk1 (j := 1) (vp := fun step1 => (dat (PyData.int step1))) (c := anyOs) (enc := PyData.int) (fun (_ : Unit) (step1 : Int) => some (some (-step1), ())) (fun (_ : Unit) (tl1 : Os) => tl1) () (t3) () B rfl rfl (by rw [B.hN, hsc]; decide +kernel) (by rw [hsc]; decide +kernel) (by decide) (lcT_ok h3) (ix_tup (enc := PyData.int) (ex_revT (enc := PyData.int) rdt_dat (ex_v (i := 0) (j := 0) B rfl rfl rfl)) rdt_dat) (fun _ _ => trivial) (fun _ _ _ => List.Perm.refl _) (fun _ step1 t tl1 hx hf => by (obtain rfl := som hf; exact ⟨true, _, fun X1 hX => by (have B1 := Bd.fam (W' := ["step"]) (G' := []) B hX (by (try rw [hsc]); decide +kernel); exact ⟨.nil, fun _ => ⟨_, rfl, (ex_neg (ex_v (i := 1) (j := 0) B1 rfl rfl rfl))⟩, fun h => Bool.noConfusion h⟩)⟩))))) ax_nil)) (fun F H v e o c => R.rt F H v e o c)
theorem cal_p_turned_back {P : Program} {w : World} {K : PySem.W.Frag} {mg : Str → Option Value} {base : Heap} {f : Addr} {fd : FuncData} (Fn : Fun K "turned_back" "turned_back" s_p_turned_back f fd) (hmg : mg "turned_back" = some (.ref f)) (hb : Binds K fd ["walk"] []) (g_tuple : mg "tuple" = none) : Cal P w K mg base 1 "turned_back" s_p_turned_back ["walk"] (sp_p_turned_back K) := by
  obtain ⟨sts_, hst_⟩ : ∃ z_, defBody s_p_turned_back = z_ := ⟨_, rfl⟩
  exact cal_ZQ (V := V_p_turned_back) (Gs := G_p_turned_back) (nl := 1) hst_ Fn sc_p_turned_back (by decide +kernel) (by decide +kernel) hmg hb (fun _ => rfl) rfl fun _ _ _ _ _ _ _ a b F0 os D B T hm R => body_p_turned_back rfl hst_ B T g_tuple a b F0 os D hm R
abbrev s_p_is_integer : Stmt := top 10
def N_p_is_integer : List Str := ["value"]
def V_p_is_integer : List Str := ["value"]
def G_p_is_integer : List Str := ["isinstance", "int", "bool"]
theorem sc_p_is_integer : FnScope N_p_is_integer ["value"] (defScope s_p_is_integer) := ⟨rfl, rfl, rfl, by decide +kernel, rfl, by decide +kernel, by decide +kernel⟩
abbrev sp_p_is_integer (K : PySem.W.Frag) : Sp := spZ (α := Int) (β := Bool) (fun a => [(dat (PyData.int a))]) (fun a => []) (fun a => m_p_is_integer a) (fun a b => (dat (PyData.bool b))) (fun a b => [])
set_option maxHeartbeats 4000000 in
theorem body_p_is_integer {X : Cx} (hsc : X.env.scope = defScope s_p_is_integer) {sts_ : List Stmt} (hst_ : defBody s_p_is_integer = sts_) (B : Bd X N_p_is_integer V_p_is_integer G_p_is_integer 0) (T : Bt X V_p_is_integer) (g_isinstance : X.mg "isinstance" = none) (g_int : X.mg "int" = none) (g_bool : X.mg "bool" = none) (value : Int) (b : Bool) (F0 : Hp) (os : Os) (D : Ends) (hm : m_p_is_integer value = some b) (R : RetZ F0 (os) (dat (PyData.bool b)) D) :
    SX X [sl (dat (PyData.int value))] (os) F0 sts_ D := by
  subst hst_
  unfold m_p_is_integer at hm
  obtain rfl := som hm
  exact sx_ret (ex_and (ex_fn (j := 0) B rfl g_isinstance (by decide +kernel) call_isi (rc_isi (d := (PyData.int value)) (T := "int") (show kitB "int" "int" = some true by decide +kernel)) (ax_cons (ex_v (i := 0) (j := 0) B rfl rfl rfl) (ax_cons (ex_tyname (T := "int") (gi := 1) B rfl g_int (by decide +kernel)) ax_nil))) (fun _ => (ex_one (ex_not (ex_fn (j := 0) B rfl g_isinstance (by decide +kernel) call_isi (rc_isi (d := (PyData.int value)) (T := "bool") (show kitB "int" "bool" = some false by decide +kernel)) (ax_cons (ex_v (i := 0) (j := 0) B rfl rfl rfl) (ax_cons (ex_tyname (T := "bool") (gi := 2) B rfl g_bool (by decide +kernel)) ax_nil)))))) (fun _ => rfl) rfl) (fun F H v e o c => R.rt F H v e o c)
theorem cal_p_is_integer {P : Program} {w : World} {K : PySem.W.Frag} {mg : Str → Option Value} {base : Heap} {f : Addr} {fd : FuncData} (Fn : Fun K "is_integer" "is_integer" s_p_is_integer f fd) (hmg : mg "is_integer" = some (.ref f)) (hb : Binds K fd ["value"] []) (g_isinstance : mg "isinstance" = none) (g_int : mg "int" = none) (g_bool : mg "bool" = none) : Cal P w K mg base 1 "is_integer" s_p_is_integer ["value"] (sp_p_is_integer K) := by
  obtain ⟨sts_, hst_⟩ : ∃ z_, defBody s_p_is_integer = z_ := ⟨_, rfl⟩
  exact cal_ZQ (V := V_p_is_integer) (Gs := G_p_is_integer) (nl := 0) hst_ Fn sc_p_is_integer (by decide +kernel) (by decide +kernel) hmg hb (fun _ => rfl) rfl fun _ _ _ _ _ _ _ a b F0 os D B T hm R => body_p_is_integer rfl hst_ B T g_isinstance g_int g_bool a b F0 os D hm R
abbrev s_p_is_letters : Stmt := top 12
def N_p_is_letters : List Str := ["value"]
def V_p_is_letters : List Str := ["value"]
def G_p_is_letters : List Str := ["is_integer", "MOST_LETTERS"]
theorem sc_p_is_letters : FnScope N_p_is_letters ["value"] (defScope s_p_is_letters) := ⟨rfl, rfl, rfl, by decide +kernel, rfl, by decide +kernel, by decide +kernel⟩
abbrev sp_p_is_letters (K : PySem.W.Frag) : Sp := spZ (α := Int) (β := Bool) (fun a => [(dat (PyData.int a))]) (fun a => []) (fun a => m_p_is_letters a) (fun a b => (dat (PyData.bool b))) (fun a b => [])
set_option maxHeartbeats 4000000 in
theorem body_p_is_letters {X : Cx} (hsc : X.env.scope = defScope s_p_is_letters) {sts_ : List Stmt} (hst_ : defBody s_p_is_letters = sts_) (B : Bd X N_p_is_letters V_p_is_letters G_p_is_letters 1) (T : Bt X V_p_is_letters) {tk_MOST_LETTERS : Tok} (c_p_is_integer : Cal X.prog X.w X.K X.mg X.base 1 "is_integer" s_p_is_integer ["value"] (sp_p_is_integer X.K)) (g_MOST_LETTERS : X.mg "MOST_LETTERS" = some (.int 4 tk_MOST_LETTERS)) (value : Int) (b : Bool) (F0 : Hp) (os : Os) (D : Ends) (hm : m_p_is_letters value = some b) (R : RetZ F0 (os) (dat (PyData.bool b)) D) :
    SX X [sl (dat (PyData.int value))] (os) F0 sts_ D := by
  subst hst_
  unfold m_p_is_letters at hm
  obtain ⟨t1, h1, hm⟩ := bnd hm
  obtain rfl := som hm
  exact sx_ret (ex_and (ex_call (a := value) (b := t1) (gi := 0) (rest := os) B rfl c_p_is_integer (by decide) h1 (ax_cons (ex_v (i := 0) (j := 0) B rfl rfl rfl) ax_nil)) (fun _ => (ex_one (ex_chain op_le op_le r2_le r2_le (fun _ => rfl) ex_int (ex_v (i := 0) (j := 0) B rfl rfl rfl) (fun _ => (ex_g (j := 1) B rfl g_MOST_LETTERS))))) (fun _ => rfl) rfl) (fun F H v e o c => R.rt F H v e o c)
theorem cal_p_is_letters {P : Program} {w : World} {K : PySem.W.Frag} {mg : Str → Option Value} {base : Heap} {f : Addr} {fd : FuncData} (Fn : Fun K "is_letters" "is_letters" s_p_is_letters f fd) (hmg : mg "is_letters" = some (.ref f)) (hb : Binds K fd ["value"] []) {tk_MOST_LETTERS : Tok} (c_p_is_integer : Cal P w K mg base 1 "is_integer" s_p_is_integer ["value"] (sp_p_is_integer K)) (g_MOST_LETTERS : mg "MOST_LETTERS" = some (.int 4 tk_MOST_LETTERS)) : Cal P w K mg base 2 "is_letters" s_p_is_letters ["value"] (sp_p_is_letters K) := by
  obtain ⟨sts_, hst_⟩ : ∃ z_, defBody s_p_is_letters = z_ := ⟨_, rfl⟩
  exact cal_ZQ (V := V_p_is_letters) (Gs := G_p_is_letters) (nl := 0) hst_ Fn sc_p_is_letters (by decide +kernel) (by decide +kernel) hmg hb (fun _ => rfl) rfl fun _ _ _ _ _ _ _ a b F0 os D B T hm R => body_p_is_letters rfl hst_ B T c_p_is_integer g_MOST_LETTERS a b F0 os D hm R
abbrev s_p_is_a_row : Stmt := top 13
def N_p_is_a_row : List Str := ["value", "letters", "rooms", "room"]
def V_p_is_a_row : List Str := ["value", "letters", "rooms"]
def G_p_is_a_row : List Str := ["isinstance", "tuple", "len", "all"]
theorem sc_p_is_a_row : FnScope N_p_is_a_row ["value", "letters", "rooms"] (defScope s_p_is_a_row) := ⟨rfl, rfl, rfl, by decide +kernel, rfl, by decide +kernel, by decide +kernel⟩
abbrev sp_p_is_a_row (K : PySem.W.Frag) : Sp := spZ (α := ((List Int) × Int × Int)) (β := Bool) (fun a => [(dat (PyData.tuple (List.map PyData.int a.1))), (dat (PyData.int a.2.1)), (dat (PyData.int a.2.2))]) (fun a => []) (fun a => m_p_is_a_row a.1 a.2.1 a.2.2) (fun a b => (dat (PyData.bool b))) (fun a b => [])
set_option maxHeartbeats 4000000 in
theorem body_p_is_a_row {X : Cx} (hsc : X.env.scope = defScope s_p_is_a_row) {sts_ : List Stmt} (hst_ : defBody s_p_is_a_row = sts_) (B : Bd X N_p_is_a_row V_p_is_a_row G_p_is_a_row 1) (T : Bt X V_p_is_a_row) (g_isinstance : X.mg "isinstance" = none) (g_tuple : X.mg "tuple" = none) (g_len : X.mg "len" = none) (g_all : X.mg "all" = none) (c_p_is_integer : Cal X.prog X.w X.K X.mg X.base 1 "is_integer" s_p_is_integer ["value"] (sp_p_is_integer X.K)) (value : (List Int)) (letters : Int) (rooms : Int) (b : Bool) (F0 : Hp) (os : Os) (D : Ends) (hm : m_p_is_a_row value letters rooms = some b) (R : RetZ F0 (os) (dat (PyData.bool b)) D) :
    SX X [sl (dat (PyData.tuple (List.map PyData.int value))), sl (dat (PyData.int letters)), sl (dat (PyData.int rooms)), un] (os) F0 sts_ D := by
  subst hst_
  unfold m_p_is_a_row at hm
  refine sx_if (WX.tx (wx_or (tx_not (tx_val (ex_fn (j := 0) B rfl g_isinstance (by decide +kernel) call_isi (rc_isi (d := (PyData.tuple (List.map PyData.int value))) (T := "tuple") (show kitB "tuple" "tuple" = some true by decide +kernel)) (ax_cons (ex_v (i := 0) (j := 0) B rfl rfl rfl) (ax_cons (ex_tyname (T := "tuple") (gi := 1) B rfl g_tuple (by decide +kernel)) ax_nil))) (by intro _; rfl))) (fun _ => (wx_or1 (tx_cmp op_ne r2_neI (nomark _) (EX.to (ex_fn (j := 2) B rfl g_len (by decide +kernel) call_len_seq (rc_lenT (ds := List.map PyData.int value) rdt_dat) (ax_cons (ex_v (i := 0) (j := 0) B rfl rfl rfl) ax_nil)) (by rw [List.length_map])) (ex_v (i := 1) (j := 1) B rfl rfl rfl)))) (fun _ => rfl) rfl)) (fun hk => ?_) (fun hk => ?_)
  · have hm := ifT hm hk
    obtain rfl := som hm
    exact sx_ret ex_bool (fun F H v e o c => R.rt F H v e o c)
  · have hm := ifF hm hk
    refine sx_fall ?_ rfl
    obtain ⟨t4, h4, hm⟩ := bnd hm
    obtain rfl := som hm
    exact sx_ret (ex_fn (j := 3) B rfl g_all (by decide +kernel) (cr_all B.calm) (rc_all rdl_dat) (ax_cons (EN.ex (en_lc (lc_mk1 (j := 3) (vp := fun room1 => (dat (PyData.int room1))) (c := anyOs) (enc := PyData.bool) (fun (_ : Unit) (room1 : Int) => ((fun (room1 : Int) => ((m_p_is_integer room1).bind fun t3 => some (t3 && (decide ((-1) ≤ room1) && decide (room1 < rooms))))) room1).map fun y => (some y, ())) (fun (_ : Unit) (tl1 : Os) => tl1) () (t4) () B rfl rfl (by rw [B.hN, hsc]; decide +kernel) (by rw [hsc]; decide +kernel) (by decide) (lcO_ok h4) (ix_tup (enc := PyData.int) (ex_v (i := 0) (j := 0) B rfl rfl rfl) rdt_dat) (fun _ _ => trivial) (fun _ _ _ => List.Perm.refl _) (fun _ room1 t tl1 hx hf => by (obtain ⟨y, hy, rfl⟩ := Option.map_eq_some_iff.mp hf; obtain ⟨t3, h3, hy⟩ := bnd hy; obtain rfl := som hy; exact ⟨true, _, fun X1 hX => by (have B1 := Bd.fam (W' := ["rooms", "room"]) (G' := ["is_integer"]) B hX (by (try rw [hsc]); decide +kernel); have c_p_is_integer' := fam_cal hX c_p_is_integer; exact ⟨.nil, fun _ => ⟨_, rfl, (ex_and (ex_call (a := room1) (b := t3) (gi := 0) (rest := tl1) B1 rfl c_p_is_integer' (by decide) h3 (ax_cons (ex_v (i := 3) (j := 1) B1 rfl rfl rfl) ax_nil)) (fun _ => (ex_one (ex_chain op_le op_lt r2_le r2_lt (fun _ => rfl) (ex_neg ex_int) (ex_v (i := 3) (j := 1) B1 rfl rfl rfl) (fun _ => (ex_v (i := 2) (j := 0) B1 rfl rfl rfl))))) (fun _ => rfl) rfl)⟩, fun h => Bool.noConfusion h⟩)⟩))))) ax_nil)) (fun F H v e o c => R.rt F H v e o c)
theorem cal_p_is_a_row {P : Program} {w : World} {K : PySem.W.Frag} {mg : Str → Option Value} {base : Heap} {f : Addr} {fd : FuncData} (Fn : Fun K "is_a_row" "is_a_row" s_p_is_a_row f fd) (hmg : mg "is_a_row" = some (.ref f)) (hb : Binds K fd ["value", "letters", "rooms"] []) (g_isinstance : mg "isinstance" = none) (g_tuple : mg "tuple" = none) (g_len : mg "len" = none) (g_all : mg "all" = none) (c_p_is_integer : Cal P w K mg base 1 "is_integer" s_p_is_integer ["value"] (sp_p_is_integer K)) : Cal P w K mg base 2 "is_a_row" s_p_is_a_row ["value", "letters", "rooms"] (sp_p_is_a_row K) := by
  obtain ⟨sts_, hst_⟩ : ∃ z_, defBody s_p_is_a_row = z_ := ⟨_, rfl⟩
  exact cal_ZQ (V := V_p_is_a_row) (Gs := G_p_is_a_row) (nl := 1) hst_ Fn sc_p_is_a_row (by decide +kernel) (by decide +kernel) hmg hb (fun _ => rfl) rfl fun _ _ _ _ _ _ _ a b F0 os D B T hm R => body_p_is_a_row rfl hst_ B T g_isinstance g_tuple g_len g_all c_p_is_integer a.1 a.2.1 a.2.2 b F0 os D hm R
abbrev s_p_doors_of : Stmt := top 14
def N_p_doors_of : List Str := ["rows", "found", "room", "row", "at", "goal"]
def V_p_doors_of : List Str := ["rows", "found", "room", "row", "at", "goal"]
def G_p_doors_of : List Str := ["enumerate"]
theorem sc_p_doors_of : FnScope N_p_doors_of ["rows"] (defScope s_p_doors_of) := ⟨rfl, rfl, rfl, by decide +kernel, rfl, by decide +kernel, by decide +kernel⟩
abbrev sp_p_doors_of (K : PySem.W.Frag) : Sp := spZ (α := (List (List Int))) (β := (List (List (Int × Int)))) (fun a => [(dat (PyData.tuple (List.map (eT PyData.int) a)))]) (fun a => []) (fun a => m_p_doors_of a) (fun a b => (dat (PyData.list (List.map (eD kI PyData.int) b)))) (fun a b => [])
set_option maxHeartbeats 4000000 in
theorem body_p_doors_of {X : Cx} (hsc : X.env.scope = defScope s_p_doors_of) {sts_ : List Stmt} (hst_ : defBody s_p_doors_of = sts_) (B : Bd X N_p_doors_of V_p_doors_of G_p_doors_of 0) (T : Bt X V_p_doors_of) (g_enumerate : X.mg "enumerate" = none) (rows : (List (List Int))) (b : (List (List (Int × Int)))) (F0 : Hp) (os : Os) (D : Ends) (hm : m_p_doors_of rows = some b) (R : RetZ F0 (os) (dat (PyData.list (List.map (eD kI PyData.int) b))) D) :
    SX X [sl (dat (PyData.tuple (List.map (eT PyData.int) rows))), un, un, un, un, un] (os) F0 sts_ D := by
  subst hst_
  unfold m_p_doors_of at hm
  obtain ⟨z2, h3, hm⟩ := bnd hm
  obtain ⟨t4, h4, hm⟩ := bnd hm
  refine sx_asgLcN (i := 1) B T rfl (by rw [hsc]; exact lcl_of (by decide +kernel)) (f := (odT kI PyData.int)) (m := (fun (row1 : (List Int)) => (some ([] : (List (Int × Int))) : Option (List (Int × Int)))))  (cp_mk1 (j := 3) (vp := fun row1 => (dat (PyData.tuple (List.map PyData.int row1)))) (c := anyOs) B rfl rfl (by rw [B.hN, hsc]; decide +kernel) (by rw [hsc]; decide +kernel) (lenO_ok h3) (ix_tup (enc := (eT PyData.int)) (ex_v (i := 0) (j := 0) B rfl rfl rfl) rdt_dat) (fun _ => trivial)) h4 (fun row1 t q1 hx hf X1 hX => by (obtain rfl := som hf; have B1 := Bd.fam (W' := []) (G' := []) B hX (by (try rw [hsc]); decide +kernel); exact (en_dnew (kd := kI)))) (sw_ok (by rw [hsc]; decide +kernel) (by rw [hsc]; exact lcl_of (by decide +kernel)) (by decide) (by decide +kernel)) (fun q_found4 => ?_)
  refine sx_open 0 rfl (fun k_5 => ?_)
  obtain ⟨f8, h23, hm⟩ := bnd hm
  refine sx_for (c := anyOs) _ (fun (s6 : (List (List (Int × Int)))) (_ : Unit) => [sl (dat (PyData.tuple (List.map (eT PyData.int) rows))), sl (own q_found4), un, un, un, un]) (fun (s6 : (List (List (Int × Int)))) (_ : Unit) => (q_found4, onl k_5 (List.map (odT kI PyData.int) s6)) :: os) B T (fun x7 => gx_pair B (gx_name (i := 2) (vi := 2) (φ := (dat (PyData.int x7.1))) B T rfl rfl) (gx_name (i := 3) (vi := 3) (φ := (dat (PyData.tuple (List.map PyData.int x7.2)))) B T rfl rfl)) t4 () f8 h23 (ix_enumT (enc := (eT PyData.int)) (gi := 0) B rfl g_enumerate (ex_v (i := 0) (j := 0) B rfl rfl rfl) rdt_dat) ⟨.inl rfl, .inl rfl, .inl rfl, .inl rfl, .inl rfl, .inl rfl, trivial⟩ (fun _ _ => trivial) (fun F10 e9 s6 _ x7 z24 hx hm => ?_) (fun _ => ?_)
  · clear h23
    obtain ⟨f13, h21, hm⟩ := bnd hm
    refine sx_for (c := anyOs) _ (fun (s11 : (List (List (Int × Int)))) (_ : Unit) => [sl (dat (PyData.tuple (List.map (eT PyData.int) rows))), sl (own q_found4), sl (dat (PyData.int x7.1)), sl (dat (PyData.tuple (List.map PyData.int x7.2))), un, un]) (fun (s11 : (List (List (Int × Int)))) (_ : Unit) => (q_found4, onl k_5 (List.map (odT kI PyData.int) s11)) :: os) B T (fun x12 => gx_pair B (gx_name (i := 4) (vi := 4) (φ := (dat (PyData.int x12.1))) B T rfl rfl) (gx_name (i := 5) (vi := 5) (φ := (dat (PyData.int x12.2))) B T rfl rfl)) s6 () f13 h21 (ix_enumT (enc := PyData.int) (gi := 0) B rfl g_enumerate (ex_v (i := 3) (j := 3) B rfl rfl rfl) rdt_dat) ⟨.inl rfl, .inl rfl, .inl rfl, .inl rfl, .inl rfl, .inl rfl, trivial⟩ (fun _ _ => trivial) (fun F15 e14 s11 _ x12 z22 hx hm => ?_) (fun _ => ?_)
    · clear h21
      obtain ⟨s20, h_s20, hm⟩ := bnd hm
      refine sx_join [sl (dat (PyData.tuple (List.map (eT PyData.int) rows))), sl (own q_found4), sl (dat (PyData.int x7.1)), sl (dat (PyData.tuple (List.map PyData.int x7.2))), sl (dat (PyData.int x12.1)), sl (dat (PyData.int x12.2))] ((q_found4, onl k_5 (List.map (odT kI PyData.int) s20)) :: os) (?_) (fun Q => ?_)
      · clear h_s20
        obtain rfl := som hm
        exact sx_nil fun σ H a => ⟨(), (a.weak ⟨.inl rfl, .inl rfl, .inl rfl, .inl rfl, .inr rfl, .inr rfl, trivial⟩)⟩
      · have hm := h_s20
        refine sx_if (tx_cmp op_ge r2_ge (nomark _) (ex_v (i := 5) (j := 5) B rfl rfl rfl) ex_int) (fun hk => ?_) (fun hk => ?_)
        · have hm := ifT hm hk
          obtain ⟨t16, h16, hm⟩ := bnd hm
          obtain ⟨t17, h17, hm⟩ := bnd hm
          refine sx_dput (kd := kI) (enc := PyData.int) (w := t16) (x := x12.2) inj_kI h17 B (ex_v (i := 5) (j := 5) B rfl rfl rfl) (ex_nst (f := (odT kI PyData.int)) (ws := s11) 0 h16 rfl (ex_v (i := 1) (j := 1) B rfl rfl rfl) (ex_v (i := 2) (j := 2) B rfl rfl rfl)) (ex_add (ex_v (i := 4) (j := 4) B rfl rfl rfl) ex_int) (wr_nest (f := (odT kI PyData.int)) (ws := s11) 0 rfl h16) ?_
          obtain ⟨t18, h18, hm⟩ := bnd hm
          obtain ⟨t19, h19, hm⟩ := bnd hm
          refine sx_dput (kd := kI) (enc := PyData.int) (w := t18) (x := x7.1) inj_kI h19 B (ex_v (i := 2) (j := 2) B rfl rfl rfl) (ex_nst (f := (odT kI PyData.int)) (ws := (setI s11 x7.1 t17)) 0 h18 rfl (ex_v (i := 1) (j := 1) B rfl rfl rfl) (ex_v (i := 5) (j := 5) B rfl rfl rfl)) (ex_sub (ex_neg (ex_v (i := 4) (j := 4) B rfl rfl rfl)) ex_int) (wr_nest (f := (odT kI PyData.int)) (ws := (setI s11 x7.1 t17)) 0 rfl h18) ?_
          obtain rfl := som hm
          exact sx_fall Q rfl
        · have hm := ifF hm hk
          obtain rfl := som hm
          exact sx_fall Q rfl
    · skip
      obtain rfl := som hm
      exact sx_nil fun σ H a => ⟨(), (a.weak ⟨.inl rfl, .inl rfl, .inr rfl, .inr rfl, .inl rfl, .inl rfl, trivial⟩)⟩
  · skip
    refine sx_frzF (j := 0) (i := 1) (frb_onl (fun _ => frb_od)) rfl rfl ?_
    obtain rfl := som hm
    exact sx_ret (ex_v (i := 1) (j := 1) B rfl rfl rfl) (fun F H v e o c => R.rt F H v e o c)
theorem cal_p_doors_of {P : Program} {w : World} {K : PySem.W.Frag} {mg : Str → Option Value} {base : Heap} {f : Addr} {fd : FuncData} (Fn : Fun K "doors_of" "doors_of" s_p_doors_of f fd) (hmg : mg "doors_of" = some (.ref f)) (hb : Binds K fd ["rows"] []) (g_enumerate : mg "enumerate" = none) : Cal P w K mg base 1 "doors_of" s_p_doors_of ["rows"] (sp_p_doors_of K) := by
  obtain ⟨sts_, hst_⟩ : ∃ z_, defBody s_p_doors_of = z_ := ⟨_, rfl⟩
  exact cal_ZQ (V := V_p_doors_of) (Gs := G_p_doors_of) (nl := 5) hst_ Fn sc_p_doors_of (by decide +kernel) (by decide +kernel) hmg hb (fun _ => rfl) rfl fun _ _ _ _ _ _ _ a b F0 os D B T hm R => body_p_doors_of rfl hst_ B T g_enumerate a b F0 os D hm R
abbrev s_p_is_one_way : Stmt := top 15
def N_p_is_one_way : List Str := ["rows", "letters", "at", "goals", "row"]
def V_p_is_one_way : List Str := ["rows", "letters", "at", "goals"]
def G_p_is_one_way : List Str := ["range", "len", "set"]
theorem sc_p_is_one_way : FnScope N_p_is_one_way ["rows", "letters"] (defScope s_p_is_one_way) := ⟨rfl, rfl, rfl, by decide +kernel, rfl, by decide +kernel, by decide +kernel⟩
abbrev sp_p_is_one_way (K : PySem.W.Frag) : Sp := spZ (α := ((List (List Int)) × Int)) (β := Bool) (fun a => [(dat (PyData.tuple (List.map (eT PyData.int) a.1))), (dat (PyData.int a.2))]) (fun a => []) (fun a => m_p_is_one_way a.1 a.2) (fun a b => (dat (PyData.bool b))) (fun a b => [])
set_option maxHeartbeats 4000000 in
theorem body_p_is_one_way {X : Cx} (hsc : X.env.scope = defScope s_p_is_one_way) {sts_ : List Stmt} (hst_ : defBody s_p_is_one_way = sts_) (B : Bd X N_p_is_one_way V_p_is_one_way G_p_is_one_way 0) (T : Bt X V_p_is_one_way) (g_range : X.mg "range" = none) (g_len : X.mg "len" = none) (g_set : X.mg "set" = none) (rows : (List (List Int))) (letters : Int) (b : Bool) (F0 : Hp) (os : Os) (D : Ends) (hm : m_p_is_one_way rows letters = some b) (R : RetZ F0 (os) (dat (PyData.bool b)) D) :
    SX X [sl (dat (PyData.tuple (List.map (eT PyData.int) rows))), sl (dat (PyData.int letters)), un, un, un] (os) F0 sts_ D := by
  subst hst_
  unfold m_p_is_one_way at hm
  obtain ⟨t1, h1, hm⟩ := bnd hm
  obtain ⟨f4o, h13, hm⟩ := bnd hm
  refine sx_forR (c := anyOs) _ (fun (s2 : Unit) (_ : Unit) => [sl (dat (PyData.tuple (List.map (eT PyData.int) rows))), sl (dat (PyData.int letters)), un, un, un]) (fun (s2 : Unit) (_ : Unit) => os) (fun (r : Bool) v H => ∃ F, Same F0 F ∧ Ow F (os) H ∧ Cl (dat (PyData.bool r)) F v) B T (fun at_3 => gx_name (i := 2) (vi := 2) (φ := (dat (PyData.int at_3))) B T rfl rfl) () () f4o h13 (ix_rng1 (gi := 0) B rfl g_range h1 (ex_v (i := 1) (j := 1) B rfl rfl rfl)) ⟨.inl rfl, .inl rfl, .inl rfl, .inl rfl, .inl rfl, trivial⟩ (fun _ _ => trivial) (fun F6 e5 s2 _ at_3 z15 hx hm2 => ?_) (fun f4 _ ho => ?_) (fun r14 v H ho hr => ?_)
  · clear hm h13
    have hm := hm2
    obtain ⟨t11, h11, hm⟩ := bnd hm
    refine sx_asgLc (i := 3) B T rfl (by rw [hsc]; exact lcl_of (by decide +kernel)) (lc_mk1 (j := 4) (vp := fun row7 => (dat (PyData.tuple (List.map PyData.int row7)))) (c := anyOs) (enc := PyData.int) (fun (_ : Unit) (row7 : (List Int)) => ((fun (row7 : (List Int)) => ((idx row7 at_3).bind fun t9 => if (decide (0 ≤ t9)) = true then ((idx row7 at_3).bind fun t10 => some (some t10)) else some none)) row7).map fun y => (y, ())) (fun (_ : Unit) (tl1 : Os) => tl1) () (t11) () B rfl rfl (by rw [B.hN, hsc]; decide +kernel) (by rw [hsc]; decide +kernel) (by decide) (lcG_ok h11) (ix_tup (enc := (eT PyData.int)) (ex_v (i := 0) (j := 0) B rfl rfl rfl) rdt_dat) (fun _ _ => trivial) (fun _ _ _ => List.Perm.refl _) (fun _ row7 t tl1 hx hf => by (obtain ⟨y, hy, rfl⟩ := Option.map_eq_some_iff.mp hf; obtain ⟨t9, h9, hy⟩ := bnd hy; cases hc : (decide (0 ≤ t9)) with | true => (have hy := ifT hy hc; obtain ⟨t10, h10, hy⟩ := bnd hy; obtain rfl := som hy; exact ⟨true, _, fun X1 hX => by (have B1 := Bd.fam (W' := ["at", "row"]) (G' := []) B hX (by (try rw [hsc]); decide +kernel); exact ⟨.one (TX.to (tx_cmp op_ge r2_ge (nomark _) (ex_idxT (enc := PyData.int) h9 rdt_dat (ex_v (i := 4) (j := 1) B1 rfl rfl rfl) (ex_v (i := 2) (j := 0) B1 rfl rfl rfl)) ex_int) hc), fun _ => ⟨_, rfl, (ex_idxT (enc := PyData.int) h10 rdt_dat (ex_v (i := 4) (j := 1) B1 rfl rfl rfl) (ex_v (i := 2) (j := 0) B1 rfl rfl rfl))⟩, fun h => Bool.noConfusion h⟩)⟩) | false => (have hy := ifF hy hc; obtain rfl := som hy; exact ⟨false, _, fun X1 hX => by (have B1 := Bd.fam (W' := ["at", "row"]) (G' := []) B hX (by (try rw [hsc]); decide +kernel); exact ⟨.one (TX.to (tx_cmp op_ge r2_ge (nomark _) (ex_idxT (enc := PyData.int) h9 rdt_dat (ex_v (i := 4) (j := 1) B1 rfl rfl rfl) (ex_v (i := 2) (j := 0) B1 rfl rfl rfl)) ex_int) hc), fun h => Bool.noConfusion h, fun _ => ⟨rfl, rfl⟩⟩)⟩)))) (sw_ok (by rw [hsc]; decide +kernel) (by rw [hsc]; exact lcl_of (by decide +kernel)) (by decide) (by decide +kernel)) (fun q_goals11 => ?_)
    refine sx_frz (j := 0) (i := 3) rfl rfl ?_
    obtain ⟨t12, h12, hm⟩ := bnd hm
    refine sx_if (tx_cmp op_lt r2_lt (nomark _) (ex_lenSet (gi := 1) (gj := 2) B rfl g_len rfl g_set h12 rdl_dat (ex_v (i := 3) (j := 3) B rfl rfl rfl)) (EX.to (ex_fn (j := 1) B rfl g_len (by decide +kernel) call_len_seq (rc_lenL (ds := List.map PyData.int t11) rdl_dat) (ax_cons (ex_v (i := 3) (j := 3) B rfl rfl rfl) ax_nil)) (by rw [List.length_map]))) (fun hk => ?_) (fun hk => ?_)
    · have hm := ifT hm hk
      exact sx_ret ex_bool (fun F H v e o c => ⟨_, (som hm).symm, F, (e5.trans e), o, c⟩)
    · have hm := ifF hm hk
      refine sx_fall ?_ rfl
      exact sx_nil fun σ H a => ⟨_, (), (som hm).symm, (a.weak ⟨.inl rfl, .inl rfl, .inr rfl, .inr rfl, .inl rfl, trivial⟩)⟩
  · cases ho
    have hm := elimR hm
    obtain rfl := som hm
    exact sx_ret ex_bool (fun F H v e o c => R.rt F H v e o c)
  · cases ho
    have hm := elimL hm
    obtain rfl := som hm
    obtain ⟨F, e, o, c⟩ := hr
    exact R.rt F H v e o c
theorem cal_p_is_one_way {P : Program} {w : World} {K : PySem.W.Frag} {mg : Str → Option Value} {base : Heap} {f : Addr} {fd : FuncData} (Fn : Fun K "is_one_way" "is_one_way" s_p_is_one_way f fd) (hmg : mg "is_one_way" = some (.ref f)) (hb : Binds K fd ["rows", "letters"] []) (g_range : mg "range" = none) (g_len : mg "len" = none) (g_set : mg "set" = none) : Cal P w K mg base 1 "is_one_way" s_p_is_one_way ["rows", "letters"] (sp_p_is_one_way K) := by
  obtain ⟨sts_, hst_⟩ : ∃ z_, defBody s_p_is_one_way = z_ := ⟨_, rfl⟩
  exact cal_ZQ (V := V_p_is_one_way) (Gs := G_p_is_one_way) (nl := 3) hst_ Fn sc_p_is_one_way (by decide +kernel) (by decide +kernel) hmg hb (fun _ => rfl) rfl fun _ _ _ _ _ _ _ a b F0 os D B T hm R => body_p_is_one_way rfl hst_ B T g_range g_len g_set a.1 a.2 b F0 os D hm R
abbrev s_p_first_order : Stmt := top 16
def N_p_first_order : List Str := ["letters", "doors", "home", "order", "met", "at", "step", "goal"]
def V_p_first_order : List Str := ["letters", "doors", "home", "order", "met", "at", "step", "goal"]
def G_p_first_order : List Str := ["len", "steps_of"]
theorem sc_p_first_order : FnScope N_p_first_order ["letters", "doors", "home"] (defScope s_p_first_order) := ⟨rfl, rfl, rfl, by decide +kernel, rfl, by decide +kernel, by decide +kernel⟩
abbrev sp_p_first_order (K : PySem.W.Frag) : Sp := spZ (α := (Int × (List (List (Int × Int))) × Int)) (β := (List Int)) (fun a => [(dat (PyData.int a.1)), (dat (PyData.list (List.map (eD kI PyData.int) a.2.1))), (dat (PyData.int a.2.2))]) (fun a => []) (fun a => m_p_first_order a.1 a.2.1 a.2.2) (fun a b => (dat (PyData.list (List.map PyData.int b)))) (fun a b => [])
set_option maxHeartbeats 4000000 in
theorem body_p_first_order {X : Cx} (hsc : X.env.scope = defScope s_p_first_order) {sts_ : List Stmt} (hst_ : defBody s_p_first_order = sts_) (B : Bd X N_p_first_order V_p_first_order G_p_first_order 1) (T : Bt X V_p_first_order) (g_len : X.mg "len" = none) (c_p_steps_of : Cal X.prog X.w X.K X.mg X.base 1 "steps_of" s_p_steps_of ["letters"] (sp_p_steps_of X.K)) (letters : Int) (doors : (List (List (Int × Int)))) (home : Int) (b : (List Int)) (F0 : Hp) (os : Os) (D : Ends) (hm : m_p_first_order letters doors home = some b) (R : RetZ F0 (os) (dat (PyData.list (List.map PyData.int b))) D) :
    SX X [sl (dat (PyData.int letters)), sl (dat (PyData.list (List.map (eD kI PyData.int) doors))), sl (dat (PyData.int home)), un, un, un, un, un] (os) F0 sts_ D := by
  subst hst_
  unfold m_p_first_order at hm
  refine sx_par3 (i := 3) (j := 4) (l := 5) _ hsc B rfl rfl rfl (by decide) (by decide) (by decide) (by decide +kernel) (by decide +kernel) (by decide +kernel) (by intro env he; cases env; cases he; first | rfl | kernel_rfl) (aq_n (n := ol (List.map PyData.int ([home]))) (en_lst (ds := [(PyData.int home)]) (hl := len_ok (n := 1) rfl) (ax_cons (ex_v (i := 2) (j := 2) B rfl rfl rfl) ax_nil)) (fun q_order1 => (aq_n (n := od kI (eM PyData.bool ([(home, true)]))) (en_disp1 (f := Sum.inl) (enc := PyData.bool) (k' := home) (x' := true) inj_kI (fun qd => (ex_v (i := 2) (j := 2) B rfl rfl rfl)) (fun qd => ex_bool)) (fun q_met2 => (aq_x (φ := (dat (PyData.int 0))) ex_int aq_nil))))) (fun v0 v1 v2 os_ hr_ => ?_) (by rintro φs os_ ⟨q_order1, _, rfl, q_met2, _, rfl, _, rfl, rfl, rfl⟩; exact ⟨_, _, _, rfl⟩)
  obtain ⟨q_order1, _, e0, q_met2, _, e1, _, e2, e8, e9⟩ := hr_
  cases e0; cases e1; cases e2; cases e8; cases e9
  obtain ⟨f4o, h22, hm⟩ := bnd hm
  refine sx_while _ _ (fun (s3 : (Int × (List (Int × Bool)) × (List Int))) (_ : Unit) => [sl (dat (PyData.int letters)), sl (dat (PyData.list (List.map (eD kI PyData.int) doors))), sl (dat (PyData.int home)), sl (own q_order1), sl (own q_met2), sl (dat (PyData.int s3.1)), un, un]) (fun (s3 : (Int × (List (Int × Bool)) × (List Int))) (_ : Unit) => (q_met2, od kI (eM PyData.bool s3.2.1)) :: (q_order1, ol (List.map PyData.int s3.2.2)) :: os) (fun (r : (List Int)) v H => ∃ F, Same F0 F ∧ Ow F (os) H ∧ Cl (dat (PyData.list (List.map PyData.int r))) F v) T 10000 (0, [(home, true)], [home]) () f4o h22 ⟨.inl rfl, .inl rfl, .inl rfl, .inl rfl, .inl rfl, .inl rfl, .inl rfl, .inl rfl, trivial⟩ rfl (fun s3 _ b hm => by (obtain rfl := som hm; exact (tx_cmp op_lt r2_lt (nomark _) (ex_v (i := 5) (j := 5) B rfl rfl rfl) (EX.to (ex_fn (j := 0) B rfl g_len (by decide +kernel) call_len_seq (rc_lenL (ds := List.map PyData.int s3.2.2) (rdl_own 1 rfl)) (ax_cons (ex_v (i := 3) (j := 3) B rfl rfl rfl) ax_nil)) (by rw [List.length_map]))))) (fun F6 e5 s3 _ z23 _ hm => ?_) (fun f4 _ ho => ?_) (fun r21 v H ho hr => ?_)
  · clear h22
    obtain ⟨t7, h7, hm⟩ := bnd hm
    obtain ⟨f10, h19, hm⟩ := bnd hm
    refine sx_for (c := anyOs) _ (fun (s8 : ((List (Int × Bool)) × (List Int))) (_ : Unit) => [sl (dat (PyData.int letters)), sl (dat (PyData.list (List.map (eD kI PyData.int) doors))), sl (dat (PyData.int home)), sl (own q_order1), sl (own q_met2), sl (dat (PyData.int s3.1)), un, un]) (fun (s8 : ((List (Int × Bool)) × (List Int))) (_ : Unit) => (q_met2, od kI (eM PyData.bool s8.1)) :: (q_order1, ol (List.map PyData.int s8.2)) :: os) B T (fun step9 => gx_name (i := 6) (vi := 6) (φ := (dat (PyData.int step9))) B T rfl rfl) (s3.2.1, s3.2.2) () f10 h19 (ix_list (enc := PyData.int) (c := anyOs) (ex_call (a := letters) (b := t7) (gi := 1) (rest := (q_met2, od kI (eM PyData.bool s3.2.1)) :: (q_order1, ol (List.map PyData.int s3.2.2)) :: os) B rfl c_p_steps_of (by decide) h7 (ax_cons (ex_v (i := 0) (j := 0) B rfl rfl rfl) ax_nil)) (fun _ _ => rdl_dat) trivial) ⟨.inl rfl, .inl rfl, .inl rfl, .inl rfl, .inl rfl, .inl rfl, .inl rfl, .inl rfl, trivial⟩ (fun _ _ => trivial) (fun F12 e11 s8 _ step9 z20 hx hm => ?_) (fun _ => ?_)
    · clear h19
      obtain ⟨t13, h13, hm⟩ := bnd hm
      obtain ⟨t14, h14, hm⟩ := bnd hm
      refine sx_asg (i := 7) (vi := 7) (φ := (dat ((eO PyData.int) (dGet t14 step9)))) B T rfl rfl (ex_dget1 (kd := kI) (enc := PyData.int) (w := t14) (k := step9) inj_kI B rdd_dat rdd_dat (ex_idxL (enc := (eD kI PyData.int)) h14 rdl_dat (ex_v (i := 1) (j := 1) B rfl rfl rfl) (ex_idxL (enc := PyData.int) h13 (rdl_own 1 rfl) (ex_v (i := 3) (j := 3) B rfl rfl rfl) (ex_v (i := 5) (j := 5) B rfl rfl rfl))) (ex_v (i := 6) (j := 6) B rfl rfl rfl)) ?_
      cases hq18 : (dGet t14 step9) with
      | none =>
        rw [hq18] at hm
        refine sx_if (WX.tx (wx_and (l := false) (tx_cmp op_notN (r2_notN (d := PyData.none) (t := false) rfl) (nomark _) (ex_v (i := 7) (j := 7) B rfl rfl rfl) ex_none) (fun hk => Bool.noConfusion hk) (fun _ => rfl) rfl)) (fun hk => Bool.noConfusion hk) (fun _ => ?_)
        refine sx_fall ?_ rfl
        obtain rfl := som hm
        exact sx_nil fun σ H a => ⟨(), (a.weak ⟨.inl rfl, .inl rfl, .inl rfl, .inl rfl, .inl rfl, .inl rfl, .inr rfl, .inr rfl, trivial⟩)⟩
      | some goal15 =>
        rw [hq18] at hm
        obtain ⟨s18, h_s18, hm⟩ := bnd hm
        refine sx_join [sl (dat (PyData.int letters)), sl (dat (PyData.list (List.map (eD kI PyData.int) doors))), sl (dat (PyData.int home)), sl (own q_order1), sl (own q_met2), sl (dat (PyData.int s3.1)), sl (dat (PyData.int step9)), sl (dat (PyData.int goal15))] ((q_met2, od kI (eM PyData.bool s18.1)) :: (q_order1, ol (List.map PyData.int s18.2)) :: os) (?_) (fun Q => ?_)
        · clear h_s18
          obtain rfl := som hm
          exact sx_nil fun σ H a => ⟨(), (a.weak ⟨.inl rfl, .inl rfl, .inl rfl, .inl rfl, .inl rfl, .inl rfl, .inr rfl, .inr rfl, trivial⟩)⟩
        · have hm := h_s18
          refine sx_if (WX.tx (wx_and (tx_cmp op_notN (r2_notN (d := (PyData.int goal15)) (t := true) rfl) (nomark _) (ex_v (i := 7) (j := 7) B rfl rfl rfl) ex_none) (fun _ => (wx_and1 (tx_dnotin (kd := kI) (enc := PyData.bool) (w := s8.1) (k := goal15) inj_kI B (rdd_own 0 rfl) (ex_v (i := 7) (j := 7) B rfl rfl rfl) (ex_v (i := 4) (j := 4) B rfl rfl rfl)))) (fun _ => rfl) rfl)) (fun hk => ?_) (fun hk => ?_)
          · have hm := ifT hm hk
            obtain ⟨t16, h16, hm⟩ := bnd hm
            refine sx_dput (kd := kI) (enc := PyData.bool) (w := s8.1) (x := true) inj_kI h16 B ex_bool (ex_v (i := 4) (j := 4) B rfl rfl rfl) (ex_v (i := 7) (j := 7) B rfl rfl rfl) (wr_flat (f := (odT kI PyData.bool)) (d := s8.1) 0 rfl) ?_
            obtain ⟨t17, h17, hm⟩ := bnd hm
            refine sx_expr (ex_app (enc := PyData.int) (j := 1) (xs0 := s8.2) (xs := s8.2) (y := goal15) h17 (ex_v (i := 3) (j := 3) B rfl rfl rfl) rfl (ex_v (i := 7) (j := 7) B rfl rfl rfl) rfl) ?_
            obtain rfl := som hm
            exact sx_fall Q rfl
          · have hm := ifF hm hk
            obtain rfl := som hm
            exact sx_fall Q rfl
    · skip
      refine sx_addI (i := 5) (vi := 5) B T rfl rfl rfl ex_int ?_
      exact sx_nil fun σ H a => ⟨_, (), (som hm).symm, (a.weak ⟨.inl rfl, .inl rfl, .inl rfl, .inl rfl, .inl rfl, .inl rfl, .inl rfl, .inl rfl, trivial⟩)⟩
  · cases ho
    have hm := elimR hm
    refine sx_frz (j := 1) (i := 3) rfl rfl ?_
    obtain rfl := som hm
    exact sx_ret (ex_v (i := 3) (j := 3) B rfl rfl rfl) (fun F H v e o c => R.rt F H v e (o.drop) c)
  · cases ho
    have hm := elimL hm
    cases hm
theorem cal_p_first_order {P : Program} {w : World} {K : PySem.W.Frag} {mg : Str → Option Value} {base : Heap} {f : Addr} {fd : FuncData} (Fn : Fun K "first_order" "first_order" s_p_first_order f fd) (hmg : mg "first_order" = some (.ref f)) (hb : Binds K fd ["letters", "doors", "home"] []) (g_len : mg "len" = none) (c_p_steps_of : Cal P w K mg base 1 "steps_of" s_p_steps_of ["letters"] (sp_p_steps_of K)) : Cal P w K mg base 2 "first_order" s_p_first_order ["letters", "doors", "home"] (sp_p_first_order K) := by
  obtain ⟨sts_, hst_⟩ : ∃ z_, defBody s_p_first_order = z_ := ⟨_, rfl⟩
  exact cal_ZQ (V := V_p_first_order) (Gs := G_p_first_order) (nl := 5) hst_ Fn sc_p_first_order (by decide +kernel) (by decide +kernel) hmg hb (fun _ => rfl) rfl fun _ _ _ _ _ _ _ a b F0 os D B T hm R => body_p_first_order rfl hst_ B T g_len c_p_steps_of a.1 a.2.1 a.2.2 b F0 os D hm R
abbrev s_p_is_a_web : Stmt := top 17
def N_p_is_a_web : List Str := ["value", "letters", "rows", "doors", "row", "steps"]
def V_p_is_a_web : List Str := ["value", "letters", "rows", "doors"]
def G_p_is_a_web : List Str := ["isinstance", "tuple", "len", "is_letters", "all", "is_one_way", "doors_of", "any", "first_order", "list", "range"]
theorem sc_p_is_a_web : FnScope N_p_is_a_web ["value"] (defScope s_p_is_a_web) := ⟨rfl, rfl, rfl, by decide +kernel, rfl, by decide +kernel, by decide +kernel⟩
abbrev sp_p_is_a_web (K : PySem.W.Frag) : Sp := spZ (α := (Int × (List (List Int)))) (β := Bool) (fun a => [(dat (PyData.tuple [(PyData.int a.1), (PyData.tuple (List.map (eT PyData.int) a.2))]))]) (fun a => []) (fun a => m_p_is_a_web a) (fun a b => (dat (PyData.bool b))) (fun a b => [])
set_option maxHeartbeats 4000000 in
theorem body_p_is_a_web {X : Cx} (hsc : X.env.scope = defScope s_p_is_a_web) {sts_ : List Stmt} (hst_ : defBody s_p_is_a_web = sts_) (B : Bd X N_p_is_a_web V_p_is_a_web G_p_is_a_web 2) (T : Bt X V_p_is_a_web) (g_isinstance : X.mg "isinstance" = none) (g_tuple : X.mg "tuple" = none) (g_len : X.mg "len" = none) (c_p_is_letters : Cal X.prog X.w X.K X.mg X.base 2 "is_letters" s_p_is_letters ["value"] (sp_p_is_letters X.K)) (g_all : X.mg "all" = none) (c_p_is_a_row : Cal X.prog X.w X.K X.mg X.base 2 "is_a_row" s_p_is_a_row ["value", "letters", "rooms"] (sp_p_is_a_row X.K)) (c_p_is_one_way : Cal X.prog X.w X.K X.mg X.base 1 "is_one_way" s_p_is_one_way ["rows", "letters"] (sp_p_is_one_way X.K)) (c_p_doors_of : Cal X.prog X.w X.K X.mg X.base 1 "doors_of" s_p_doors_of ["rows"] (sp_p_doors_of X.K)) (g_any : X.mg "any" = none) (c_p_first_order : Cal X.prog X.w X.K X.mg X.base 2 "first_order" s_p_first_order ["letters", "doors", "home"] (sp_p_first_order X.K)) (g_list : X.mg "list" = none) (g_range : X.mg "range" = none) (value : (Int × (List (List Int)))) (b : Bool) (F0 : Hp) (os : Os) (D : Ends) (hm : m_p_is_a_web value = some b) (R : RetZ F0 (os) (dat (PyData.bool b)) D) :
    SX X [sl (dat (PyData.tuple [(PyData.int value.1), (PyData.tuple (List.map (eT PyData.int) value.2))])), un, un, un, un, un] (os) F0 sts_ D := by
  subst hst_
  unfold m_p_is_a_web at hm
  obtain ⟨t3, h3, hm⟩ := bnd hm
  refine sx_if (WX.tx (wx_or (l := t3) (os2 := os) (tx_not (tx_val (ex_fn (j := 0) B rfl g_isinstance (by decide +kernel) call_isi (rc_isi (d := (PyData.tuple [(PyData.int value.1), (PyData.tuple (List.map (eT PyData.int) value.2))])) (T := "tuple") (show kitB "tuple" "tuple" = some true by decide +kernel)) (ax_cons (ex_v (i := 0) (j := 0) B rfl rfl rfl) (ax_cons (ex_tyname (T := "tuple") (gi := 1) B rfl g_tuple (by decide +kernel)) ax_nil))) (by intro _; rfl))) (fun hk => by (have hm := ifF h3 hk; obtain ⟨t2, h2, hm⟩ := bnd hm; obtain rfl := som hm; exact (wx_or (l := t2) (os2 := os) (tx_cmp op_ne r2_neI (nomark _) (ex_fn (j := 2) B rfl g_len (by decide +kernel) call_len_seq rc_len2 (ax_cons (ex_v (i := 0) (j := 0) B rfl rfl rfl) ax_nil)) ex_int) (fun hk => by (have hm := ifF h2 hk; obtain ⟨t1, h1, hm⟩ := bnd hm; obtain rfl := som hm; exact (wx_or1 (tx_not (tx_val (ex_call (a := value.1) (b := t1) (gi := 3) (rest := os) B rfl c_p_is_letters (by decide) h1 (ax_cons (ex_ixT rdt_dat (by rfl) (ex_v (i := 0) (j := 0) B rfl rfl rfl) ex_int) ax_nil)) (by intro _; rfl)))))) (fun hk => by (have hm := ifT h2 hk; obtain rfl := som hm; rfl)) (or_fix (fun hk => by (have hm := ifT h2 hk; obtain rfl := som hm; rfl)))))) (fun hk => by (have hm := ifT h3 hk; obtain rfl := som hm; rfl)) (or_fix (fun hk => by (have hm := ifT h3 hk; obtain rfl := som hm; rfl))))) (fun hk => ?_) (fun hk => ?_)
  · have hm := ifT hm hk
    obtain rfl := som hm
    exact sx_ret ex_bool (fun F H v e o c => R.rt F H v e o c)
  · have hm := ifF hm hk
    refine sx_fall ?_ rfl
    refine sx_unp (gx_pair B (gx_name (i := 1) (vi := 1) B T rfl rfl) (gx_name (i := 2) (vi := 2) B T rfl rfl)) (ex_v (i := 0) (j := 0) B rfl rfl rfl) ?_
    refine sx_if (WX.tx (wx_or (tx_not (tx_val (ex_fn (j := 0) B rfl g_isinstance (by decide +kernel) call_isi (rc_isi (d := (PyData.tuple (List.map (eT PyData.int) value.2))) (T := "tuple") (show kitB "tuple" "tuple" = some true by decide +kernel)) (ax_cons (ex_v (i := 2) (j := 2) B rfl rfl rfl) (ax_cons (ex_tyname (T := "tuple") (gi := 1) B rfl g_tuple (by decide +kernel)) ax_nil))) (by intro _; rfl))) (fun _ => (wx_or1 (tx_cmp op_eq r2_eqI (nomark _) (EX.to (ex_fn (j := 2) B rfl g_len (by decide +kernel) call_len_seq (rc_lenT (ds := List.map (eT PyData.int) value.2) rdt_dat) (ax_cons (ex_v (i := 2) (j := 2) B rfl rfl rfl) ax_nil)) (by rw [List.length_map])) ex_int))) (fun _ => rfl) rfl)) (fun hk => ?_) (fun hk => ?_)
    · have hm := ifT hm hk
      obtain rfl := som hm
      exact sx_ret ex_bool (fun F H v e o c => R.rt F H v e o c)
    · have hm := ifF hm hk
      refine sx_fall ?_ rfl
      obtain ⟨t7, h7, hm⟩ := bnd hm
      obtain ⟨t9, h9, hm⟩ := bnd hm
      refine sx_if (WX.tx (wx_or (l := t9) (os2 := os) (tx_not (tx_val (ex_fn (j := 4) B rfl g_all (by decide +kernel) (cr_all B.calm) (rc_all rdl_dat) (ax_cons (EN.ex (en_lc (lc_mk1 (j := 4) (vp := fun row4 => (dat (PyData.tuple (List.map PyData.int row4)))) (c := anyOs) (enc := PyData.bool) (fun (_ : Unit) (row4 : (List Int)) => ((fun (row4 : (List Int)) => ((m_p_is_a_row row4 value.1 (value.2.length : Int)).bind fun t6 => some t6)) row4).map fun y => (some y, ())) (fun (_ : Unit) (tl1 : Os) => tl1) () (t7) () B rfl rfl (by rw [B.hN, hsc]; decide +kernel) (by rw [hsc]; decide +kernel) (by decide) (lcO_ok h7) (ix_tup (enc := (eT PyData.int)) (ex_v (i := 2) (j := 2) B rfl rfl rfl) rdt_dat) (fun _ _ => trivial) (fun _ _ _ => List.Perm.refl _) (fun _ row4 t tl1 hx hf => by (obtain ⟨y, hy, rfl⟩ := Option.map_eq_some_iff.mp hf; obtain ⟨t6, h6, hy⟩ := bnd hy; obtain rfl := som hy; exact ⟨true, _, fun X1 hX => by (have B1 := Bd.fam (W' := ["letters", "rows", "row"]) (G' := ["len", "is_a_row"]) B hX (by (try rw [hsc]); decide +kernel); have g_len' := fam_mg hX g_len; have c_p_is_a_row' := fam_cal hX c_p_is_a_row; exact ⟨.nil, fun _ => ⟨_, rfl, (ex_call (a := (row4, value.1, (value.2.length : Int))) (b := t6) (gi := 1) (rest := tl1) B1 rfl c_p_is_a_row' (by decide) h6 (ax_cons (ex_v (i := 4) (j := 2) B1 rfl rfl rfl) (ax_cons (ex_v (i := 1) (j := 0) B1 rfl rfl rfl) (ax_cons (EX.to (ex_fn (j := 0) B1 rfl g_len' (by decide +kernel) call_len_seq (rc_lenT (ds := List.map (eT PyData.int) value.2) rdt_dat) (ax_cons (ex_v (i := 2) (j := 1) B1 rfl rfl rfl) ax_nil)) (by rw [List.length_map])) ax_nil))))⟩, fun h => Bool.noConfusion h⟩)⟩))))) ax_nil)) (by intro _; rfl))) (fun hk => by (have hm := ifF h9 hk; obtain ⟨t8, h8, hm⟩ := bnd hm; obtain rfl := som hm; exact (wx_or1 (tx_not (tx_val (ex_call (a := (value.2, value.1)) (b := t8) (gi := 5) (rest := os) B rfl c_p_is_one_way (by decide) h8 (ax_cons (ex_v (i := 2) (j := 2) B rfl rfl rfl) (ax_cons (ex_v (i := 1) (j := 1) B rfl rfl rfl) ax_nil))) (by intro _; rfl)))))) (fun hk => by (have hm := ifT h9 hk; obtain rfl := som hm; rfl)) (or_fix (fun hk => by (have hm := ifT h9 hk; obtain rfl := som hm; rfl))))) (fun hk => ?_) (fun hk => ?_)
      · have hm := ifT hm hk
        obtain rfl := som hm
        exact sx_ret ex_bool (fun F H v e o c => R.rt F H v e o c)
      · have hm := ifF hm hk
        refine sx_fall ?_ rfl
        obtain ⟨t10, h10, hm⟩ := bnd hm
        refine sx_asg (i := 3) (vi := 3) (φ := (dat (PyData.list (List.map (eD kI PyData.int) t10)))) B T rfl rfl (ex_call (a := value.2) (b := t10) (gi := 6) (rest := os) B rfl c_p_doors_of (by decide) h10 (ax_cons (ex_v (i := 2) (j := 2) B rfl rfl rfl) ax_nil)) ?_
        obtain ⟨t13, h13, hm⟩ := bnd hm
        refine sx_if (tx_val (ex_fn (j := 7) B rfl g_any (by decide +kernel) (cr_any B.calm) (rc_any rdl_dat) (ax_cons (EN.ex (en_lc (lc_mk1 (j := 5) (vp := fun steps11 => (dat (Kd.pd kI (eM PyData.int steps11)))) (c := anyOs) (enc := PyData.bool) (fun (_ : Unit) (steps11 : (List (Int × Int))) => some (some (decide ((steps11.length : Int) < 2)), ())) (fun (_ : Unit) (tl1 : Os) => tl1) () (t13) () B rfl rfl (by rw [B.hN, hsc]; decide +kernel) (by rw [hsc]; decide +kernel) (by decide) (lcT_ok h13) (ix_list (enc := (eD kI PyData.int)) (c := anyOs) (EN.ex (en_cut (enc := (eD kI PyData.int)) rdl_dat (ex_v (i := 3) (j := 3) B rfl rfl rfl) (px_some ex_int) px_none)) (fun _ _ => rdl_dat) trivial) (fun _ _ => trivial) (fun _ _ _ => List.Perm.refl _) (fun _ steps11 t tl1 hx hf => by (obtain rfl := som hf; exact ⟨true, _, fun X1 hX => by (have B1 := Bd.fam (W' := ["steps"]) (G' := ["len"]) B hX (by (try rw [hsc]); decide +kernel); have g_len' := fam_mg hX g_len; exact ⟨.nil, fun _ => ⟨_, rfl, (ex_cmp op_lt r2_lt (nomark _) (ex_fn (j := 0) B1 rfl g_len' (by decide +kernel) call_len_d (rc_lenD (enc := PyData.int) (w := steps11) rdd_dat) (ax_cons (ex_v (i := 5) (j := 0) B1 rfl rfl rfl) ax_nil)) ex_int)⟩, fun h => Bool.noConfusion h⟩)⟩))))) ax_nil)) (by intro _; rfl)) (fun hk => ?_) (fun hk => ?_)
        · have hm := ifT hm hk
          obtain rfl := som hm
          exact sx_ret ex_bool (fun F H v e o c => R.rt F H v e o c)
        · have hm := ifF hm hk
          refine sx_fall ?_ rfl
          obtain ⟨t14, h14, hm⟩ := bnd hm
          obtain ⟨t15, h15, hm⟩ := bnd hm
          obtain rfl := som hm
          exact sx_ret (ex_eqR (e := (eL PyData.int)) (x := t14) (y := t15) B (eqv_list eqv_int) (sh_list sh_int) (by decide) rdx_dat rdx_dat (ex_call (a := (value.1, t10, 0)) (b := t14) (gi := 8) (rest := os) B rfl c_p_first_order (by decide) h14 (ax_cons (ex_v (i := 1) (j := 1) B rfl rfl rfl) (ax_cons (ex_v (i := 3) (j := 3) B rfl rfl rfl) (ax_cons ex_int ax_nil)))) (EN.ex (en_rgL1 (gi := 9) (gj := 10) B rfl rfl g_list g_range h15 (EX.to (ex_fn (j := 2) B rfl g_len (by decide +kernel) call_len_seq (rc_lenT (ds := List.map (eT PyData.int) value.2) rdt_dat) (ax_cons (ex_v (i := 2) (j := 2) B rfl rfl rfl) ax_nil)) (by rw [List.length_map]))))) (fun F H v e o c => R.rt F H v e o c)
theorem cal_p_is_a_web {P : Program} {w : World} {K : PySem.W.Frag} {mg : Str → Option Value} {base : Heap} {f : Addr} {fd : FuncData} (Fn : Fun K "is_a_web" "is_a_web" s_p_is_a_web f fd) (hmg : mg "is_a_web" = some (.ref f)) (hb : Binds K fd ["value"] []) (g_isinstance : mg "isinstance" = none) (g_tuple : mg "tuple" = none) (g_len : mg "len" = none) (c_p_is_letters : Cal P w K mg base 2 "is_letters" s_p_is_letters ["value"] (sp_p_is_letters K)) (g_all : mg "all" = none) (c_p_is_a_row : Cal P w K mg base 2 "is_a_row" s_p_is_a_row ["value", "letters", "rooms"] (sp_p_is_a_row K)) (c_p_is_one_way : Cal P w K mg base 1 "is_one_way" s_p_is_one_way ["rows", "letters"] (sp_p_is_one_way K)) (c_p_doors_of : Cal P w K mg base 1 "doors_of" s_p_doors_of ["rows"] (sp_p_doors_of K)) (g_any : mg "any" = none) (c_p_first_order : Cal P w K mg base 2 "first_order" s_p_first_order ["letters", "doors", "home"] (sp_p_first_order K)) (g_list : mg "list" = none) (g_range : mg "range" = none) : Cal P w K mg base 3 "is_a_web" s_p_is_a_web ["value"] (sp_p_is_a_web K) := by
  obtain ⟨sts_, hst_⟩ : ∃ z_, defBody s_p_is_a_web = z_ := ⟨_, rfl⟩
  exact cal_ZQ (V := V_p_is_a_web) (Gs := G_p_is_a_web) (nl := 5) hst_ Fn sc_p_is_a_web (by decide +kernel) (by decide +kernel) hmg hb (fun _ => rfl) rfl fun _ _ _ _ _ _ _ a b F0 os D B T hm R => body_p_is_a_web rfl hst_ B T g_isinstance g_tuple g_len c_p_is_letters g_all c_p_is_a_row c_p_is_one_way c_p_doors_of g_any c_p_first_order g_list g_range a b F0 os D hm R
abbrev s_p_need_web : Stmt := top 18
def N_p_need_web : List Str := ["web"]
def V_p_need_web : List Str := ["web"]
def G_p_need_web : List Str := ["is_a_web", "InvalidWeb", "anew"]
theorem sc_p_need_web : FnScope N_p_need_web ["web"] (defScope s_p_need_web) := ⟨rfl, rfl, rfl, by decide +kernel, rfl, by decide +kernel, by decide +kernel⟩
abbrev sp_p_need_web (K : PySem.W.Frag) : Sp := spZ (α := (Int × (List (List Int)))) (β := Unit) (fun a => [(dat (PyData.tuple [(PyData.int a.1), (PyData.tuple (List.map (eT PyData.int) a.2))]))]) (fun a => []) (fun a => m_p_need_web a) (fun a b => (dat PyData.none)) (fun a b => [])
set_option maxHeartbeats 4000000 in
theorem body_p_need_web {X : Cx} (hsc : X.env.scope = defScope s_p_need_web) {sts_ : List Stmt} (hst_ : defBody s_p_need_web = sts_) (B : Bd X N_p_need_web V_p_need_web G_p_need_web 3) (T : Bt X V_p_need_web) (c_p_is_a_web : Cal X.prog X.w X.K X.mg X.base 3 "is_a_web" s_p_is_a_web ["value"] (sp_p_is_a_web X.K)) (web : (Int × (List (List Int)))) (b : Unit) (F0 : Hp) (os : Os) (D : Ends) (hm : m_p_need_web web = some b) (R : RetZ F0 (os) (dat PyData.none) D) :
    SX X [sl (dat (PyData.tuple [(PyData.int web.1), (PyData.tuple (List.map (eT PyData.int) web.2))]))] (os) F0 sts_ D := by
  subst hst_
  unfold m_p_need_web at hm
  obtain ⟨t1, h1, hm⟩ := bnd hm
  refine sx_if (tx_not (tx_val (ex_call (a := web) (b := t1) (gi := 0) (rest := os) B rfl c_p_is_a_web (by decide) h1 (ax_cons (ex_v (i := 0) (j := 0) B rfl rfl rfl) ax_nil)) (by intro _; rfl))) (fun hk => ?_) (fun hk => ?_)
  · have hm := ifT hm hk
    exact nomatch hm
  · have hm := ifF hm hk
    refine sx_fall ?_ rfl
    obtain rfl := som hm
    exact sx_end fun F σ H e o => R.nx σ H (R.rt F H .non e o (cl_dat .non))
theorem cal_p_need_web {P : Program} {w : World} {K : PySem.W.Frag} {mg : Str → Option Value} {base : Heap} {f : Addr} {fd : FuncData} (Fn : Fun K "need_web" "need_web" s_p_need_web f fd) (hmg : mg "need_web" = some (.ref f)) (hb : Binds K fd ["web"] []) (c_p_is_a_web : Cal P w K mg base 3 "is_a_web" s_p_is_a_web ["value"] (sp_p_is_a_web K)) : Cal P w K mg base 4 "need_web" s_p_need_web ["web"] (sp_p_need_web K) := by
  obtain ⟨sts_, hst_⟩ : ∃ z_, defBody s_p_need_web = z_ := ⟨_, rfl⟩
  exact cal_ZQ (V := V_p_need_web) (Gs := G_p_need_web) (nl := 0) hst_ Fn sc_p_need_web (by decide +kernel) (by decide +kernel) hmg hb (fun _ => rfl) rfl fun _ _ _ _ _ _ _ a b F0 os D B T hm R => body_p_need_web rfl hst_ B T c_p_is_a_web a b F0 os D hm R
abbrev s_p_need_number : Stmt := top 19
def N_p_need_number : List Str := ["number", "low", "high"]
def V_p_need_number : List Str := ["number", "low", "high"]
def G_p_need_number : List Str := ["InvalidNumber"]
theorem sc_p_need_number : FnScope N_p_need_number ["number", "low", "high"] (defScope s_p_need_number) := ⟨rfl, rfl, rfl, by decide +kernel, rfl, by decide +kernel, by decide +kernel⟩
abbrev sp_p_need_number (K : PySem.W.Frag) : Sp := spZ (α := (Int × Int × Unit)) (β := Unit) (fun a => [(dat (PyData.int a.1)), (dat (PyData.int a.2.1)), (dat PyData.none)]) (fun a => []) (fun a => m_p_need_number a.1 a.2.1 a.2.2) (fun a b => (dat PyData.none)) (fun a b => [])
set_option maxHeartbeats 4000000 in
theorem body_p_need_number {X : Cx} (hsc : X.env.scope = defScope s_p_need_number) {sts_ : List Stmt} (hst_ : defBody s_p_need_number = sts_) (B : Bd X N_p_need_number V_p_need_number G_p_need_number 0) (T : Bt X V_p_need_number)  (number : Int) (low : Int) (high : Unit) (b : Unit) (F0 : Hp) (os : Os) (D : Ends) (hm : m_p_need_number number low high = some b) (R : RetZ F0 (os) (dat PyData.none) D) :
    SX X [sl (dat (PyData.int number)), sl (dat (PyData.int low)), sl (dat PyData.none)] (os) F0 sts_ D := by
  subst hst_
  unfold m_p_need_number at hm
  refine sx_if (WX.tx (wx_or (tx_cmp op_lt r2_lt (nomark _) (ex_v (i := 0) (j := 0) B rfl rfl rfl) (ex_v (i := 1) (j := 1) B rfl rfl rfl)) (fun _ => (wx_or1 (WX.tx (wx_and (l := false) (tx_cmp op_notN (r2_notN (d := PyData.none) (t := false) rfl) (nomark _) (ex_v (i := 2) (j := 2) B rfl rfl rfl) ex_none) (fun hk => Bool.noConfusion hk) (fun _ => rfl) rfl)))) (fun _ => rfl) rfl)) (fun hk => ?_) (fun hk => ?_)
  · have hm := ifT hm hk
    exact nomatch hm
  · have hm := ifF hm hk
    refine sx_fall ?_ rfl
    obtain rfl := som hm
    exact sx_end fun F σ H e o => R.nx σ H (R.rt F H .non e o (cl_dat .non))
theorem cal_p_need_number {P : Program} {w : World} {K : PySem.W.Frag} {mg : Str → Option Value} {base : Heap} {f : Addr} {fd : FuncData} (Fn : Fun K "need_number" "need_number" s_p_need_number f fd) (hmg : mg "need_number" = some (.ref f)) (hb : Binds K fd ["number", "low", "high"] [])  : Cal P w K mg base 1 "need_number" s_p_need_number ["number", "low", "high"] (sp_p_need_number K) := by
  obtain ⟨sts_, hst_⟩ : ∃ z_, defBody s_p_need_number = z_ := ⟨_, rfl⟩
  exact cal_ZQ (V := V_p_need_number) (Gs := G_p_need_number) (nl := 0) hst_ Fn sc_p_need_number (by decide +kernel) (by decide +kernel) hmg hb (fun _ => rfl) rfl fun _ _ _ _ _ _ _ a b F0 os D B T hm R => body_p_need_number rfl hst_ B T  a.1 a.2.1 a.2.2 b F0 os D hm R
abbrev s_p_rows_of_rooms : Stmt := top 21
def N_p_rows_of_rooms : List Str := ["count", "size", "found", "turn", "row", "room"]
def V_p_rows_of_rooms : List Str := ["count", "size", "found", "turn"]
def G_p_rows_of_rooms : List Str := ["range"]
theorem sc_p_rows_of_rooms : FnScope N_p_rows_of_rooms ["count", "size"] (defScope s_p_rows_of_rooms) := ⟨rfl, rfl, rfl, by decide +kernel, rfl, by decide +kernel, by decide +kernel⟩
abbrev sp_p_rows_of_rooms (K : PySem.W.Frag) : Sp := spZ (α := (Int × Int)) (β := (List (List Int))) (fun a => [(dat (PyData.int a.1)), (dat (PyData.int a.2))]) (fun a => []) (fun a => m_p_rows_of_rooms a.1 a.2) (fun a b => (dat (PyData.list (List.map (eT PyData.int) b)))) (fun a b => [])
set_option maxHeartbeats 4000000 in
theorem body_p_rows_of_rooms {X : Cx} (hsc : X.env.scope = defScope s_p_rows_of_rooms) {sts_ : List Stmt} (hst_ : defBody s_p_rows_of_rooms = sts_) (B : Bd X N_p_rows_of_rooms V_p_rows_of_rooms G_p_rows_of_rooms 0) (T : Bt X V_p_rows_of_rooms) (g_range : X.mg "range" = none) (count : Int) (size : Int) (b : (List (List Int))) (F0 : Hp) (os : Os) (D : Ends) (hm : m_p_rows_of_rooms count size = some b) (R : RetZ F0 (os) (dat (PyData.list (List.map (eT PyData.int) b))) D) :
    SX X [sl (dat (PyData.int count)), sl (dat (PyData.int size)), un, un, un, un] (os) F0 sts_ D := by
  subst hst_
  unfold m_p_rows_of_rooms at hm
  refine sx_asg (i := 2) (vi := 2) (φ := (dat (PyData.list (List.map (eT PyData.int) ([([] : (List Int))]))))) B T rfl rfl (EN.ex (en_lst (ds := [(PyData.tuple (List.map PyData.int ([] : (List Int))))]) (hl := len_ok (n := 1) rfl) (ax_cons (ex_tup (ds := []) ax_nil) ax_nil))) ?_
  obtain ⟨t1, h1, hm⟩ := bnd hm
  obtain ⟨f4, h12, hm⟩ := bnd hm
  refine sx_for (c := anyOs) _ (fun (s2 : (List (List Int))) (_ : Unit) => [sl (dat (PyData.int count)), sl (dat (PyData.int size)), sl (dat (PyData.list (List.map (eT PyData.int) s2))), un, un, un]) (fun (s2 : (List (List Int))) (_ : Unit) => os) B T (fun turn3 => gx_name (i := 3) (vi := 3) (φ := (dat (PyData.int turn3))) B T rfl rfl) ([([] : (List Int))]) () f4 h12 (ix_rng1 (gi := 0) B rfl g_range h1 (ex_v (i := 1) (j := 1) B rfl rfl rfl)) ⟨.inl rfl, .inl rfl, .inl rfl, .inl rfl, .inl rfl, .inl rfl, trivial⟩ (fun _ _ => trivial) (fun F6 e5 s2 _ turn3 z13 hx hm => ?_) (fun _ => ?_)
  · clear h12
    obtain ⟨t11, h11, hm⟩ := bnd hm
    refine sx_asgLc2 (q0 := 2) (i := 4) (j := 5) (vp := fun row7 => (dat (PyData.tuple (List.map PyData.int row7)))) (vp1 := fun row7 room8 => (dat (PyData.int room8))) (enc := (eT PyData.int)) (ys := (fun (row7 : (List Int)) => (((rngO 0 count).bind fun t9 => some t9) : Option (List Int)))) (m := (fun (row7 : (List Int)) (room8 : Int) => (if (!row7.contains room8) = true then ((catO (α := Int) row7 ([room8])).bind fun t10 => some (some t10)) else some none : Option (Option (List Int))))) B rfl (by rw [hsc]; exact lcl_of (by decide +kernel)) rfl rfl (by decide) rfl rfl (by decide) (by rw [B.hN, hsc]; decide +kernel) (by rw [hsc]; decide +kernel) (by rw [hsc]; decide +kernel) (ix_list (enc := (eT PyData.int)) (c := anyOs) (ex_v (i := 2) (j := 2) B rfl rfl rfl) (fun _ _ => rdl_dat) trivial) (lc2O_ok h11).1 (lc2O_ok h11).2 (fun row7 l_ q1 hx hf X1 hX => by (obtain ⟨t9, h9, hf⟩ := bnd hf; obtain rfl := som hf; have B1 := Bd.fam (W' := ["count"]) (G' := ["range"]) B hX (by (try rw [hsc]); decide +kernel); have g_range' := fam_mg hX g_range; exact (ix_rng1 (gi := 0) B1 rfl g_range' h9 (ex_v (i := 0) (j := 0) B1 rfl rfl rfl)))) (fun row7 l_ room8 t_ q1 hx hf0 hy hf => by (cases hc : (!row7.contains room8) with | true => (have hf := ifT hf hc; obtain ⟨t10, h10, hf⟩ := bnd hf; obtain rfl := som hf; exact ⟨true, fun X1 hX => by (have B1 := Bd.fam (W' := ["row", "room"]) (G' := []) B hX (by (try rw [hsc]); decide +kernel); exact ⟨.one (TX.to (tx_cmp op_notIn_seq (r2_ninT (xs := row7) rdt_dat) (by rfl) (ex_v (i := 5) (j := 1) B1 rfl rfl rfl) (ex_v (i := 4) (j := 0) B1 rfl rfl rfl)) hc), fun _ => ⟨_, rfl, (ex_catT (enc := PyData.int) h10 (ex_v (i := 4) (j := 0) B1 rfl rfl rfl) (ex_tup (ds := [(PyData.int room8)]) (hl := len_ok (n := 1) rfl) (ax_cons (ex_v (i := 5) (j := 1) B1 rfl rfl rfl) ax_nil)))⟩, fun h => Bool.noConfusion h⟩)⟩) | false => (have hf := ifF hf hc; obtain rfl := som hf; exact ⟨false, fun X1 hX => by (have B1 := Bd.fam (W' := ["row", "room"]) (G' := []) B hX (by (try rw [hsc]); decide +kernel); exact ⟨.one (TX.to (tx_cmp op_notIn_seq (r2_ninT (xs := row7) rdt_dat) (by rfl) (ex_v (i := 5) (j := 1) B1 rfl rfl rfl) (ex_v (i := 4) (j := 0) B1 rfl rfl rfl)) hc), fun h => Bool.noConfusion h, fun _ => rfl⟩)⟩))) (sw_ok (by rw [hsc]; decide +kernel) (by rw [hsc]; exact lcl_of (by decide +kernel)) (by decide) (by decide +kernel)) (fun q_found11 => ?_)
    refine sx_frz (j := 0) (i := 2) rfl rfl ?_
    obtain rfl := som hm
    exact sx_nil fun σ H a => ⟨(), (a.weak ⟨.inl rfl, .inl rfl, .inl rfl, .inr rfl, .inl rfl, .inl rfl, trivial⟩)⟩
  · skip
    obtain rfl := som hm
    exact sx_ret (ex_v (i := 2) (j := 2) B rfl rfl rfl) (fun F H v e o c => R.rt F H v e o c)
theorem cal_p_rows_of_rooms {P : Program} {w : World} {K : PySem.W.Frag} {mg : Str → Option Value} {base : Heap} {f : Addr} {fd : FuncData} (Fn : Fun K "rows_of_rooms" "rows_of_rooms" s_p_rows_of_rooms f fd) (hmg : mg "rows_of_rooms" = some (.ref f)) (hb : Binds K fd ["count", "size"] []) (g_range : mg "range" = none) : Cal P w K mg base 1 "rows_of_rooms" s_p_rows_of_rooms ["count", "size"] (sp_p_rows_of_rooms K) := by
  obtain ⟨sts_, hst_⟩ : ∃ z_, defBody s_p_rows_of_rooms = z_ := ⟨_, rfl⟩
  exact cal_ZQ (V := V_p_rows_of_rooms) (Gs := G_p_rows_of_rooms) (nl := 4) hst_ Fn sc_p_rows_of_rooms (by decide +kernel) (by decide +kernel) hmg hb (fun _ => rfl) rfl fun _ _ _ _ _ _ _ a b F0 os D B T hm R => body_p_rows_of_rooms rfl hst_ B T g_range a.1 a.2 b F0 os D hm R
abbrev s_p_rows_led : Stmt := top 22
def N_p_rows_led : List Str := ["letters", "doors", "row", "found", "queue", "at", "here", "step", "goal", "room"]
def V_p_rows_led : List Str := ["letters", "doors", "row", "found", "queue", "at", "here", "step", "goal"]
def G_p_rows_led : List Str := ["len", "steps_of", "all", "tuple"]
theorem sc_p_rows_led : FnScope N_p_rows_led ["letters", "doors", "row"] (defScope s_p_rows_led) := ⟨rfl, rfl, rfl, by decide +kernel, rfl, by decide +kernel, by decide +kernel⟩
abbrev sp_p_rows_led (K : PySem.W.Frag) : Sp := spZ (α := (Int × (List (List (Int × Int))) × (List Int))) (β := (List ((List Int) × (List Int)))) (fun a => [(dat (PyData.int a.1)), (dat (PyData.list (List.map (eD kI PyData.int) a.2.1))), (dat (PyData.tuple (List.map PyData.int a.2.2)))]) (fun a => []) (fun a => m_p_rows_led a.1 a.2.1 a.2.2) (fun a b => (dat (Kd.pd kTI (eM (eT PyData.int) b)))) (fun a b => [])
set_option maxHeartbeats 4000000 in
theorem body_p_rows_led {X : Cx} (hsc : X.env.scope = defScope s_p_rows_led) {sts_ : List Stmt} (hst_ : defBody s_p_rows_led = sts_) (B : Bd X N_p_rows_led V_p_rows_led G_p_rows_led 1) (T : Bt X V_p_rows_led) (g_len : X.mg "len" = none) (c_p_steps_of : Cal X.prog X.w X.K X.mg X.base 1 "steps_of" s_p_steps_of ["letters"] (sp_p_steps_of X.K)) (g_all : X.mg "all" = none) (g_tuple : X.mg "tuple" = none) (letters : Int) (doors : (List (List (Int × Int)))) (row : (List Int)) (b : (List ((List Int) × (List Int)))) (F0 : Hp) (os : Os) (D : Ends) (hm : m_p_rows_led letters doors row = some b) (R : RetZ F0 (os) (dat (Kd.pd kTI (eM (eT PyData.int) b))) D) :
    SX X [sl (dat (PyData.int letters)), sl (dat (PyData.list (List.map (eD kI PyData.int) doors))), sl (dat (PyData.tuple (List.map PyData.int row))), un, un, un, un, un, un, un] (os) F0 sts_ D := by
  subst hst_
  unfold m_p_rows_led at hm
  refine sx_par3 (i := 3) (j := 4) (l := 5) _ hsc B rfl rfl rfl (by decide) (by decide) (by decide) (by decide +kernel) (by decide +kernel) (by decide +kernel) (by intro env he; cases env; cases he; first | rfl | kernel_rfl) (aq_n (n := od kTI (eM (eT PyData.int) ([(row, ([] : (List Int)))]))) (en_disp1T (f := (fun l => List.map Sum.inl l)) (enc := (eT PyData.int)) (k' := (row : (List Int))) (x' := (([] : (List Int)) : (List Int))) B (fun qd => (EX.to (ex_v (i := 2) (j := 2) B rfl rfl rfl) (by first | exact ek_tI _ | rfl))) (fun qd => (ex_tup (ds := []) ax_nil))) (fun q_found1 => (aq_n (n := ol (List.map (eT PyData.int) ([row]))) (en_lst (ds := [(PyData.tuple (List.map PyData.int row))]) (hl := len_ok (n := 1) rfl) (ax_cons (ex_v (i := 2) (j := 2) B rfl rfl rfl) ax_nil)) (fun q_queue2 => (aq_x (φ := (dat (PyData.int 0))) ex_int aq_nil))))) (fun v0 v1 v2 os_ hr_ => ?_) (by rintro φs os_ ⟨q_found1, _, rfl, q_queue2, _, rfl, _, rfl, rfl, rfl⟩; exact ⟨_, _, _, rfl⟩)
  obtain ⟨q_found1, _, e0, q_queue2, _, e1, _, e2, e8, e9⟩ := hr_
  cases e0; cases e1; cases e2; cases e8; cases e9
  obtain ⟨f4o, h32, hm⟩ := bnd hm
  refine sx_while _ _ (fun (s3 : (Int × (List (List Int)) × (List ((List Int) × (List Int))))) (_ : Unit) => [sl (dat (PyData.int letters)), sl (dat (PyData.list (List.map (eD kI PyData.int) doors))), sl (dat (PyData.tuple (List.map PyData.int row))), sl (own q_found1), sl (own q_queue2), sl (dat (PyData.int s3.1)), un, un, un, un]) (fun (s3 : (Int × (List (List Int)) × (List ((List Int) × (List Int))))) (_ : Unit) => (q_queue2, ol (List.map (eT PyData.int) s3.2.1)) :: (q_found1, od kTI (eM (eT PyData.int) s3.2.2)) :: os) (fun (r : (List ((List Int) × (List Int)))) v H => ∃ F, Same F0 F ∧ Ow F (os) H ∧ Cl (dat (Kd.pd kTI (eM (eT PyData.int) r))) F v) T 10000 (0, [row], [(row, ([] : (List Int)))]) () f4o h32 ⟨.inl rfl, .inl rfl, .inl rfl, .inl rfl, .inl rfl, .inl rfl, .inl rfl, .inl rfl, .inl rfl, .inl rfl, trivial⟩ rfl (fun s3 _ b hm => by (obtain rfl := som hm; exact (tx_cmp op_lt r2_lt (nomark _) (ex_v (i := 5) (j := 5) B rfl rfl rfl) (EX.to (ex_fn (j := 0) B rfl g_len (by decide +kernel) call_len_seq (rc_lenL (ds := List.map (eT PyData.int) s3.2.1) (rdl_own 0 rfl)) (ax_cons (ex_v (i := 4) (j := 4) B rfl rfl rfl) ax_nil)) (by rw [List.length_map]))))) (fun F6 e5 s3 _ z33 _ hm => ?_) (fun f4 _ ho => ?_) (fun r31 v H ho hr => ?_)
  · clear h32
    obtain ⟨t7, h7, hm⟩ := bnd hm
    refine sx_asg (i := 6) (vi := 6) (φ := (dat (PyData.tuple (List.map PyData.int t7)))) B T rfl rfl (ex_idxL (enc := (eT PyData.int)) h7 (rdl_own 0 rfl) (ex_v (i := 4) (j := 4) B rfl rfl rfl) (ex_v (i := 5) (j := 5) B rfl rfl rfl)) ?_
    obtain ⟨t8, h8, hm⟩ := bnd hm
    obtain ⟨f11, h29, hm⟩ := bnd hm
    refine sx_for (c := anyOs) _ (fun (s9 : ((List (List Int)) × (List ((List Int) × (List Int))))) (_ : Unit) => [sl (dat (PyData.int letters)), sl (dat (PyData.list (List.map (eD kI PyData.int) doors))), sl (dat (PyData.tuple (List.map PyData.int row))), sl (own q_found1), sl (own q_queue2), sl (dat (PyData.int s3.1)), sl (dat (PyData.tuple (List.map PyData.int t7))), un, un, un]) (fun (s9 : ((List (List Int)) × (List ((List Int) × (List Int))))) (_ : Unit) => (q_queue2, ol (List.map (eT PyData.int) s9.1)) :: (q_found1, od kTI (eM (eT PyData.int) s9.2)) :: os) B T (fun step10 => gx_name (i := 7) (vi := 7) (φ := (dat (PyData.int step10))) B T rfl rfl) (s3.2.1, s3.2.2) () f11 h29 (ix_list (enc := PyData.int) (c := anyOs) (ex_call (a := letters) (b := t8) (gi := 1) (rest := (q_queue2, ol (List.map (eT PyData.int) s3.2.1)) :: (q_found1, od kTI (eM (eT PyData.int) s3.2.2)) :: os) B rfl c_p_steps_of (by decide) h8 (ax_cons (ex_v (i := 0) (j := 0) B rfl rfl rfl) ax_nil)) (fun _ _ => rdl_dat) trivial) ⟨.inl rfl, .inl rfl, .inl rfl, .inl rfl, .inl rfl, .inl rfl, .inl rfl, .inl rfl, .inl rfl, .inl rfl, trivial⟩ (fun _ _ => trivial) (fun F13 e12 s9 _ step10 z30 hx hm => ?_) (fun _ => ?_)
    · clear h29
      obtain ⟨t17, h17, hm⟩ := bnd hm
      obtain ⟨s28, h_s28, hm⟩ := bnd hm
      refine sx_join [sl (dat (PyData.int letters)), sl (dat (PyData.list (List.map (eD kI PyData.int) doors))), sl (dat (PyData.tuple (List.map PyData.int row))), sl (own q_found1), sl (own q_queue2), sl (dat (PyData.int s3.1)), sl (dat (PyData.tuple (List.map PyData.int t7))), sl (dat (PyData.int step10)), un, un] ((q_queue2, ol (List.map (eT PyData.int) s28.1)) :: (q_found1, od kTI (eM (eT PyData.int) s28.2)) :: os) (?_) (fun Q => ?_)
      · clear h_s28
        obtain rfl := som hm
        exact sx_nil fun σ H a => ⟨(), (a.weak ⟨.inl rfl, .inl rfl, .inl rfl, .inl rfl, .inl rfl, .inl rfl, .inl rfl, .inr rfl, .inl rfl, .inl rfl, trivial⟩)⟩
      · have hm := h_s28
        refine sx_if (tx_val (ex_fn (j := 2) B rfl g_all (by decide +kernel) (cr_all B.calm) (rc_all rdl_dat) (ax_cons (EN.ex (en_lc (lc_mk1 (j := 9) (vp := fun room14 => (dat (PyData.int room14))) (c := anyOs) (enc := PyData.bool) (fun (_ : Unit) (room14 : Int) => ((fun (room14 : Int) => ((idx doors room14).bind fun t16 => some ((dGet t16 step10).isSome))) room14).map fun y => (some y, ())) (fun (_ : Unit) (tl1 : Os) => (q_queue2, ol (List.map (eT PyData.int) s9.1)) :: (q_found1, od kTI (eM (eT PyData.int) s9.2)) :: tl1) () (t17) () B rfl rfl (by rw [B.hN, hsc]; decide +kernel) (by rw [hsc]; decide +kernel) (by decide) (lcO_ok h17) (ix_tup (enc := PyData.int) (ex_v (i := 6) (j := 6) B rfl rfl rfl) rdt_dat) (fun _ _ => trivial) (fun _ _ _ => ((List.Perm.cons _ (List.Perm.swap _ _ _)).trans (List.Perm.swap _ _ _))) (fun _ room14 t tl1 hx hf => by (obtain ⟨y, hy, rfl⟩ := Option.map_eq_some_iff.mp hf; obtain ⟨t16, h16, hy⟩ := bnd hy; obtain rfl := som hy; exact ⟨true, _, fun X1 hX => by (have B1 := Bd.fam (W' := ["doors", "step", "room"]) (G' := []) B hX (by (try rw [hsc]); decide +kernel); exact ⟨.nil, fun _ => ⟨_, rfl, (ex_din (kd := kI) (enc := PyData.int) (w := t16) (k := step10) inj_kI B1 rdd_dat (ex_v (i := 7) (j := 1) B1 rfl rfl rfl) (ex_idxL (enc := (eD kI PyData.int)) h16 rdl_dat (ex_v (i := 1) (j := 0) B1 rfl rfl rfl) (ex_v (i := 9) (j := 2) B1 rfl rfl rfl)))⟩, fun h => Bool.noConfusion h⟩)⟩))))) ax_nil)) (by intro _; rfl)) (fun hk => ?_) (fun hk => ?_)
        · have hm := ifT hm hk
          obtain ⟨t22, h22, hm⟩ := bnd hm
          refine sx_asg (i := 8) (vi := 8) (φ := (dat (PyData.tuple (List.map PyData.int t22)))) B T rfl rfl (ex_ty (j := 3) B rfl g_tuple (by decide +kernel) call_tuple_of (rc_tupL (ds := List.map PyData.int t22) rdl_dat) (ax_cons (EN.ex (en_lc (lc_mk1 (j := 9) (vp := fun room18 => (dat (PyData.int room18))) (c := anyOs) (enc := PyData.int) (fun (_ : Unit) (room18 : Int) => ((fun (room18 : Int) => ((idx doors room18).bind fun t20 => (dGet t20 step10).bind fun t21 => some t21)) room18).map fun y => (some y, ())) (fun (_ : Unit) (tl1 : Os) => (q_queue2, ol (List.map (eT PyData.int) s9.1)) :: (q_found1, od kTI (eM (eT PyData.int) s9.2)) :: tl1) () (t22) () B rfl rfl (by rw [B.hN, hsc]; decide +kernel) (by rw [hsc]; decide +kernel) (by decide) (lcO_ok h22) (ix_tup (enc := PyData.int) (ex_v (i := 6) (j := 6) B rfl rfl rfl) rdt_dat) (fun _ _ => trivial) (fun _ _ _ => ((List.Perm.cons _ (List.Perm.swap _ _ _)).trans (List.Perm.swap _ _ _))) (fun _ room18 t tl1 hx hf => by (obtain ⟨y, hy, rfl⟩ := Option.map_eq_some_iff.mp hf; obtain ⟨t20, h20, hy⟩ := bnd hy; obtain ⟨t21, h21, hy⟩ := bnd hy; obtain rfl := som hy; exact ⟨true, _, fun X1 hX => by (have B1 := Bd.fam (W' := ["doors", "step", "room"]) (G' := []) B hX (by (try rw [hsc]); decide +kernel); exact ⟨.nil, fun _ => ⟨_, rfl, (ex_dget (kd := kI) (enc := PyData.int) (w := t20) inj_kI h21 B1 rdd_dat (ex_idxL (enc := (eD kI PyData.int)) h20 rdl_dat (ex_v (i := 1) (j := 0) B1 rfl rfl rfl) (ex_v (i := 9) (j := 2) B1 rfl rfl rfl)) (ex_v (i := 7) (j := 1) B1 rfl rfl rfl))⟩, fun h => Bool.noConfusion h⟩)⟩))))) ax_nil)) ?_
          obtain ⟨s27, h_s27, hm⟩ := bnd hm
          refine sx_join [sl (dat (PyData.int letters)), sl (dat (PyData.list (List.map (eD kI PyData.int) doors))), sl (dat (PyData.tuple (List.map PyData.int row))), sl (own q_found1), sl (own q_queue2), sl (dat (PyData.int s3.1)), sl (dat (PyData.tuple (List.map PyData.int t7))), sl (dat (PyData.int step10)), sl (dat (PyData.tuple (List.map PyData.int t22))), un] ((q_queue2, ol (List.map (eT PyData.int) s27.1)) :: (q_found1, od kTI (eM (eT PyData.int) s27.2)) :: os) (?_) (fun Q => ?_)
          · clear h_s27
            obtain rfl := som hm
            exact sx_fall (SX.weak Q (by exact ⟨.inl rfl, .inl rfl, .inl rfl, .inl rfl, .inl rfl, .inl rfl, .inl rfl, .inl rfl, .inr rfl, .inl rfl, trivial⟩)) rfl
          · have hm := h_s27
            refine sx_if (tx_dnotin (kd := kTI) (enc := (eT PyData.int)) (w := s9.2) (k := t22) inj_kTI B (rdd_own 1 rfl) (EX.to (ex_v (i := 8) (j := 8) B rfl rfl rfl) (by first | exact ek_tI _ | rfl)) (ex_v (i := 3) (j := 3) B rfl rfl rfl)) (fun hk => ?_) (fun hk => ?_)
            · have hm := ifT hm hk
              obtain ⟨t23, h23, hm⟩ := bnd hm
              obtain ⟨t24, h24, hm⟩ := bnd hm
              obtain ⟨t25, h25, hm⟩ := bnd hm
              refine sx_dput (kd := kTI) (enc := (eT PyData.int)) (w := s9.2) (x := t24) inj_kTI h25 B (ex_catT (enc := PyData.int) h24 (ex_dget (kd := kTI) (enc := (eT PyData.int)) (w := s9.2) inj_kTI h23 B (rdd_own 1 rfl) (ex_v (i := 3) (j := 3) B rfl rfl rfl) (EX.to (ex_v (i := 6) (j := 6) B rfl rfl rfl) (by first | exact ek_tI _ | rfl))) (ex_tup (ds := [(PyData.int step10)]) (hl := len_ok (n := 1) rfl) (ax_cons (ex_v (i := 7) (j := 7) B rfl rfl rfl) ax_nil))) (ex_v (i := 3) (j := 3) B rfl rfl rfl) (EX.to (ex_v (i := 8) (j := 8) B rfl rfl rfl) (by first | exact ek_tI _ | rfl)) (wr_flat (f := (odT kTI (eT PyData.int))) (d := s9.2) 1 rfl) ?_
              obtain ⟨t26, h26, hm⟩ := bnd hm
              refine sx_expr (ex_app (enc := (eT PyData.int)) (j := 0) (xs0 := s9.1) (xs := s9.1) (y := t22) h26 (ex_v (i := 4) (j := 4) B rfl rfl rfl) rfl (ex_v (i := 8) (j := 8) B rfl rfl rfl) rfl) ?_
              obtain rfl := som hm
              exact sx_fall Q rfl
            · have hm := ifF hm hk
              obtain rfl := som hm
              exact sx_fall Q rfl
        · have hm := ifF hm hk
          obtain rfl := som hm
          exact sx_fall Q rfl
    · skip
      refine sx_addI (i := 5) (vi := 5) B T rfl rfl rfl ex_int ?_
      exact sx_nil fun σ H a => ⟨_, (), (som hm).symm, (a.weak ⟨.inl rfl, .inl rfl, .inl rfl, .inl rfl, .inl rfl, .inl rfl, .inr rfl, .inl rfl, .inl rfl, .inl rfl, trivial⟩)⟩
  · cases ho
    have hm := elimR hm
    refine sx_frzF (j := 1) (i := 3) frb_od rfl rfl ?_
    obtain rfl := som hm
    exact sx_ret (ex_v (i := 3) (j := 3) B rfl rfl rfl) (fun F H v e o c => R.rt F H v e (o.drop) c)
  · cases ho
    have hm := elimL hm
    cases hm
theorem cal_p_rows_led {P : Program} {w : World} {K : PySem.W.Frag} {mg : Str → Option Value} {base : Heap} {f : Addr} {fd : FuncData} (Fn : Fun K "rows_led" "rows_led" s_p_rows_led f fd) (hmg : mg "rows_led" = some (.ref f)) (hb : Binds K fd ["letters", "doors", "row"] []) (g_len : mg "len" = none) (c_p_steps_of : Cal P w K mg base 1 "steps_of" s_p_steps_of ["letters"] (sp_p_steps_of K)) (g_all : mg "all" = none) (g_tuple : mg "tuple" = none) : Cal P w K mg base 2 "rows_led" s_p_rows_led ["letters", "doors", "row"] (sp_p_rows_led K) := by
  obtain ⟨sts_, hst_⟩ : ∃ z_, defBody s_p_rows_led = z_ := ⟨_, rfl⟩
  exact cal_ZQ (V := V_p_rows_led) (Gs := G_p_rows_led) (nl := 7) hst_ Fn sc_p_rows_led (by decide +kernel) (by decide +kernel) hmg hb (fun _ => rfl) rfl fun _ _ _ _ _ _ _ a b F0 os D B T hm R => body_p_rows_led rfl hst_ B T g_len c_p_steps_of g_all g_tuple a.1 a.2.1 a.2.2 b F0 os D hm R
abbrev s_p_round_walk : Stmt := top 23
def N_p_round_walk : List Str := ["letters", "doors", "times", "met", "first", "found", "row", "walk", "later"]
def V_p_round_walk : List Str := ["letters", "doors", "times", "met", "first", "found", "row", "walk", "later"]
def G_p_round_walk : List Str := ["len", "rows_of_rooms", "rows_led", "straightened", "turned_back"]
theorem sc_p_round_walk : FnScope N_p_round_walk ["letters", "doors", "times"] (defScope s_p_round_walk) := ⟨rfl, rfl, rfl, by decide +kernel, rfl, by decide +kernel, by decide +kernel⟩
abbrev sp_p_round_walk (K : PySem.W.Frag) : Sp := spZ (α := (Int × (List (List (Int × Int))) × Int)) (β := (Option (Int × (List Int)))) (fun a => [(dat (PyData.int a.1)), (dat (PyData.list (List.map (eD kI PyData.int) a.2.1))), (dat (PyData.int a.2.2))]) (fun a => []) (fun a => m_p_round_walk a.1 a.2.1 a.2.2) (fun a b => (dat ((eO (eP PyData.int (eT PyData.int))) b))) (fun a b => [])
set_option maxHeartbeats 4000000 in
theorem body_p_round_walk {X : Cx} (hsc : X.env.scope = defScope s_p_round_walk) {sts_ : List Stmt} (hst_ : defBody s_p_round_walk = sts_) (B : Bd X N_p_round_walk V_p_round_walk G_p_round_walk 2) (T : Bt X V_p_round_walk) (g_len : X.mg "len" = none) (c_p_rows_of_rooms : Cal X.prog X.w X.K X.mg X.base 1 "rows_of_rooms" s_p_rows_of_rooms ["count", "size"] (sp_p_rows_of_rooms X.K)) (c_p_rows_led : Cal X.prog X.w X.K X.mg X.base 2 "rows_led" s_p_rows_led ["letters", "doors", "row"] (sp_p_rows_led X.K)) (c_p_straightened : Cal X.prog X.w X.K X.mg X.base 1 "straightened" s_p_straightened ["walk"] (sp_p_straightened X.K)) (c_p_turned_back : Cal X.prog X.w X.K X.mg X.base 1 "turned_back" s_p_turned_back ["walk"] (sp_p_turned_back X.K)) (letters : Int) (doors : (List (List (Int × Int)))) (times : Int) (b : (Option (Int × (List Int)))) (F0 : Hp) (os : Os) (D : Ends) (hm : m_p_round_walk letters doors times = some b) (R : RetZ F0 (os) (dat ((eO (eP PyData.int (eT PyData.int))) b)) D) :
    SX X [sl (dat (PyData.int letters)), sl (dat (PyData.list (List.map (eD kI PyData.int) doors))), sl (dat (PyData.int times)), un, un, un, un, un, un] (os) F0 sts_ D := by
  subst hst_
  unfold m_p_round_walk at hm
  refine sx_asgN (i := 3) (vi := 3) (n := od kTI (eM PyData.bool ([] : (List ((List Int) × Bool))))) B T rfl rfl (en_dnew (kd := kTI)) (fun q_met0 => ?_)
  refine sx_if (tx_cmp op_gt r2_gt (nomark _) (ex_v (i := 2) (j := 2) B rfl rfl rfl) (EX.to (ex_fn (j := 0) B rfl g_len (by decide +kernel) call_len_seq (rc_lenL (ds := List.map (eD kI PyData.int) doors) rdl_dat) (ax_cons (ex_v (i := 1) (j := 1) B rfl rfl rfl) ax_nil)) (by rw [List.length_map]))) (fun hk => ?_) (fun hk => ?_)
  · have hm := ifT hm hk
    obtain rfl := som hm
    exact sx_ret ex_none (fun F H v e o c => R.rt F H v e (o.drop) c)
  · have hm := ifF hm hk
    refine sx_fall ?_ rfl
    obtain ⟨t1, h1, hm⟩ := bnd hm
    obtain ⟨f4o, h23, hm⟩ := bnd hm
    refine sx_forR (c := anyOs) _ (fun (s2 : (List ((List Int) × Bool))) (_ : Unit) => [sl (dat (PyData.int letters)), sl (dat (PyData.list (List.map (eD kI PyData.int) doors))), sl (dat (PyData.int times)), sl (own q_met0), un, un, un, un, un]) (fun (s2 : (List ((List Int) × Bool))) (_ : Unit) => (q_met0, od kTI (eM PyData.bool s2)) :: os) (fun (r : (Option (Int × (List Int)))) v H => ∃ F, Same F0 F ∧ Ow F (os) H ∧ Cl (dat ((eO (eP PyData.int (eT PyData.int))) r)) F v) B T (fun first3 => gx_name (i := 4) (vi := 4) (φ := (dat (PyData.tuple (List.map PyData.int first3)))) B T rfl rfl) ([] : (List ((List Int) × Bool))) () f4o h23 (ix_list (enc := (eT PyData.int)) (c := anyOs) (ex_call (a := ((doors.length : Int), times)) (b := t1) (gi := 1) (rest := (q_met0, od kTI (eM PyData.bool ([] : (List ((List Int) × Bool))))) :: os) B rfl c_p_rows_of_rooms (by decide) h1 (ax_cons (EX.to (ex_fn (j := 0) B rfl g_len (by decide +kernel) call_len_seq (rc_lenL (ds := List.map (eD kI PyData.int) doors) rdl_dat) (ax_cons (ex_v (i := 1) (j := 1) B rfl rfl rfl) ax_nil)) (by rw [List.length_map])) (ax_cons (ex_v (i := 2) (j := 2) B rfl rfl rfl) ax_nil))) (fun _ _ => rdl_dat) trivial) ⟨.inl rfl, .inl rfl, .inl rfl, .inl rfl, .inl rfl, .inl rfl, .inl rfl, .inl rfl, .inl rfl, trivial⟩ (fun _ _ => trivial) (fun F6 e5 s2 _ first3 z25 hx hm2 => ?_) (fun f4 _ ho => ?_) (fun r24 v H ho hr => ?_)
    · clear hm h23
      have hm := hm2
      refine sx_if (tx_dnotin (kd := kTI) (enc := PyData.bool) (w := s2) (k := first3) inj_kTI B (rdd_own 0 rfl) (EX.to (ex_v (i := 4) (j := 4) B rfl rfl rfl) (by first | exact ek_tI _ | rfl)) (ex_v (i := 3) (j := 3) B rfl rfl rfl)) (fun hk => ?_) (fun hk => ?_)
      · have hm := ifT hm hk
        obtain ⟨t7, h7, hm⟩ := bnd hm
        refine sx_asg (i := 5) (vi := 5) (φ := (dat (Kd.pd kTI (eM (eT PyData.int) t7)))) B T rfl rfl (ex_call (a := (letters, doors, first3)) (b := t7) (gi := 2) (rest := (q_met0, od kTI (eM PyData.bool s2)) :: os) B rfl c_p_rows_led (by decide) h7 (ax_cons (ex_v (i := 0) (j := 0) B rfl rfl rfl) (ax_cons (ex_v (i := 1) (j := 1) B rfl rfl rfl) (ax_cons (ex_v (i := 4) (j := 4) B rfl rfl rfl) ax_nil)))) ?_
        obtain ⟨f10o, h20, hm⟩ := bnd hm
        refine sx_forR (c := anyOs) _ (fun (s8 : (List ((List Int) × Bool))) (_ : Unit) => [sl (dat (PyData.int letters)), sl (dat (PyData.list (List.map (eD kI PyData.int) doors))), sl (dat (PyData.int times)), sl (own q_met0), sl (dat (PyData.tuple (List.map PyData.int first3))), sl (dat (Kd.pd kTI (eM (eT PyData.int) t7))), un, un, un]) (fun (s8 : (List ((List Int) × Bool))) (_ : Unit) => (q_met0, od kTI (eM PyData.bool s8)) :: os) (fun (r : (Option (Int × (List Int)))) v H => ∃ F, Same F0 F ∧ Ow F (os) H ∧ Cl (dat ((eO (eP PyData.int (eT PyData.int))) r)) F v) B T (fun x9 => gx_pair B (gx_name (i := 6) (vi := 6) (φ := (dat (PyData.tuple (List.map PyData.int x9.1)))) B T rfl rfl) (gx_name (i := 7) (vi := 7) (φ := (dat (PyData.tuple (List.map PyData.int x9.2)))) B T rfl rfl)) s2 () f10o h20 (ix_itemsTI (enc := (eT PyData.int)) (w := t7) (ex_v (i := 5) (j := 5) B rfl rfl rfl)) ⟨.inl rfl, .inl rfl, .inl rfl, .inl rfl, .inl rfl, .inl rfl, .inl rfl, .inl rfl, .inl rfl, trivial⟩ (fun _ _ => trivial) (fun F12 e11 s8 _ x9 z22 hx hm2 => ?_) (fun f10 _ ho => ?_) (fun r21 v H ho hr => ?_)
        · clear hm h20
          have hm := hm2
          obtain ⟨t13, h13, hm⟩ := bnd hm
          refine sx_dput (kd := kTI) (enc := PyData.bool) (w := s8) (x := true) inj_kTI h13 B ex_bool (ex_v (i := 3) (j := 3) B rfl rfl rfl) (EX.to (ex_v (i := 6) (j := 6) B rfl rfl rfl) (by first | exact ek_tI _ | rfl)) (wr_flat (f := (odT kTI PyData.bool)) (d := s8) 0 rfl) ?_
          obtain ⟨t14, h14, hm⟩ := bnd hm
          refine sx_asg (i := 8) (vi := 8) (φ := (dat (PyData.tuple (List.map PyData.int t14)))) B T rfl rfl (ex_catT (enc := PyData.int) h14 (ex_cutT (enc := PyData.int) rdt_dat (ex_v (i := 6) (j := 6) B rfl rfl rfl) (px_some ex_int) px_none) (ex_cutT (enc := PyData.int) rdt_dat (ex_v (i := 6) (j := 6) B rfl rfl rfl) px_none (px_some ex_int))) ?_
          refine sx_if (tx_din (kd := kTI) (enc := (eT PyData.int)) (w := t7) (k := t14) inj_kTI B rdd_dat (EX.to (ex_v (i := 8) (j := 8) B rfl rfl rfl) (by first | exact ek_tI _ | rfl)) (ex_v (i := 5) (j := 5) B rfl rfl rfl)) (fun hk => ?_) (fun hk => ?_)
          · have hm := ifT hm hk
            obtain ⟨t15, h15, hm⟩ := bnd hm
            obtain ⟨t16, h16, hm⟩ := bnd hm
            obtain ⟨t17, h17, hm⟩ := bnd hm
            obtain ⟨t18, h18, hm⟩ := bnd hm
            obtain ⟨t19, h19, hm⟩ := bnd hm
            exact sx_ret (ex_tup (ds := [(PyData.int t15), (PyData.tuple (List.map PyData.int t19))]) (hl := len_ok (n := 2) rfl) (ax_cons (ex_idxT (enc := PyData.int) h15 rdt_dat (ex_v (i := 6) (j := 6) B rfl rfl rfl) ex_int) (ax_cons (ex_call (a := t18) (b := t19) (gi := 3) (rest := (q_met0, od kTI (eM PyData.bool t13)) :: os) B rfl c_p_straightened (by decide) h19 (ax_cons (ex_catT (enc := PyData.int) h18 (ex_call (a := x9.2) (b := t16) (gi := 4) (rest := (q_met0, od kTI (eM PyData.bool t13)) :: os) B rfl c_p_turned_back (by decide) h16 (ax_cons (ex_v (i := 7) (j := 7) B rfl rfl rfl) ax_nil)) (ex_dget (kd := kTI) (enc := (eT PyData.int)) (w := t7) inj_kTI h17 B rdd_dat (ex_v (i := 5) (j := 5) B rfl rfl rfl) (EX.to (ex_v (i := 8) (j := 8) B rfl rfl rfl) (by first | exact ek_tI _ | rfl)))) ax_nil)) ax_nil))) (fun F H v e o c => ⟨_, (som hm).symm, F, ((e5.trans e11).trans e), (o.drop), c⟩)
          · have hm := ifF hm hk
            refine sx_fall ?_ rfl
            exact sx_nil fun σ H a => ⟨_, (), (som hm).symm, (a.weak ⟨.inl rfl, .inl rfl, .inl rfl, .inl rfl, .inl rfl, .inl rfl, .inr rfl, .inr rfl, .inr rfl, trivial⟩)⟩
        · cases ho
          have hm := elimR hm
          refine sx_fall ?_ rfl
          exact sx_nil fun σ H a => ⟨_, (), (som hm).symm, (a.weak ⟨.inl rfl, .inl rfl, .inl rfl, .inl rfl, .inr rfl, .inr rfl, .inl rfl, .inl rfl, .inl rfl, trivial⟩)⟩
        · cases ho
          have hm := elimL hm
          exact ⟨_, (som hm).symm, hr⟩
      · have hm := ifF hm hk
        refine sx_fall ?_ rfl
        exact sx_nil fun σ H a => ⟨_, (), (som hm).symm, (a.weak ⟨.inl rfl, .inl rfl, .inl rfl, .inl rfl, .inr rfl, .inl rfl, .inl rfl, .inl rfl, .inl rfl, trivial⟩)⟩
    · cases ho
      have hm := elimR hm
      obtain rfl := som hm
      exact sx_ret ex_none (fun F H v e o c => R.rt F H v e (o.drop) c)
    · cases ho
      have hm := elimL hm
      obtain rfl := som hm
      obtain ⟨F, e, o, c⟩ := hr
      exact R.rt F H v e o c
theorem cal_p_round_walk {P : Program} {w : World} {K : PySem.W.Frag} {mg : Str → Option Value} {base : Heap} {f : Addr} {fd : FuncData} (Fn : Fun K "round_walk" "round_walk" s_p_round_walk f fd) (hmg : mg "round_walk" = some (.ref f)) (hb : Binds K fd ["letters", "doors", "times"] []) (g_len : mg "len" = none) (c_p_rows_of_rooms : Cal P w K mg base 1 "rows_of_rooms" s_p_rows_of_rooms ["count", "size"] (sp_p_rows_of_rooms K)) (c_p_rows_led : Cal P w K mg base 2 "rows_led" s_p_rows_led ["letters", "doors", "row"] (sp_p_rows_led K)) (c_p_straightened : Cal P w K mg base 1 "straightened" s_p_straightened ["walk"] (sp_p_straightened K)) (c_p_turned_back : Cal P w K mg base 1 "turned_back" s_p_turned_back ["walk"] (sp_p_turned_back K)) : Cal P w K mg base 3 "round_walk" s_p_round_walk ["letters", "doors", "times"] (sp_p_round_walk K) := by
  obtain ⟨sts_, hst_⟩ : ∃ z_, defBody s_p_round_walk = z_ := ⟨_, rfl⟩
  exact cal_ZQ (V := V_p_round_walk) (Gs := G_p_round_walk) (nl := 6) hst_ Fn sc_p_round_walk (by decide +kernel) (by decide +kernel) hmg hb (fun _ => rfl) rfl fun _ _ _ _ _ _ _ a b F0 os D B T hm R => body_p_round_walk rfl hst_ B T g_len c_p_rows_of_rooms c_p_rows_led c_p_straightened c_p_turned_back a.1 a.2.1 a.2.2 b F0 os D hm R
abbrev s_p_first_ways : Stmt := top 25
def N_p_first_ways : List Str := ["letters", "doors", "home", "found", "room", "step", "goal"]
def V_p_first_ways : List Str := ["letters", "doors", "home", "found", "room", "step", "goal"]
def G_p_first_ways : List Str := ["first_order", "steps_of"]
theorem sc_p_first_ways : FnScope N_p_first_ways ["letters", "doors", "home"] (defScope s_p_first_ways) := ⟨rfl, rfl, rfl, by decide +kernel, rfl, by decide +kernel, by decide +kernel⟩
abbrev sp_p_first_ways (K : PySem.W.Frag) : Sp := spZ (α := (Int × (List (List (Int × Int))) × Int)) (β := (List (Int × (List Int)))) (fun a => [(dat (PyData.int a.1)), (dat (PyData.list (List.map (eD kI PyData.int) a.2.1))), (dat (PyData.int a.2.2))]) (fun a => []) (fun a => m_p_first_ways a.1 a.2.1 a.2.2) (fun a b => (dat (Kd.pd kI (eM (eT PyData.int) b)))) (fun a b => [])
set_option maxHeartbeats 4000000 in
theorem body_p_first_ways {X : Cx} (hsc : X.env.scope = defScope s_p_first_ways) {sts_ : List Stmt} (hst_ : defBody s_p_first_ways = sts_) (B : Bd X N_p_first_ways V_p_first_ways G_p_first_ways 2) (T : Bt X V_p_first_ways) (c_p_first_order : Cal X.prog X.w X.K X.mg X.base 2 "first_order" s_p_first_order ["letters", "doors", "home"] (sp_p_first_order X.K)) (c_p_steps_of : Cal X.prog X.w X.K X.mg X.base 1 "steps_of" s_p_steps_of ["letters"] (sp_p_steps_of X.K)) (letters : Int) (doors : (List (List (Int × Int)))) (home : Int) (b : (List (Int × (List Int)))) (F0 : Hp) (os : Os) (D : Ends) (hm : m_p_first_ways letters doors home = some b) (R : RetZ F0 (os) (dat (Kd.pd kI (eM (eT PyData.int) b))) D) :
    SX X [sl (dat (PyData.int letters)), sl (dat (PyData.list (List.map (eD kI PyData.int) doors))), sl (dat (PyData.int home)), un, un, un, un] (os) F0 sts_ D := by
  subst hst_
  unfold m_p_first_ways at hm
  refine sx_asgN (i := 3) (vi := 3) (n := od kI (eM (eT PyData.int) ([(home, ([] : (List Int)))]))) B T rfl rfl (en_disp1 (f := Sum.inl) (enc := (eT PyData.int)) (k' := home) (x' := ([] : (List Int))) inj_kI (fun qd => (ex_v (i := 2) (j := 2) B rfl rfl rfl)) (fun qd => (ex_tup (ds := []) ax_nil))) (fun q_found0 => ?_)
  obtain ⟨t1, h1, hm⟩ := bnd hm
  obtain ⟨f4, h21, hm⟩ := bnd hm
  refine sx_for (c := anyOs) _ (fun (s2 : (List (Int × (List Int)))) (_ : Unit) => [sl (dat (PyData.int letters)), sl (dat (PyData.list (List.map (eD kI PyData.int) doors))), sl (dat (PyData.int home)), sl (own q_found0), un, un, un]) (fun (s2 : (List (Int × (List Int)))) (_ : Unit) => (q_found0, od kI (eM (eT PyData.int) s2)) :: os) B T (fun room3 => gx_name (i := 4) (vi := 4) (φ := (dat (PyData.int room3))) B T rfl rfl) ([(home, ([] : (List Int)))]) () f4 h21 (ix_list (enc := PyData.int) (c := anyOs) (ex_call (a := (letters, doors, home)) (b := t1) (gi := 0) (rest := (q_found0, od kI (eM (eT PyData.int) ([(home, ([] : (List Int)))]))) :: os) B rfl c_p_first_order (by decide) h1 (ax_cons (ex_v (i := 0) (j := 0) B rfl rfl rfl) (ax_cons (ex_v (i := 1) (j := 1) B rfl rfl rfl) (ax_cons (ex_v (i := 2) (j := 2) B rfl rfl rfl) ax_nil)))) (fun _ _ => rdl_dat) trivial) ⟨.inl rfl, .inl rfl, .inl rfl, .inl rfl, .inl rfl, .inl rfl, .inl rfl, trivial⟩ (fun _ _ => trivial) (fun F6 e5 s2 _ room3 z22 hx hm => ?_) (fun _ => ?_)
  · clear h21
    obtain ⟨t7, h7, hm⟩ := bnd hm
    obtain ⟨f10, h19, hm⟩ := bnd hm
    refine sx_for (c := anyOs) _ (fun (s8 : (List (Int × (List Int)))) (_ : Unit) => [sl (dat (PyData.int letters)), sl (dat (PyData.list (List.map (eD kI PyData.int) doors))), sl (dat (PyData.int home)), sl (own q_found0), sl (dat (PyData.int room3)), un, un]) (fun (s8 : (List (Int × (List Int)))) (_ : Unit) => (q_found0, od kI (eM (eT PyData.int) s8)) :: os) B T (fun step9 => gx_name (i := 5) (vi := 5) (φ := (dat (PyData.int step9))) B T rfl rfl) s2 () f10 h19 (ix_list (enc := PyData.int) (c := anyOs) (ex_call (a := letters) (b := t7) (gi := 1) (rest := (q_found0, od kI (eM (eT PyData.int) s2)) :: os) B rfl c_p_steps_of (by decide) h7 (ax_cons (ex_v (i := 0) (j := 0) B rfl rfl rfl) ax_nil)) (fun _ _ => rdl_dat) trivial) ⟨.inl rfl, .inl rfl, .inl rfl, .inl rfl, .inl rfl, .inl rfl, .inl rfl, trivial⟩ (fun _ _ => trivial) (fun F12 e11 s8 _ step9 z20 hx hm => ?_) (fun _ => ?_)
    · clear h19
      obtain ⟨t13, h13, hm⟩ := bnd hm
      refine sx_asg (i := 6) (vi := 6) (φ := (dat ((eO PyData.int) (dGet t13 step9)))) B T rfl rfl (ex_dget1 (kd := kI) (enc := PyData.int) (w := t13) (k := step9) inj_kI B rdd_dat rdd_dat (ex_idxL (enc := (eD kI PyData.int)) h13 rdl_dat (ex_v (i := 1) (j := 1) B rfl rfl rfl) (ex_v (i := 4) (j := 4) B rfl rfl rfl)) (ex_v (i := 5) (j := 5) B rfl rfl rfl)) ?_
      cases hq18 : (dGet t13 step9) with
      | none =>
        rw [hq18] at hm
        refine sx_if (WX.tx (wx_and (l := false) (tx_cmp op_notN (r2_notN (d := PyData.none) (t := false) rfl) (nomark _) (ex_v (i := 6) (j := 6) B rfl rfl rfl) ex_none) (fun hk => Bool.noConfusion hk) (fun _ => rfl) rfl)) (fun hk => Bool.noConfusion hk) (fun _ => ?_)
        refine sx_fall ?_ rfl
        obtain rfl := som hm
        exact sx_nil fun σ H a => ⟨(), (a.weak ⟨.inl rfl, .inl rfl, .inl rfl, .inl rfl, .inl rfl, .inr rfl, .inr rfl, trivial⟩)⟩
      | some goal14 =>
        rw [hq18] at hm
        obtain ⟨s18, h_s18, hm⟩ := bnd hm
        refine sx_join [sl (dat (PyData.int letters)), sl (dat (PyData.list (List.map (eD kI PyData.int) doors))), sl (dat (PyData.int home)), sl (own q_found0), sl (dat (PyData.int room3)), sl (dat (PyData.int step9)), sl (dat (PyData.int goal14))] ((q_found0, od kI (eM (eT PyData.int) s18)) :: os) (?_) (fun Q => ?_)
        · clear h_s18
          obtain rfl := som hm
          exact sx_nil fun σ H a => ⟨(), (a.weak ⟨.inl rfl, .inl rfl, .inl rfl, .inl rfl, .inl rfl, .inr rfl, .inr rfl, trivial⟩)⟩
        · have hm := h_s18
          refine sx_if (WX.tx (wx_and (tx_cmp op_notN (r2_notN (d := (PyData.int goal14)) (t := true) rfl) (nomark _) (ex_v (i := 6) (j := 6) B rfl rfl rfl) ex_none) (fun _ => (wx_and1 (tx_dnotin (kd := kI) (enc := (eT PyData.int)) (w := s8) (k := goal14) inj_kI B (rdd_own 0 rfl) (ex_v (i := 6) (j := 6) B rfl rfl rfl) (ex_v (i := 3) (j := 3) B rfl rfl rfl)))) (fun _ => rfl) rfl)) (fun hk => ?_) (fun hk => ?_)
          · have hm := ifT hm hk
            obtain ⟨t15, h15, hm⟩ := bnd hm
            obtain ⟨t16, h16, hm⟩ := bnd hm
            obtain ⟨t17, h17, hm⟩ := bnd hm
            refine sx_dput (kd := kI) (enc := (eT PyData.int)) (w := s8) (x := t16) inj_kI h17 B (ex_catT (enc := PyData.int) h16 (ex_dget (kd := kI) (enc := (eT PyData.int)) (w := s8) inj_kI h15 B (rdd_own 0 rfl) (ex_v (i := 3) (j := 3) B rfl rfl rfl) (ex_v (i := 4) (j := 4) B rfl rfl rfl)) (ex_tup (ds := [(PyData.int step9)]) (hl := len_ok (n := 1) rfl) (ax_cons (ex_v (i := 5) (j := 5) B rfl rfl rfl) ax_nil))) (ex_v (i := 3) (j := 3) B rfl rfl rfl) (ex_v (i := 6) (j := 6) B rfl rfl rfl) (wr_flat (f := (odT kI (eT PyData.int))) (d := s8) 0 rfl) ?_
            obtain rfl := som hm
            exact sx_fall Q rfl
          · have hm := ifF hm hk
            obtain rfl := som hm
            exact sx_fall Q rfl
    · skip
      obtain rfl := som hm
      exact sx_nil fun σ H a => ⟨(), (a.weak ⟨.inl rfl, .inl rfl, .inl rfl, .inl rfl, .inr rfl, .inl rfl, .inl rfl, trivial⟩)⟩
  · skip
    refine sx_frzF (j := 0) (i := 3) frb_od rfl rfl ?_
    obtain rfl := som hm
    exact sx_ret (ex_v (i := 3) (j := 3) B rfl rfl rfl) (fun F H v e o c => R.rt F H v e o c)
theorem cal_p_first_ways {P : Program} {w : World} {K : PySem.W.Frag} {mg : Str → Option Value} {base : Heap} {f : Addr} {fd : FuncData} (Fn : Fun K "first_ways" "first_ways" s_p_first_ways f fd) (hmg : mg "first_ways" = some (.ref f)) (hb : Binds K fd ["letters", "doors", "home"] []) (c_p_first_order : Cal P w K mg base 2 "first_order" s_p_first_order ["letters", "doors", "home"] (sp_p_first_order K)) (c_p_steps_of : Cal P w K mg base 1 "steps_of" s_p_steps_of ["letters"] (sp_p_steps_of K)) : Cal P w K mg base 3 "first_ways" s_p_first_ways ["letters", "doors", "home"] (sp_p_first_ways K) := by
  obtain ⟨sts_, hst_⟩ : ∃ z_, defBody s_p_first_ways = z_ := ⟨_, rfl⟩
  exact cal_ZQ (V := V_p_first_ways) (Gs := G_p_first_ways) (nl := 4) hst_ Fn sc_p_first_ways (by decide +kernel) (by decide +kernel) hmg hb (fun _ => rfl) rfl fun _ _ _ _ _ _ _ a b F0 os D B T hm R => body_p_first_ways rfl hst_ B T c_p_first_order c_p_steps_of a.1 a.2.1 a.2.2 b F0 os D hm R
abbrev s_p_power_walk : Stmt := top 27
def N_p_power_walk : List Str := ["web", "times", "doors", "found", "room", "walk", "lead"]
def V_p_power_walk : List Str := ["web", "times", "doors", "found", "room", "walk", "lead"]
def G_p_power_walk : List Str := ["need_web", "need_number", "doors_of", "round_walk", "first_ways", "straightened", "turned_back"]
theorem sc_p_power_walk : FnScope N_p_power_walk ["web", "times"] (defScope s_p_power_walk) := ⟨rfl, rfl, rfl, by decide +kernel, rfl, by decide +kernel, by decide +kernel⟩
abbrev sp_p_power_walk (K : PySem.W.Frag) : Sp := spZ (α := ((Int × (List (List Int))) × Int)) (β := (Option (List Int))) (fun a => [(dat (PyData.tuple [(PyData.int a.1.1), (PyData.tuple (List.map (eT PyData.int) a.1.2))])), (dat (PyData.int a.2))]) (fun a => []) (fun a => m_p_power_walk a.1 a.2) (fun a b => (dat ((eO (eT PyData.int)) b))) (fun a b => [])
set_option maxHeartbeats 4000000 in
theorem body_p_power_walk {X : Cx} (hsc : X.env.scope = defScope s_p_power_walk) {sts_ : List Stmt} (hst_ : defBody s_p_power_walk = sts_) (B : Bd X N_p_power_walk V_p_power_walk G_p_power_walk 4) (T : Bt X V_p_power_walk) (c_p_need_web : Cal X.prog X.w X.K X.mg X.base 4 "need_web" s_p_need_web ["web"] (sp_p_need_web X.K)) (c_p_need_number : Cal X.prog X.w X.K X.mg X.base 1 "need_number" s_p_need_number ["number", "low", "high"] (sp_p_need_number X.K)) (c_p_doors_of : Cal X.prog X.w X.K X.mg X.base 1 "doors_of" s_p_doors_of ["rows"] (sp_p_doors_of X.K)) (c_p_round_walk : Cal X.prog X.w X.K X.mg X.base 3 "round_walk" s_p_round_walk ["letters", "doors", "times"] (sp_p_round_walk X.K)) (c_p_first_ways : Cal X.prog X.w X.K X.mg X.base 3 "first_ways" s_p_first_ways ["letters", "doors", "home"] (sp_p_first_ways X.K)) (c_p_straightened : Cal X.prog X.w X.K X.mg X.base 1 "straightened" s_p_straightened ["walk"] (sp_p_straightened X.K)) (c_p_turned_back : Cal X.prog X.w X.K X.mg X.base 1 "turned_back" s_p_turned_back ["walk"] (sp_p_turned_back X.K)) (web : (Int × (List (List Int)))) (times : Int) (b : (Option (List Int))) (F0 : Hp) (os : Os) (D : Ends) (hm : m_p_power_walk web times = some b) (R : RetZ F0 (os) (dat ((eO (eT PyData.int)) b)) D) :
    SX X [sl (dat (PyData.tuple [(PyData.int web.1), (PyData.tuple (List.map (eT PyData.int) web.2))])), sl (dat (PyData.int times)), un, un, un, un, un] (os) F0 sts_ D := by
  subst hst_
  unfold m_p_power_walk at hm
  obtain ⟨t1, h1, hm⟩ := bnd hm
  refine sx_expr (ex_call (a := web) (b := t1) (gi := 0) (rest := os) B rfl c_p_need_web (by decide) h1 (ax_cons (ex_v (i := 0) (j := 0) B rfl rfl rfl) ax_nil)) ?_
  obtain ⟨t2, h2, hm⟩ := bnd hm
  refine sx_expr (ex_call (a := (times, 1, ())) (b := t2) (gi := 1) (rest := os) B rfl c_p_need_number (by decide) h2 (ax_cons (ex_v (i := 1) (j := 1) B rfl rfl rfl) (ax_cons ex_int (ax_cons ex_none ax_nil)))) ?_
  obtain ⟨t3, h3, hm⟩ := bnd hm
  refine sx_asg (i := 2) (vi := 2) (φ := (dat (PyData.list (List.map (eD kI PyData.int) t3)))) B T rfl rfl (ex_call (a := web.2) (b := t3) (gi := 2) (rest := os) B rfl c_p_doors_of (by decide) h3 (ax_cons (ex_ixT rdt_dat (by rfl) (ex_v (i := 0) (j := 0) B rfl rfl rfl) ex_int) ax_nil)) ?_
  obtain ⟨t4, h4, hm⟩ := bnd hm
  refine sx_asg (i := 3) (vi := 3) (φ := (dat ((eO (eP PyData.int (eT PyData.int))) t4))) B T rfl rfl (ex_call (a := (web.1, t3, times)) (b := t4) (gi := 3) (rest := os) B rfl c_p_round_walk (by decide) h4 (ax_cons (ex_ixT rdt_dat (by rfl) (ex_v (i := 0) (j := 0) B rfl rfl rfl) ex_int) (ax_cons (ex_v (i := 2) (j := 2) B rfl rfl rfl) (ax_cons (ex_v (i := 1) (j := 1) B rfl rfl rfl) ax_nil)))) ?_
  cases hq11 : t4 with
  | none =>
    rw [hq11] at hm
    refine sx_if (tx_cmp op_isN (r2_isN (d := PyData.none) (t := true) rfl) (nomark _) (ex_v (i := 3) (j := 3) B rfl rfl rfl) ex_none) (fun _ => ?_) (fun hk => Bool.noConfusion hk)
    obtain rfl := som hm
    exact sx_ret ex_none (fun F H v e o c => R.rt F H v e o c)
  | some found5 =>
    rw [hq11] at hm
    refine sx_if (tx_cmp op_isN (r2_isN (d := (PyData.tuple [(PyData.int found5.1), (PyData.tuple (List.map PyData.int found5.2))])) (t := false) rfl) (nomark _) (ex_v (i := 3) (j := 3) B rfl rfl rfl) ex_none) (fun hk => Bool.noConfusion hk) (fun _ => ?_)
    refine sx_fall ?_ rfl
    refine sx_unp (gx_pair B (gx_name (i := 4) (vi := 4) B T rfl rfl) (gx_name (i := 5) (vi := 5) B T rfl rfl)) (ex_v (i := 3) (j := 3) B rfl rfl rfl) ?_
    obtain ⟨t6, h6, hm⟩ := bnd hm
    obtain ⟨t7, h7, hm⟩ := bnd hm
    refine sx_asg (i := 6) (vi := 6) (φ := (dat (PyData.tuple (List.map PyData.int t7)))) B T rfl rfl (ex_dget (kd := kI) (enc := (eT PyData.int)) (w := t6) inj_kI h7 B rdd_dat (ex_call (a := (web.1, t3, 0)) (b := t6) (gi := 4) (rest := os) B rfl c_p_first_ways (by decide) h6 (ax_cons (ex_ixT rdt_dat (by rfl) (ex_v (i := 0) (j := 0) B rfl rfl rfl) ex_int) (ax_cons (ex_v (i := 2) (j := 2) B rfl rfl rfl) (ax_cons ex_int ax_nil)))) (ex_v (i := 4) (j := 4) B rfl rfl rfl)) ?_
    obtain ⟨t8, h8, hm⟩ := bnd hm
    obtain ⟨t9, h9, hm⟩ := bnd hm
    obtain ⟨t10, h10, hm⟩ := bnd hm
    obtain ⟨t11, h11, hm⟩ := bnd hm
    obtain rfl := som hm
    exact sx_ret (ex_call (a := t10) (b := t11) (gi := 5) (rest := os) B rfl c_p_straightened (by decide) h11 (ax_cons (ex_catT (enc := PyData.int) h10 (ex_catT (enc := PyData.int) h8 (ex_v (i := 6) (j := 6) B rfl rfl rfl) (ex_v (i := 5) (j := 5) B rfl rfl rfl)) (ex_call (a := t7) (b := t9) (gi := 6) (rest := os) B rfl c_p_turned_back (by decide) h9 (ax_cons (ex_v (i := 6) (j := 6) B rfl rfl rfl) ax_nil))) ax_nil)) (fun F H v e o c => R.rt F H v e o c)
theorem cal_p_power_walk {P : Program} {w : World} {K : PySem.W.Frag} {mg : Str → Option Value} {base : Heap} {f : Addr} {fd : FuncData} (Fn : Fun K "power_walk" "power_walk" s_p_power_walk f fd) (hmg : mg "power_walk" = some (.ref f)) (hb : Binds K fd ["web", "times"] []) (c_p_need_web : Cal P w K mg base 4 "need_web" s_p_need_web ["web"] (sp_p_need_web K)) (c_p_need_number : Cal P w K mg base 1 "need_number" s_p_need_number ["number", "low", "high"] (sp_p_need_number K)) (c_p_doors_of : Cal P w K mg base 1 "doors_of" s_p_doors_of ["rows"] (sp_p_doors_of K)) (c_p_round_walk : Cal P w K mg base 3 "round_walk" s_p_round_walk ["letters", "doors", "times"] (sp_p_round_walk K)) (c_p_first_ways : Cal P w K mg base 3 "first_ways" s_p_first_ways ["letters", "doors", "home"] (sp_p_first_ways K)) (c_p_straightened : Cal P w K mg base 1 "straightened" s_p_straightened ["walk"] (sp_p_straightened K)) (c_p_turned_back : Cal P w K mg base 1 "turned_back" s_p_turned_back ["walk"] (sp_p_turned_back K)) : Cal P w K mg base 5 "power_walk" s_p_power_walk ["web", "times"] (sp_p_power_walk K) := by
  obtain ⟨sts_, hst_⟩ : ∃ z_, defBody s_p_power_walk = z_ := ⟨_, rfl⟩
  exact cal_ZQ (V := V_p_power_walk) (Gs := G_p_power_walk) (nl := 5) hst_ Fn sc_p_power_walk (by decide +kernel) (by decide +kernel) hmg hb (fun _ => rfl) rfl fun _ _ _ _ _ _ _ a b F0 os D B T hm R => body_p_power_walk rfl hst_ B T c_p_need_web c_p_need_number c_p_doors_of c_p_round_walk c_p_first_ways c_p_straightened c_p_turned_back a.1 a.2 b F0 os D hm R
abbrev s_p_greatest_power : Stmt := top 28
def N_p_greatest_power : List Str := ["web", "doors", "times"]
def V_p_greatest_power : List Str := ["web", "doors"]
def G_p_greatest_power : List Str := ["need_web", "doors_of", "max", "range", "len"]
theorem sc_p_greatest_power : FnScope N_p_greatest_power ["web"] (defScope s_p_greatest_power) := ⟨rfl, rfl, rfl, by decide +kernel, rfl, by decide +kernel, by decide +kernel⟩
abbrev sp_p_greatest_power (K : PySem.W.Frag) : Sp := spZ (α := (Int × (List (List Int)))) (β := Int) (fun a => [(dat (PyData.tuple [(PyData.int a.1), (PyData.tuple (List.map (eT PyData.int) a.2))]))]) (fun a => []) (fun a => m_p_greatest_power a) (fun a b => (dat (PyData.int b))) (fun a b => [])
set_option maxHeartbeats 4000000 in
theorem body_p_greatest_power {X : Cx} (hsc : X.env.scope = defScope s_p_greatest_power) {sts_ : List Stmt} (hst_ : defBody s_p_greatest_power = sts_) (B : Bd X N_p_greatest_power V_p_greatest_power G_p_greatest_power 4) (T : Bt X V_p_greatest_power) (c_p_need_web : Cal X.prog X.w X.K X.mg X.base 4 "need_web" s_p_need_web ["web"] (sp_p_need_web X.K)) (c_p_doors_of : Cal X.prog X.w X.K X.mg X.base 1 "doors_of" s_p_doors_of ["rows"] (sp_p_doors_of X.K)) (g_max : X.mg "max" = none) (g_range : X.mg "range" = none) (g_len : X.mg "len" = none) (c_p_round_walk : Cal X.prog X.w X.K X.mg X.base 3 "round_walk" s_p_round_walk ["letters", "doors", "times"] (sp_p_round_walk X.K)) (web : (Int × (List (List Int)))) (b : Int) (F0 : Hp) (os : Os) (D : Ends) (hm : m_p_greatest_power web = some b) (R : RetZ F0 (os) (dat (PyData.int b)) D) :
    SX X [sl (dat (PyData.tuple [(PyData.int web.1), (PyData.tuple (List.map (eT PyData.int) web.2))])), un, un] (os) F0 sts_ D := by
  subst hst_
  unfold m_p_greatest_power at hm
  obtain ⟨t1, h1, hm⟩ := bnd hm
  refine sx_expr (ex_call (a := web) (b := t1) (gi := 0) (rest := os) B rfl c_p_need_web (by decide) h1 (ax_cons (ex_v (i := 0) (j := 0) B rfl rfl rfl) ax_nil)) ?_
  obtain ⟨t2, h2, hm⟩ := bnd hm
  refine sx_asg (i := 1) (vi := 1) (φ := (dat (PyData.list (List.map (eD kI PyData.int) t2)))) B T rfl rfl (ex_call (a := web.2) (b := t2) (gi := 1) (rest := os) B rfl c_p_doors_of (by decide) h2 (ax_cons (ex_ixT rdt_dat (by rfl) (ex_v (i := 0) (j := 0) B rfl rfl rfl) ex_int) ax_nil)) ?_
  obtain ⟨t3, h3, hm⟩ := bnd hm
  obtain ⟨t7, h7, hm⟩ := bnd hm
  obtain ⟨t8, h8, hm⟩ := bnd hm
  obtain rfl := som hm
  exact sx_ret (ex_fn (j := 2) B rfl g_max (by decide +kernel) (cr_max B.calm) (rc_maxL h8 rdl_dat) (ax_cons (EN.ex (en_lc (lc_mk1 (j := 2) (vp := fun times4 => (dat (PyData.int times4))) (c := anyOs) (enc := PyData.int) (fun (_ : Unit) (times4 : Int) => ((fun (times4 : Int) => ((m_p_round_walk web.1 t2 times4).bind fun t6 => if t6.isSome = true then some (some times4) else some none)) times4).map fun y => (y, ())) (fun (_ : Unit) (tl1 : Os) => tl1) () (t7) () B rfl rfl (by rw [B.hN, hsc]; decide +kernel) (by rw [hsc]; decide +kernel) (by decide) (lcG_ok h7) (ix_rng2 (gi := 3) B rfl g_range h3 ex_int (ex_add (EX.to (ex_fn (j := 4) B rfl g_len (by decide +kernel) call_len_seq (rc_lenL (ds := List.map (eD kI PyData.int) t2) rdl_dat) (ax_cons (ex_v (i := 1) (j := 1) B rfl rfl rfl) ax_nil)) (by rw [List.length_map])) ex_int)) (fun _ _ => trivial) (fun _ _ _ => List.Perm.refl _) (fun _ times4 t tl1 hx hf => by (obtain ⟨y, hy, rfl⟩ := Option.map_eq_some_iff.mp hf; obtain ⟨t6, h6, hy⟩ := bnd hy; cases hc : t6.isSome with | true => (have hy := ifT hy hc; obtain rfl := som hy; exact ⟨true, _, fun X1 hX => by (have B1 := Bd.fam (W' := ["web", "doors", "times"]) (G' := ["round_walk"]) B hX (by (try rw [hsc]); decide +kernel); have c_p_round_walk' := fam_cal hX c_p_round_walk; exact ⟨.one (TX.to (tx_cmp op_notN (r2_notN (d := ((eO (eP PyData.int (eT PyData.int))) t6)) (t := t6.isSome) (some_opt non_pair _)) (nomark _) (ex_call (a := (web.1, t2, times4)) (b := t6) (gi := 0) (rest := tl1) B1 rfl c_p_round_walk' (by decide) h6 (ax_cons (ex_ixT rdt_dat (by rfl) (ex_v (i := 0) (j := 0) B1 rfl rfl rfl) ex_int) (ax_cons (ex_v (i := 1) (j := 1) B1 rfl rfl rfl) (ax_cons (ex_v (i := 2) (j := 2) B1 rfl rfl rfl) ax_nil)))) ex_none) hc), fun _ => ⟨_, rfl, (ex_v (i := 2) (j := 2) B1 rfl rfl rfl)⟩, fun h => Bool.noConfusion h⟩)⟩) | false => (have hy := ifF hy hc; obtain rfl := som hy; exact ⟨false, _, fun X1 hX => by (have B1 := Bd.fam (W' := ["web", "doors", "times"]) (G' := ["round_walk"]) B hX (by (try rw [hsc]); decide +kernel); have c_p_round_walk' := fam_cal hX c_p_round_walk; exact ⟨.one (TX.to (tx_cmp op_notN (r2_notN (d := ((eO (eP PyData.int (eT PyData.int))) t6)) (t := t6.isSome) (some_opt non_pair _)) (nomark _) (ex_call (a := (web.1, t2, times4)) (b := t6) (gi := 0) (rest := tl1) B1 rfl c_p_round_walk' (by decide) h6 (ax_cons (ex_ixT rdt_dat (by rfl) (ex_v (i := 0) (j := 0) B1 rfl rfl rfl) ex_int) (ax_cons (ex_v (i := 1) (j := 1) B1 rfl rfl rfl) (ax_cons (ex_v (i := 2) (j := 2) B1 rfl rfl rfl) ax_nil)))) ex_none) hc), fun h => Bool.noConfusion h, fun _ => ⟨rfl, rfl⟩⟩)⟩)))))) ax_nil)) (fun F H v e o c => R.rt F H v e o c)
theorem cal_p_greatest_power {P : Program} {w : World} {K : PySem.W.Frag} {mg : Str → Option Value} {base : Heap} {f : Addr} {fd : FuncData} (Fn : Fun K "greatest_power" "greatest_power" s_p_greatest_power f fd) (hmg : mg "greatest_power" = some (.ref f)) (hb : Binds K fd ["web"] []) (c_p_need_web : Cal P w K mg base 4 "need_web" s_p_need_web ["web"] (sp_p_need_web K)) (c_p_doors_of : Cal P w K mg base 1 "doors_of" s_p_doors_of ["rows"] (sp_p_doors_of K)) (g_max : mg "max" = none) (g_range : mg "range" = none) (g_len : mg "len" = none) (c_p_round_walk : Cal P w K mg base 3 "round_walk" s_p_round_walk ["letters", "doors", "times"] (sp_p_round_walk K)) : Cal P w K mg base 5 "greatest_power" s_p_greatest_power ["web"] (sp_p_greatest_power K) := by
  obtain ⟨sts_, hst_⟩ : ∃ z_, defBody s_p_greatest_power = z_ := ⟨_, rfl⟩
  exact cal_ZQ (V := V_p_greatest_power) (Gs := G_p_greatest_power) (nl := 2) hst_ Fn sc_p_greatest_power (by decide +kernel) (by decide +kernel) hmg hb (fun _ => rfl) rfl fun _ _ _ _ _ _ _ a b F0 os D B T hm R => body_p_greatest_power rfl hst_ B T c_p_need_web c_p_doors_of g_max g_range g_len c_p_round_walk a b F0 os D hm R
abbrev s_p_is_rooted : Stmt := top 29
def N_p_is_rooted : List Str := ["web"]
def V_p_is_rooted : List Str := ["web"]
def G_p_is_rooted : List Str := ["greatest_power"]
theorem sc_p_is_rooted : FnScope N_p_is_rooted ["web"] (defScope s_p_is_rooted) := ⟨rfl, rfl, rfl, by decide +kernel, rfl, by decide +kernel, by decide +kernel⟩
abbrev sp_p_is_rooted (K : PySem.W.Frag) : Sp := spZ (α := (Int × (List (List Int)))) (β := Bool) (fun a => [(dat (PyData.tuple [(PyData.int a.1), (PyData.tuple (List.map (eT PyData.int) a.2))]))]) (fun a => []) (fun a => m_p_is_rooted a) (fun a b => (dat (PyData.bool b))) (fun a b => [])
set_option maxHeartbeats 4000000 in
theorem body_p_is_rooted {X : Cx} (hsc : X.env.scope = defScope s_p_is_rooted) {sts_ : List Stmt} (hst_ : defBody s_p_is_rooted = sts_) (B : Bd X N_p_is_rooted V_p_is_rooted G_p_is_rooted 5) (T : Bt X V_p_is_rooted) (c_p_greatest_power : Cal X.prog X.w X.K X.mg X.base 5 "greatest_power" s_p_greatest_power ["web"] (sp_p_greatest_power X.K)) (web : (Int × (List (List Int)))) (b : Bool) (F0 : Hp) (os : Os) (D : Ends) (hm : m_p_is_rooted web = some b) (R : RetZ F0 (os) (dat (PyData.bool b)) D) :
    SX X [sl (dat (PyData.tuple [(PyData.int web.1), (PyData.tuple (List.map (eT PyData.int) web.2))]))] (os) F0 sts_ D := by
  subst hst_
  unfold m_p_is_rooted at hm
  obtain ⟨t1, h1, hm⟩ := bnd hm
  obtain rfl := som hm
  exact sx_ret (ex_cmp op_eq r2_eqI (nomark _) (ex_call (a := web) (b := t1) (gi := 0) (rest := os) B rfl c_p_greatest_power (by decide) h1 (ax_cons (ex_v (i := 0) (j := 0) B rfl rfl rfl) ax_nil)) ex_int) (fun F H v e o c => R.rt F H v e o c)
theorem cal_p_is_rooted {P : Program} {w : World} {K : PySem.W.Frag} {mg : Str → Option Value} {base : Heap} {f : Addr} {fd : FuncData} (Fn : Fun K "is_rooted" "is_rooted" s_p_is_rooted f fd) (hmg : mg "is_rooted" = some (.ref f)) (hb : Binds K fd ["web"] []) (c_p_greatest_power : Cal P w K mg base 5 "greatest_power" s_p_greatest_power ["web"] (sp_p_greatest_power K)) : Cal P w K mg base 6 "is_rooted" s_p_is_rooted ["web"] (sp_p_is_rooted K) := by
  obtain ⟨sts_, hst_⟩ : ∃ z_, defBody s_p_is_rooted = z_ := ⟨_, rfl⟩
  exact cal_ZQ (V := V_p_is_rooted) (Gs := G_p_is_rooted) (nl := 0) hst_ Fn sc_p_is_rooted (by decide +kernel) (by decide +kernel) hmg hb (fun _ => rfl) rfl fun _ _ _ _ _ _ _ a b F0 os D B T hm R => body_p_is_rooted rfl hst_ B T c_p_greatest_power a b F0 os D hm R
abbrev s_l_pot : Stmt := top 31
def N_l_pot : List Str := ["_law_script", "_law_k", "_law_cell", "_law_total", "_law_other"]
def V_l_pot : List Str := ["_law_script", "_law_k", "_law_cell", "_law_total", "_law_other"]
def G_l_pot : List Str := ["len", "int", "max", "abs"]
theorem sc_l_pot : FnScope N_l_pot ["_law_script", "_law_k"] (defScope s_l_pot) := ⟨rfl, rfl, rfl, by decide +kernel, rfl, by decide +kernel, by decide +kernel⟩
abbrev sp_l_pot (K : PySem.W.Frag) : Sp := spN (α := ((List Int) × Int)) (β := (List Int)) (fun a => [(scr K a.1), (dat (PyData.int a.2))]) (fun a => []) (fun a => m_l_pot a.1 a.2) (fun a b => ol (List.map PyData.int b)) (fun a b => [])
set_option maxHeartbeats 4000000 in
theorem body_l_pot {X : Cx} (hsc : X.env.scope = defScope s_l_pot) {sts_ : List Stmt} (hst_ : defBody s_l_pot = sts_) (B : Bd X N_l_pot V_l_pot G_l_pot 0) (T : Bt X V_l_pot) (g_len : X.mg "len" = none) (g_int : X.mg "int" = none) (g_max : X.mg "max" = none) (g_abs : X.mg "abs" = none) (script : (List Int)) (k_ : Int) (b : (List Int)) (F0 : Hp) (os : Os) (D : Ends) (hm : m_l_pot script k_ = some b) (R : RetN F0 (os) (ol (List.map PyData.int b)) D) :
    SX X [sl (scr X.K script), sl (dat (PyData.int k_)), un, un, un] (os) F0 sts_ D := by
  subst hst_
  unfold m_l_pot at hm
  refine sx_asg (i := 2) (vi := 2) (φ := (dat (PyData.int ((29 * k_) + 3)))) B T rfl rfl (ex_add (ex_mulL (by decide) ex_int (ex_v (i := 1) (j := 1) B rfl rfl rfl)) ex_int) ?_
  obtain ⟨s2, h_s2, hm⟩ := bnd hm
  refine sx_join [sl (scr X.K script), sl (dat (PyData.int k_)), sl (dat (PyData.int s2)), un, un] (os) (?_) (fun Q => ?_)
  · clear h_s2
    refine sx_asg (i := 3) (vi := 3) (φ := (dat (PyData.int (script.length : Int)))) B T rfl rfl (EX.to (ex_fn (j := 0) B rfl g_len (by decide +kernel) call_len_seq (rc_lenL (ds := List.map PyData.int script) rdl_scr) (ax_cons (ex_v (i := 0) (j := 0) B rfl rfl rfl) ax_nil)) (by rw [List.length_map])) ?_
    obtain ⟨f5, h10, hm⟩ := bnd hm
    refine sx_for (c := anyOs) _ (fun (s3 : Int) (_ : Unit) => [sl (scr X.K script), sl (dat (PyData.int k_)), sl (dat (PyData.int s2)), sl (dat (PyData.int s3)), un]) (fun (s3 : Int) (_ : Unit) => os) B T (fun other4 => gx_name (i := 4) (vi := 4) (φ := (dat (PyData.int other4))) B T rfl rfl) (script.length : Int) () f5 h10 (ix_list (enc := PyData.int) (c := anyOs) (ex_v (i := 0) (j := 0) B rfl rfl rfl) (fun _ _ => rdl_scr) trivial) ⟨.inl rfl, .inl rfl, .inl rfl, .inl rfl, .inl rfl, trivial⟩ (fun _ _ => trivial) (fun F7 e6 s3 _ other4 z11 hx hm => ?_) (fun _ => ?_)
    · clear h10
      obtain ⟨total8, h9, hm⟩ := bnd hm
      have h9 := som h9
      refine sx_asg (i := 3) (vi := 3) (φ := (dat (PyData.int total8))) B T rfl rfl (EX.to (ex_mod (modO_lit (j := 100000000000000000000000067) (by decide)) (ex_ty (j := 1) B rfl g_int (by decide +kernel) call_int1 rc_intI (ax_cons (ex_add (ex_mulR (by decide) (ex_v (i := 3) (j := 3) B rfl rfl rfl) ex_int) (ex_mod (modO_lit (j := 10000000000000000000009) (by decide)) (ex_ty (j := 1) B rfl g_int (by decide +kernel) call_int1 rc_intI (ax_cons (ex_v (i := 4) (j := 4) B rfl rfl rfl) ax_nil)) (EX.to (d' := PyData.int 10000000000000000000009) (ex_add (ex_pow (m := 10000000000000000000000) (by decide +kernel) ex_int ex_int) ex_int) (by rfl)))) ax_nil)) (EX.to (d' := PyData.int 100000000000000000000000067) (ex_add (ex_pow (m := 100000000000000000000000000) (by decide +kernel) ex_int ex_int) ex_int) (by rfl))) (congrArg (fun z_ => (PyData.int z_)) h9)) ?_
      obtain rfl := som hm
      exact sx_nil fun σ H a => ⟨(), (a.weak ⟨.inl rfl, .inl rfl, .inl rfl, .inl rfl, .inr rfl, trivial⟩)⟩
    · skip
      obtain rfl := som hm
      exact sx_retN (en_lst (ds := [(PyData.int (maxI 0 (s2 - 1000000000000000000))), (PyData.int ((((((absI s2) * 9973) + (2 * f5)) + (if (decide (s2 < 0)) = true then 1 else 0)) + k_) % 10000000000000000000000000331)), (PyData.int 0)]) (hl := len_ok (n := 3) rfl) (ax_cons (ex_fn (j := 2) B rfl g_max (by decide +kernel) (call_max2 B.calm) rc_max (ax_cons ex_int (ax_cons (ex_sub (ex_v (i := 2) (j := 2) B rfl rfl rfl) (ex_pow (m := 1000000000000000000) (by decide +kernel) ex_int ex_int)) ax_nil))) (ax_cons (ex_mod (modO_lit (j := 10000000000000000000000000331) (by decide)) (ex_ty (j := 1) B rfl g_int (by decide +kernel) call_int1 rc_intI (ax_cons (ex_add (ex_add (ex_add (ex_mulR (by decide) (ex_fn (j := 3) B rfl g_abs (by decide +kernel) call_abs rc_abs (ax_cons (ex_v (i := 2) (j := 2) B rfl rfl rfl) ax_nil)) ex_int) (ex_mulL (by decide) ex_int (ex_v (i := 3) (j := 3) B rfl rfl rfl))) (ex_ty (j := 1) B rfl g_int (by decide +kernel) call_int1 rc_intB (ax_cons (ex_cmp op_lt r2_lt (nomark _) (ex_v (i := 2) (j := 2) B rfl rfl rfl) ex_int) ax_nil))) (ex_v (i := 1) (j := 1) B rfl rfl rfl)) ax_nil)) (EX.to (d' := PyData.int 10000000000000000000000000331) (ex_add (ex_pow (m := 10000000000000000000000000000) (by decide +kernel) ex_int ex_int) ex_int) (by rfl))) (ax_cons ex_int ax_nil)))) (fun F H p e o => R.rt F H p e o)
  · have hm := h_s2
    refine sx_if (tx_cmp op_lt r2_lt (nomark _) (ex_v (i := 1) (j := 1) B rfl rfl rfl) (EX.to (ex_fn (j := 0) B rfl g_len (by decide +kernel) call_len_seq (rc_lenL (ds := List.map PyData.int script) rdl_scr) (ax_cons (ex_v (i := 0) (j := 0) B rfl rfl rfl) ax_nil)) (by rw [List.length_map]))) (fun hk => ?_) (fun hk => ?_)
    · have hm := ifT hm hk
      obtain ⟨t1, h1, hm⟩ := bnd hm
      refine sx_asg (i := 2) (vi := 2) (φ := (dat (PyData.int t1))) B T rfl rfl (ex_idxL (enc := PyData.int) h1 rdl_scr (ex_v (i := 0) (j := 0) B rfl rfl rfl) (ex_v (i := 1) (j := 1) B rfl rfl rfl)) ?_
      obtain rfl := som hm
      exact sx_fall Q rfl
    · have hm := ifF hm hk
      obtain rfl := som hm
      exact sx_fall Q rfl
theorem cal_l_pot {P : Program} {w : World} {K : PySem.W.Frag} {mg : Str → Option Value} {base : Heap} {f : Addr} {fd : FuncData} (Fn : Fun K "_law_pot" "_law_pot" s_l_pot f fd) (hmg : mg "_law_pot" = some (.ref f)) (hb : Binds K fd ["_law_script", "_law_k"] []) (g_len : mg "len" = none) (g_int : mg "int" = none) (g_max : mg "max" = none) (g_abs : mg "abs" = none) : Cal P w K mg base 1 "_law_pot" s_l_pot ["_law_script", "_law_k"] (sp_l_pot K) := by
  obtain ⟨sts_, hst_⟩ : ∃ z_, defBody s_l_pot = z_ := ⟨_, rfl⟩
  exact cal_NQ (V := V_l_pot) (Gs := G_l_pot) (nl := 3) hst_ Fn sc_l_pot (by decide +kernel) (by decide +kernel) hmg hb (fun _ => rfl) rfl fun _ _ _ _ _ _ _ a b F0 os D B T hm R => body_l_pot rfl hst_ B T g_len g_int g_max g_abs a.1 a.2 b F0 os D hm R
abbrev s_l_draw : Stmt := top 32
def N_l_draw : List Str := ["_law_pot_here", "_law_many", "_law_found", "_law_mixed"]
def V_l_draw : List Str := ["_law_pot_here", "_law_many", "_law_found", "_law_mixed"]
def G_l_draw : List Str := ["int"]
theorem sc_l_draw : FnScope N_l_draw ["_law_pot_here", "_law_many"] (defScope s_l_draw) := ⟨rfl, rfl, rfl, by decide +kernel, rfl, by decide +kernel, by decide +kernel⟩
abbrev sp_l_draw (K : PySem.W.Frag) : Sp := spZ (α := (Addr × (List Int) × Int)) (β := (Int × (List Int))) (fun a => [own a.1, (dat (PyData.int a.2.2))]) (fun a => (a.1, ol (List.map PyData.int a.2.1)) :: []) (fun a => m_l_draw a.2.1 a.2.2) (fun a b => (dat (PyData.int b.1))) (fun a b => (a.1, ol (List.map PyData.int b.2)) :: [])
set_option maxHeartbeats 4000000 in
theorem body_l_draw {X : Cx} (hsc : X.env.scope = defScope s_l_draw) {sts_ : List Stmt} (hst_ : defBody s_l_draw = sts_) (B : Bd X N_l_draw V_l_draw G_l_draw 0) (T : Bt X V_l_draw) (g_int : X.mg "int" = none) (q_pot_here : Addr) (w_pot_here : (List Int)) (many : Int) (b : (Int × (List Int))) (F0 : Hp) (os : Os) (D : Ends) (hm : m_l_draw w_pot_here many = some b) (R : RetZ F0 ((q_pot_here, ol (List.map PyData.int b.2)) :: os) (dat (PyData.int b.1)) D) :
    SX X [sl (own q_pot_here), sl (dat (PyData.int many)), un, un] ((q_pot_here, ol (List.map PyData.int w_pot_here)) :: os) F0 sts_ D := by
  subst hst_
  unfold m_l_draw at hm
  obtain ⟨t1, h1, hm⟩ := bnd hm
  refine sx_if (tx_cmp op_gt r2_gt (nomark _) (ex_idxL (enc := PyData.int) h1 (rdl_own 0 rfl) (ex_v (i := 0) (j := 0) B rfl rfl rfl) ex_int) ex_int) (fun hk => ?_) (fun hk => ?_)
  · have hm := ifT hm hk
    obtain ⟨t2, h2, hm⟩ := bnd hm
    obtain ⟨t3, h3, hm⟩ := bnd hm
    refine sx_asg (i := 2) (vi := 2) (φ := (dat (PyData.int t3))) B T rfl rfl (ex_mod h3 (ex_ty (j := 0) B rfl g_int (by decide +kernel) call_int1 rc_intI (ax_cons (ex_idxL (enc := PyData.int) h2 (rdl_own 0 rfl) (ex_v (i := 0) (j := 0) B rfl rfl rfl) ex_int) ax_nil)) (ex_v (i := 1) (j := 1) B rfl rfl rfl)) ?_
    obtain ⟨t4, h4, hm⟩ := bnd hm
    obtain ⟨t5, h5, hm⟩ := bnd hm
    obtain ⟨t6, h6, hm⟩ := bnd hm
    refine sx_setO (enc := PyData.int) (j := 0) h6 (ex_fdiv h5 (ex_idxL (enc := PyData.int) h4 (rdl_own 0 rfl) (ex_v (i := 0) (j := 0) B rfl rfl rfl) ex_int) (ex_v (i := 1) (j := 1) B rfl rfl rfl)) (ex_v (i := 0) (j := 0) B rfl rfl rfl) ex_int rfl ?_
    obtain rfl := som hm
    exact sx_ret (ex_v (i := 2) (j := 2) B rfl rfl rfl) (fun F H v e o c => R.rt F H v e o c)
  · have hm := ifF hm hk
    refine sx_fall ?_ rfl
    obtain ⟨t7, h7, hm⟩ := bnd hm
    obtain ⟨t8, h8, hm⟩ := bnd hm
    refine sx_setO (enc := PyData.int) (j := 0) h8 (ex_add (ex_idxL (enc := PyData.int) h7 (rdl_own 0 rfl) (ex_v (i := 0) (j := 0) B rfl rfl rfl) ex_int) ex_int) (ex_v (i := 0) (j := 0) B rfl rfl rfl) ex_int rfl ?_
    obtain ⟨t9, h9, hm⟩ := bnd hm
    obtain ⟨t10, h10, hm⟩ := bnd hm
    obtain ⟨mixed11, h12, hm⟩ := bnd hm
    have h12 := som h12
    refine sx_asg (i := 3) (vi := 3) (φ := (dat (PyData.int mixed11))) B T rfl rfl (EX.to (ex_mod (modO_lit (j := 10000000000000000000000000331) (by decide)) (ex_ty (j := 0) B rfl g_int (by decide +kernel) call_int1 rc_intI (ax_cons (ex_add (ex_mulR (by decide) (ex_idxL (enc := PyData.int) h9 (rdl_own 0 rfl) (ex_v (i := 0) (j := 0) B rfl rfl rfl) ex_int) ex_int) (ex_mulR (by decide) (ex_idxL (enc := PyData.int) h10 (rdl_own 0 rfl) (ex_v (i := 0) (j := 0) B rfl rfl rfl) ex_int) ex_int)) ax_nil)) (EX.to (d' := PyData.int 10000000000000000000000000331) (ex_add (ex_pow (m := 10000000000000000000000000000) (by decide +kernel) ex_int ex_int) ex_int) (by rfl))) (congrArg (fun z_ => (PyData.int z_)) h12)) ?_
    obtain ⟨t13, h13, hm⟩ := bnd hm
    obtain ⟨t14, h14, hm⟩ := bnd hm
    obtain ⟨t15, h15, hm⟩ := bnd hm
    obtain ⟨mixed16, h17, hm⟩ := bnd hm
    have h17 := som h17
    refine sx_asg (i := 3) (vi := 3) (φ := (dat (PyData.int mixed16))) B T rfl rfl (EX.to (ex_mod (modO_lit (j := 100000000000000000000000000319) (by decide)) (ex_ty (j := 0) B rfl g_int (by decide +kernel) call_int1 rc_intI (ax_cons (ex_add (ex_add (ex_mulW h13 (ex_v (i := 3) (j := 3) B rfl rfl rfl) (ex_v (i := 3) (j := 3) B rfl rfl rfl)) (ex_mulL (by decide) ex_int (ex_idxL (enc := PyData.int) h14 (rdl_own 0 rfl) (ex_v (i := 0) (j := 0) B rfl rfl rfl) ex_int))) (ex_idxL (enc := PyData.int) h15 (rdl_own 0 rfl) (ex_v (i := 0) (j := 0) B rfl rfl rfl) ex_int)) ax_nil)) (EX.to (d' := PyData.int 100000000000000000000000000319) (ex_add (ex_pow (m := 100000000000000000000000000000) (by decide +kernel) ex_int ex_int) ex_int) (by rfl))) (congrArg (fun z_ => (PyData.int z_)) h17)) ?_
    obtain ⟨t18, h18, hm⟩ := bnd hm
    refine sx_asg (i := 3) (vi := 3) (φ := (dat (PyData.int (((t18 + 5) % 1000000000000000000000000000057) / 9001)))) B T rfl rfl (ex_fdiv (fdivO_lit (j := 9001) (by decide) (by decide +kernel)) (ex_mod (modO_lit (j := 1000000000000000000000000000057) (by decide)) (ex_ty (j := 0) B rfl g_int (by decide +kernel) call_int1 rc_intI (ax_cons (ex_add (ex_mulW h18 (ex_v (i := 3) (j := 3) B rfl rfl rfl) (ex_v (i := 3) (j := 3) B rfl rfl rfl)) ex_int) ax_nil)) (EX.to (d' := PyData.int 1000000000000000000000000000057) (ex_add (ex_pow (m := 1000000000000000000000000000000) (by decide +kernel) ex_int ex_int) ex_int) (by rfl))) ex_int) ?_
    obtain ⟨t19, h19, hm⟩ := bnd hm
    obtain rfl := som hm
    exact sx_ret (ex_mod h19 (ex_ty (j := 0) B rfl g_int (by decide +kernel) call_int1 rc_intI (ax_cons (ex_v (i := 3) (j := 3) B rfl rfl rfl) ax_nil)) (ex_v (i := 1) (j := 1) B rfl rfl rfl)) (fun F H v e o c => R.rt F H v e o c)
theorem cal_l_draw {P : Program} {w : World} {K : PySem.W.Frag} {mg : Str → Option Value} {base : Heap} {f : Addr} {fd : FuncData} (Fn : Fun K "_law_draw" "_law_draw" s_l_draw f fd) (hmg : mg "_law_draw" = some (.ref f)) (hb : Binds K fd ["_law_pot_here", "_law_many"] []) (g_int : mg "int" = none) : Cal P w K mg base 1 "_law_draw" s_l_draw ["_law_pot_here", "_law_many"] (sp_l_draw K) := by
  obtain ⟨sts_, hst_⟩ : ∃ z_, defBody s_l_draw = z_ := ⟨_, rfl⟩
  exact cal_ZQ (V := V_l_draw) (Gs := G_l_draw) (nl := 2) hst_ Fn sc_l_draw (by decide +kernel) (by decide +kernel) hmg hb (fun _ => rfl) rfl fun _ _ _ _ _ _ _ a b F0 os D B T hm R => body_l_draw rfl hst_ B T g_int a.1 a.2.1 a.2.2 b F0 os D hm R
abbrev s_l_steps : Stmt := top 33
def N_l_steps : List Str := ["_law_letters", "_law_found", "_law_letter"]
def V_l_steps : List Str := ["_law_letters", "_law_found", "_law_letter"]
def G_l_steps : List Str := ["range"]
theorem sc_l_steps : FnScope N_l_steps ["_law_letters"] (defScope s_l_steps) := ⟨rfl, rfl, rfl, by decide +kernel, rfl, by decide +kernel, by decide +kernel⟩
abbrev sp_l_steps (K : PySem.W.Frag) : Sp := spZ (α := Int) (β := (List Int)) (fun a => [(dat (PyData.int a))]) (fun a => []) (fun a => m_l_steps a) (fun a b => (dat (PyData.list (List.map PyData.int b)))) (fun a b => [])
set_option maxHeartbeats 4000000 in
theorem body_l_steps {X : Cx} (hsc : X.env.scope = defScope s_l_steps) {sts_ : List Stmt} (hst_ : defBody s_l_steps = sts_) (B : Bd X N_l_steps V_l_steps G_l_steps 0) (T : Bt X V_l_steps) (g_range : X.mg "range" = none) (letters : Int) (b : (List Int)) (F0 : Hp) (os : Os) (D : Ends) (hm : m_l_steps letters = some b) (R : RetZ F0 (os) (dat (PyData.list (List.map PyData.int b))) D) :
    SX X [sl (dat (PyData.int letters)), un, un] (os) F0 sts_ D := by
  subst hst_
  unfold m_l_steps at hm
  refine sx_asg (i := 1) (vi := 1) (φ := (dat (PyData.list (List.map PyData.int ([] : (List Int)))))) B T rfl rfl (EN.ex (en_lst (ds := []) ax_nil)) ?_
  obtain ⟨t1, h1, hm⟩ := bnd hm
  obtain ⟨f4, h8, hm⟩ := bnd hm
  refine sx_for (c := anyOs) _ (fun (s2 : (List Int)) (_ : Unit) => [sl (dat (PyData.int letters)), sl (dat (PyData.list (List.map PyData.int s2))), un]) (fun (s2 : (List Int)) (_ : Unit) => os) B T (fun letter3 => gx_name (i := 2) (vi := 2) (φ := (dat (PyData.int letter3))) B T rfl rfl) ([] : (List Int)) () f4 h8 (ix_rng2 (gi := 0) B rfl g_range h1 ex_int (ex_add (ex_v (i := 0) (j := 0) B rfl rfl rfl) ex_int)) ⟨.inl rfl, .inl rfl, .inl rfl, trivial⟩ (fun _ _ => trivial) (fun F6 e5 s2 _ letter3 z9 hx hm => ?_) (fun _ => ?_)
  · clear h8
    obtain ⟨t7, h7, hm⟩ := bnd hm
    refine sx_asg (i := 1) (vi := 1) (φ := (dat (PyData.list (List.map PyData.int t7)))) B T rfl rfl (EN.ex (en_cat (enc := PyData.int) h7 (ex_v (i := 1) (j := 1) B rfl rfl rfl) (EN.ex (en_lst (ds := [(PyData.int letter3), (PyData.int (-letter3))]) (hl := len_ok (n := 2) rfl) (ax_cons (ex_v (i := 2) (j := 2) B rfl rfl rfl) (ax_cons (ex_neg (ex_v (i := 2) (j := 2) B rfl rfl rfl)) ax_nil)))))) ?_
    obtain rfl := som hm
    exact sx_nil fun σ H a => ⟨(), (a.weak ⟨.inl rfl, .inl rfl, .inr rfl, trivial⟩)⟩
  · skip
    obtain rfl := som hm
    exact sx_ret (ex_v (i := 1) (j := 1) B rfl rfl rfl) (fun F H v e o c => R.rt F H v e o c)
theorem cal_l_steps {P : Program} {w : World} {K : PySem.W.Frag} {mg : Str → Option Value} {base : Heap} {f : Addr} {fd : FuncData} (Fn : Fun K "_law_steps" "_law_steps" s_l_steps f fd) (hmg : mg "_law_steps" = some (.ref f)) (hb : Binds K fd ["_law_letters"] []) (g_range : mg "range" = none) : Cal P w K mg base 1 "_law_steps" s_l_steps ["_law_letters"] (sp_l_steps K) := by
  obtain ⟨sts_, hst_⟩ : ∃ z_, defBody s_l_steps = z_ := ⟨_, rfl⟩
  exact cal_ZQ (V := V_l_steps) (Gs := G_l_steps) (nl := 2) hst_ Fn sc_l_steps (by decide +kernel) (by decide +kernel) hmg hb (fun _ => rfl) rfl fun _ _ _ _ _ _ _ a b F0 os D B T hm R => body_l_steps rfl hst_ B T g_range a b F0 os D hm R
abbrev s_l_web : Stmt := top 34
def N_l_web : List Str := ["_law_letters", "_law_doors_here", "_law_left", "_law_turn", "_law_room", "_law_step", "_law_goal", "_law_order", "_law_at", "_law_rows", "_law_goals", "_law_steps_here", "_law_letter"]
def V_l_web : List Str := ["_law_letters", "_law_doors_here", "_law_left", "_law_turn", "_law_room", "_law_step", "_law_goal", "_law_order", "_law_at", "_law_rows", "_law_goals"]
def G_l_web : List Str := ["range", "len", "list", "_law_steps", "tuple"]
theorem sc_l_web : FnScope N_l_web ["_law_letters", "_law_doors_here"] (defScope s_l_web) := ⟨rfl, rfl, rfl, by decide +kernel, rfl, by decide +kernel, by decide +kernel⟩
abbrev sp_l_web (K : PySem.W.Frag) : Sp := spZ (α := (Int × (List (List (Int × Int))))) (β := (Int × (List (List Int)))) (fun a => [(dat (PyData.int a.1)), (dat (PyData.list (List.map (eD kI PyData.int) a.2)))]) (fun a => []) (fun a => m_l_web a.1 a.2) (fun a b => (dat (PyData.tuple [(PyData.int b.1), (PyData.tuple (List.map (eT PyData.int) b.2))]))) (fun a b => [])
set_option maxHeartbeats 4000000 in
theorem body_l_web {X : Cx} (hsc : X.env.scope = defScope s_l_web) {sts_ : List Stmt} (hst_ : defBody s_l_web = sts_) (B : Bd X N_l_web V_l_web G_l_web 1) (T : Bt X V_l_web) (g_dict : X.mg "dict" = none) (g_range : X.mg "range" = none) (g_len : X.mg "len" = none) (g_list : X.mg "list" = none) (c_l_steps : Cal X.prog X.w X.K X.mg X.base 1 "_law_steps" s_l_steps ["_law_letters"] (sp_l_steps X.K)) (g_tuple : X.mg "tuple" = none) (letters : Int) (doors_here : (List (List (Int × Int)))) (b : (Int × (List (List Int)))) (F0 : Hp) (os : Os) (D : Ends) (hm : m_l_web letters doors_here = some b) (R : RetZ F0 (os) (dat (PyData.tuple [(PyData.int b.1), (PyData.tuple (List.map (eT PyData.int) b.2))])) D) :
    SX X [sl (dat (PyData.int letters)), sl (dat (PyData.list (List.map (eD kI PyData.int) doors_here))), un, un, un, un, un, un, un, un, un, un, un] (os) F0 sts_ D := by
  subst hst_
  unfold m_l_web at hm
  obtain ⟨z2, h3, hm⟩ := bnd hm
  obtain ⟨t4, h4, hm⟩ := bnd hm
  refine sx_asgN (i := 2) (vi := 2) (n := onx (List.map (odT kI PyData.int) t4)) B T rfl rfl (en_lcN (f := (odT kI PyData.int)) (m := (fun (steps_here1 : (List (Int × Int))) => (some steps_here1 : Option (List (Int × Int))))) (cp_mk1 (j := 11) (vp := fun steps_here1 => (dat (Kd.pd kI (eM PyData.int steps_here1)))) (c := anyOs) B rfl rfl (by rw [B.hN, hsc]; decide +kernel) (by rw [hsc]; decide +kernel) (lenO_ok h3) (ix_list (enc := (eD kI PyData.int)) (c := anyOs) (ex_v (i := 1) (j := 1) B rfl rfl rfl) (fun _ _ => rdl_dat) trivial) (fun _ => trivial)) h4 (fun steps_here1 t q1 hx hf X1 hX => by (obtain rfl := som hf; have B1 := Bd.fam (W' := ["_law_steps_here"]) (G' := ["dict"]) B hX (by (try rw [hsc]); decide +kernel); have g_dict' := fam_mg hX g_dict; exact (en_ty (j := 0) B1 rfl g_dict' (by decide +kernel) call_copy_d (rc_copyD (d := eM PyData.int steps_here1) rdd_dat) (ax_cons (ex_v (i := 11) (j := 0) B1 rfl rfl rfl) ax_nil))))) (fun q_left4 => ?_) (sw_no (by rw [hsc]; decide +kernel))
  refine sx_open 0 rfl (fun k_5 => ?_)
  obtain ⟨t6, h6, hm⟩ := bnd hm
  obtain ⟨f9, h28, hm⟩ := bnd hm
  refine sx_for (c := anyOs) _ (fun (s7 : (List (List (Int × Int)))) (_ : Unit) => [sl (dat (PyData.int letters)), sl (dat (PyData.list (List.map (eD kI PyData.int) doors_here))), sl (own q_left4), un, un, un, un, un, un, un, un, un, un]) (fun (s7 : (List (List (Int × Int)))) (_ : Unit) => (q_left4, onl k_5 (List.map (odT kI PyData.int) s7)) :: os) B T (fun turn8 => gx_name (i := 3) (vi := 3) (φ := (dat (PyData.int turn8))) B T rfl rfl) t4 () f9 h28 (ix_rng1 (gi := 0) B rfl g_range h6 (ex_fn (j := 1) B rfl g_len (by decide +kernel) call_len_seq (rc_lenO (f := (odT kI PyData.int)) (ws := t4) 0 rfl) (ax_cons (ex_v (i := 2) (j := 2) B rfl rfl rfl) ax_nil))) ⟨.inl rfl, .inl rfl, .inl rfl, .inl rfl, .inl rfl, .inl rfl, .inl rfl, .inl rfl, .inl rfl, .inl rfl, .inl rfl, .inl rfl, .inl rfl, trivial⟩ (fun _ _ => trivial) (fun F11 e10 s7 _ turn8 z67 hx hm => ?_) (fun _ => ?_)
  · clear h28
    obtain ⟨t12, h12, hm⟩ := bnd hm
    obtain ⟨f15, h26, hm⟩ := bnd hm
    refine sx_for (c := anyOs) _ (fun (s13 : (List (List (Int × Int)))) (_ : Unit) => [sl (dat (PyData.int letters)), sl (dat (PyData.list (List.map (eD kI PyData.int) doors_here))), sl (own q_left4), sl (dat (PyData.int turn8)), un, un, un, un, un, un, un, un, un]) (fun (s13 : (List (List (Int × Int)))) (_ : Unit) => (q_left4, onl k_5 (List.map (odT kI PyData.int) s13)) :: os) B T (fun room14 => gx_name (i := 4) (vi := 4) (φ := (dat (PyData.int room14))) B T rfl rfl) s7 () f15 h26 (ix_rng2 (gi := 0) B rfl g_range h12 ex_int (ex_fn (j := 1) B rfl g_len (by decide +kernel) call_len_seq (rc_lenO (f := (odT kI PyData.int)) (ws := s7) 0 rfl) (ax_cons (ex_v (i := 2) (j := 2) B rfl rfl rfl) ax_nil))) ⟨.inl rfl, .inl rfl, .inl rfl, .inl rfl, .inl rfl, .inl rfl, .inl rfl, .inl rfl, .inl rfl, .inl rfl, .inl rfl, .inl rfl, .inl rfl, trivial⟩ (fun _ _ => trivial) (fun F17 e16 s13 _ room14 z27 hx hm => ?_) (fun _ => ?_)
    · clear h26
      obtain ⟨t18, h18, hm⟩ := bnd hm
      obtain ⟨s25, h_s25, hm⟩ := bnd hm
      refine sx_join [sl (dat (PyData.int letters)), sl (dat (PyData.list (List.map (eD kI PyData.int) doors_here))), sl (own q_left4), sl (dat (PyData.int turn8)), sl (dat (PyData.int room14)), un, un, un, un, un, un, un, un] ((q_left4, onl k_5 (List.map (odT kI PyData.int) s25)) :: os) (?_) (fun Q => ?_)
      · clear h_s25
        obtain rfl := som hm
        exact sx_nil fun σ H a => ⟨(), (a.weak ⟨.inl rfl, .inl rfl, .inl rfl, .inl rfl, .inr rfl, .inl rfl, .inl rfl, .inl rfl, .inl rfl, .inl rfl, .inl rfl, .inl rfl, .inl rfl, trivial⟩)⟩
      · have hm := h_s25
        refine sx_if (tx_cmp op_eq r2_eqI (nomark _) (ex_fn (j := 1) B rfl g_len (by decide +kernel) call_len_d (rc_lenD (enc := PyData.int) (w := t18) (rdd_wr (wr_nest (f := (odT kI PyData.int)) (ws := s13) 0 rfl h18))) (ax_cons (ex_nst (f := (odT kI PyData.int)) (ws := s13) 0 h18 rfl (ex_v (i := 2) (j := 2) B rfl rfl rfl) (ex_v (i := 4) (j := 4) B rfl rfl rfl)) ax_nil)) ex_int) (fun hk => ?_) (fun hk => ?_)
        · have hm := ifT hm hk
          obtain ⟨t19, h19, hm⟩ := bnd hm
          obtain ⟨t20, h20, hm⟩ := bnd hm
          refine sx_asg (i := 5) (vi := 5) (φ := (dat (PyData.int t20))) B T rfl rfl (ex_idxL (enc := PyData.int) h20 rdl_dat (EN.ex (en_ty (j := 2) B rfl g_list (by decide +kernel) (cr_listK B.calm) (rc_listKI (enc := PyData.int) (w := t19) (rdd_wr (wr_nest (f := (odT kI PyData.int)) (ws := s13) 0 rfl h19))) (ax_cons (ex_nst (f := (odT kI PyData.int)) (ws := s13) 0 h19 rfl (ex_v (i := 2) (j := 2) B rfl rfl rfl) (ex_v (i := 4) (j := 4) B rfl rfl rfl)) ax_nil))) ex_int) ?_
          obtain ⟨t21, h21, hm⟩ := bnd hm
          obtain ⟨t22, h22, hm⟩ := bnd hm
          refine sx_asg (i := 6) (vi := 6) (φ := (dat (PyData.int t22.1))) B T rfl rfl (ex_dpop (enc := PyData.int) (w := t21) inj_kI h22 (ex_nst (f := (odT kI PyData.int)) (ws := s13) 0 h21 rfl (ex_v (i := 2) (j := 2) B rfl rfl rfl) (ex_v (i := 4) (j := 4) B rfl rfl rfl)) (rdd_wr (wr_nest (f := (odT kI PyData.int)) (ws := s13) 0 rfl h21)) (ex_v (i := 5) (j := 5) B rfl rfl rfl) (wr_nest (f := (odT kI PyData.int)) (ws := s13) 0 rfl h21)) ?_
          obtain ⟨t23, h23, hm⟩ := bnd hm
          obtain ⟨t24, h24, hm⟩ := bnd hm
          refine sx_expr (ex_dpop (enc := PyData.int) (w := t23) inj_kI h24 (ex_nst (f := (odT kI PyData.int)) (ws := (setI s13 room14 t22.2)) 0 h23 rfl (ex_v (i := 2) (j := 2) B rfl rfl rfl) (ex_v (i := 6) (j := 6) B rfl rfl rfl)) (rdd_wr (wr_nest (f := (odT kI PyData.int)) (ws := (setI s13 room14 t22.2)) 0 rfl h23)) (ex_neg (ex_v (i := 5) (j := 5) B rfl rfl rfl)) (wr_nest (f := (odT kI PyData.int)) (ws := (setI s13 room14 t22.2)) 0 rfl h23)) ?_
          obtain rfl := som hm
          exact sx_fall (SX.weak Q (by exact ⟨.inl rfl, .inl rfl, .inl rfl, .inl rfl, .inl rfl, .inr rfl, .inr rfl, .inl rfl, .inl rfl, .inl rfl, .inl rfl, .inl rfl, .inl rfl, trivial⟩)) rfl
        · have hm := ifF hm hk
          obtain rfl := som hm
          exact sx_fall Q rfl
    · skip
      obtain rfl := som hm
      exact sx_nil fun σ H a => ⟨(), (a.weak ⟨.inl rfl, .inl rfl, .inl rfl, .inr rfl, .inl rfl, .inl rfl, .inl rfl, .inl rfl, .inl rfl, .inl rfl, .inl rfl, .inl rfl, .inl rfl, trivial⟩)⟩
  · skip
    refine sx_frzF (j := 0) (i := 2) (frb_onl (fun _ => frb_od)) rfl rfl ?_
    refine sx_mk2 (i := 7) (j := 8) (vi := 7) (gi := 8) _ hsc B T rfl rfl rfl rfl (by intro env he; cases env; cases he; first | rfl | kernel_rfl) (aq_n (n := ol (List.map PyData.int ([0]))) (en_lst (ds := [(PyData.int 0)]) (hl := len_ok (n := 1) rfl) (ax_cons ex_int ax_nil)) (fun q_order29 => (aq_x (φ := (dat (PyData.int 0))) ex_int aq_nil))) (fun v0 v1 os_ hr_ => ?_) (by rintro φs os_ ⟨q_order29, _, rfl, _, rfl, rfl, rfl⟩; exact ⟨_, _, rfl⟩)
    obtain ⟨q_order29, _, e0, _, e1, e8, e9⟩ := hr_
    cases e0; cases e1; cases e8; cases e9
    obtain ⟨f31o, h65, hm⟩ := bnd hm
    refine sx_while _ _ (fun (s30 : (Int × (List Int))) (_ : Unit) => [sl (dat (PyData.int letters)), sl (dat (PyData.list (List.map (eD kI PyData.int) doors_here))), sl (dat (PyData.list (List.map (eD kI PyData.int) f9))), un, un, un, un, sl (own q_order29), sl (dat (PyData.int s30.1)), un, un, un, un]) (fun (s30 : (Int × (List Int))) (_ : Unit) => (q_order29, ol (List.map PyData.int s30.2)) :: os) (fun (r : (Int × (List (List Int)))) v H => ∃ F, Same F0 F ∧ Ow F (os) H ∧ Cl (dat (PyData.tuple [(PyData.int r.1), (PyData.tuple (List.map (eT PyData.int) r.2))])) F v) T 10000 (0, [0]) () f31o h65 ⟨.inl rfl, .inl rfl, .inl rfl, .inl rfl, .inl rfl, .inl rfl, .inl rfl, .inl rfl, .inl rfl, .inl rfl, .inl rfl, .inl rfl, .inl rfl, trivial⟩ rfl (fun s30 _ b hm => by (obtain rfl := som hm; exact (tx_cmp op_lt r2_lt (nomark _) (ex_v (i := 8) (j := 8) B rfl rfl rfl) (EX.to (ex_fn (j := 1) B rfl g_len (by decide +kernel) call_len_seq (rc_lenL (ds := List.map PyData.int s30.2) (rdl_own 0 rfl)) (ax_cons (ex_v (i := 7) (j := 7) B rfl rfl rfl) ax_nil)) (by rw [List.length_map]))))) (fun F33 e32 s30 _ z66 _ hm => ?_) (fun f31 _ ho => ?_) (fun r64 v H ho hr => ?_)
    · clear h65
      obtain ⟨t34, h34, hm⟩ := bnd hm
      obtain ⟨f37, h44, hm⟩ := bnd hm
      refine sx_for (c := anyOs) _ (fun (s35 : (List Int)) (_ : Unit) => [sl (dat (PyData.int letters)), sl (dat (PyData.list (List.map (eD kI PyData.int) doors_here))), sl (dat (PyData.list (List.map (eD kI PyData.int) f9))), un, un, un, un, sl (own q_order29), sl (dat (PyData.int s30.1)), un, un, un, un]) (fun (s35 : (List Int)) (_ : Unit) => (q_order29, ol (List.map PyData.int s35)) :: os) B T (fun step36 => gx_name (i := 5) (vi := 5) (φ := (dat (PyData.int step36))) B T rfl rfl) s30.2 () f37 h44 (ix_list (enc := PyData.int) (c := anyOs) (ex_call (a := letters) (b := t34) (gi := 3) (rest := (q_order29, ol (List.map PyData.int s30.2)) :: os) B rfl c_l_steps (by decide) h34 (ax_cons (ex_v (i := 0) (j := 0) B rfl rfl rfl) ax_nil)) (fun _ _ => rdl_dat) trivial) ⟨.inl rfl, .inl rfl, .inl rfl, .inl rfl, .inl rfl, .inl rfl, .inl rfl, .inl rfl, .inl rfl, .inl rfl, .inl rfl, .inl rfl, .inl rfl, trivial⟩ (fun _ _ => trivial) (fun F39 e38 s35 _ step36 z45 hx hm => ?_) (fun _ => ?_)
      · clear h44
        obtain ⟨t40, h40, hm⟩ := bnd hm
        obtain ⟨t41, h41, hm⟩ := bnd hm
        refine sx_asg (i := 6) (vi := 6) (φ := (dat (PyData.int ((dGet t41 step36).getD (-1))))) B T rfl rfl (ex_dget2 (kd := kI) (enc := PyData.int) (w := t41) (k := step36) (x := (-1)) inj_kI B rdd_dat rdd_dat (ex_idxL (enc := (eD kI PyData.int)) h41 rdl_dat (ex_v (i := 2) (j := 2) B rfl rfl rfl) (ex_idxL (enc := PyData.int) h40 (rdl_own 0 rfl) (ex_v (i := 7) (j := 7) B rfl rfl rfl) (ex_v (i := 8) (j := 8) B rfl rfl rfl))) (ex_v (i := 5) (j := 5) B rfl rfl rfl) (ex_neg ex_int)) ?_
        obtain ⟨s43, h_s43, hm⟩ := bnd hm
        refine sx_join [sl (dat (PyData.int letters)), sl (dat (PyData.list (List.map (eD kI PyData.int) doors_here))), sl (dat (PyData.list (List.map (eD kI PyData.int) f9))), un, un, sl (dat (PyData.int step36)), sl (dat (PyData.int ((dGet t41 step36).getD (-1)))), sl (own q_order29), sl (dat (PyData.int s30.1)), un, un, un, un] ((q_order29, ol (List.map PyData.int s43)) :: os) (?_) (fun Q => ?_)
        · clear h_s43
          obtain rfl := som hm
          exact sx_nil fun σ H a => ⟨(), (a.weak ⟨.inl rfl, .inl rfl, .inl rfl, .inl rfl, .inl rfl, .inr rfl, .inr rfl, .inl rfl, .inl rfl, .inl rfl, .inl rfl, .inl rfl, .inl rfl, trivial⟩)⟩
        · have hm := h_s43
          refine sx_if (WX.tx (wx_and (tx_cmp op_ge r2_ge (nomark _) (ex_v (i := 6) (j := 6) B rfl rfl rfl) ex_int) (fun _ => (wx_and1 (tx_cmp op_notIn_seq (r2_ninL (xs := s35) (rdl_own 0 rfl)) (by rfl) (ex_v (i := 6) (j := 6) B rfl rfl rfl) (ex_v (i := 7) (j := 7) B rfl rfl rfl)))) (fun _ => rfl) rfl)) (fun hk => ?_) (fun hk => ?_)
          · have hm := ifT hm hk
            obtain ⟨t42, h42, hm⟩ := bnd hm
            refine sx_expr (ex_app (enc := PyData.int) (j := 0) (xs0 := s35) (xs := s35) (y := ((dGet t41 step36).getD (-1))) h42 (ex_v (i := 7) (j := 7) B rfl rfl rfl) rfl (ex_v (i := 6) (j := 6) B rfl rfl rfl) rfl) ?_
            obtain rfl := som hm
            exact sx_fall Q rfl
          · have hm := ifF hm hk
            obtain rfl := som hm
            exact sx_fall Q rfl
      · skip
        refine sx_asg (i := 8) (vi := 8) (φ := (dat (PyData.int (s30.1 + 1)))) B T rfl rfl (ex_add (ex_v (i := 8) (j := 8) B rfl rfl rfl) ex_int) ?_
        exact sx_nil fun σ H a => ⟨_, (), (som hm).symm, (a.weak ⟨.inl rfl, .inl rfl, .inl rfl, .inl rfl, .inl rfl, .inl rfl, .inl rfl, .inl rfl, .inl rfl, .inl rfl, .inl rfl, .inl rfl, .inl rfl, trivial⟩)⟩
    · cases ho
      have hm := elimR hm
      refine sx_frz (j := 0) (i := 7) rfl rfl ?_
      refine sx_asgN (i := 9) (vi := 9) (n := ol (List.map (eT PyData.int) ([] : (List (List Int))))) B T rfl rfl (en_lst (ds := []) ax_nil) (fun q_rows45 => ?_)
      obtain ⟨f48, h62, hm⟩ := bnd hm
      refine sx_for (c := anyOs) _ (fun (s46 : (List (List Int))) (_ : Unit) => [sl (dat (PyData.int letters)), sl (dat (PyData.list (List.map (eD kI PyData.int) doors_here))), sl (dat (PyData.list (List.map (eD kI PyData.int) f9))), un, un, un, un, sl (dat (PyData.list (List.map PyData.int f31.2))), sl (dat (PyData.int f31.1)), sl (own q_rows45), un, un, un]) (fun (s46 : (List (List Int))) (_ : Unit) => (q_rows45, ol (List.map (eT PyData.int) s46)) :: os) B T (fun room47 => gx_name (i := 4) (vi := 4) (φ := (dat (PyData.int room47))) B T rfl rfl) ([] : (List (List Int))) () f48 h62 (ix_list (enc := PyData.int) (c := anyOs) (ex_v (i := 7) (j := 7) B rfl rfl rfl) (fun _ _ => rdl_dat) trivial) ⟨.inl rfl, .inl rfl, .inl rfl, .inl rfl, .inl rfl, .inl rfl, .inl rfl, .inl rfl, .inl rfl, .inl rfl, .inl rfl, .inl rfl, .inl rfl, trivial⟩ (fun _ _ => trivial) (fun F50 e49 s46 _ room47 z63 hx hm => ?_) (fun _ => ?_)
      · clear h62
        obtain ⟨t51, h51, hm⟩ := bnd hm
        obtain ⟨t55, h55, hm⟩ := bnd hm
        refine sx_asgLc (i := 10) B T rfl (by rw [hsc]; exact lcl_of (by decide +kernel)) (lc_mk1 (j := 12) (vp := fun letter52 => (dat (PyData.int letter52))) (c := anyOs) (enc := PyData.int) (fun (_ : Unit) (letter52 : Int) => ((fun (letter52 : Int) => ((idx f9 room47).bind fun t54 => some ((dGet t54 letter52).getD (-1)))) letter52).map fun y => (some y, ())) (fun (_ : Unit) (tl1 : Os) => (q_rows45, ol (List.map (eT PyData.int) s46)) :: tl1) () (t55) () B rfl rfl (by rw [B.hN, hsc]; decide +kernel) (by rw [hsc]; decide +kernel) (by decide) (lcO_ok h55) (ix_rng2 (gi := 0) B rfl g_range h51 ex_int (ex_add (ex_v (i := 0) (j := 0) B rfl rfl rfl) ex_int)) (fun _ _ => trivial) (fun _ _ _ => (List.Perm.swap _ _ _)) (fun _ letter52 t tl1 hx hf => by (obtain ⟨y, hy, rfl⟩ := Option.map_eq_some_iff.mp hf; obtain ⟨t54, h54, hy⟩ := bnd hy; obtain rfl := som hy; exact ⟨true, _, fun X1 hX => by (have B1 := Bd.fam (W' := ["_law_left", "_law_room", "_law_letter"]) (G' := []) B hX (by (try rw [hsc]); decide +kernel); exact ⟨.nil, fun _ => ⟨_, rfl, (ex_dget2 (kd := kI) (enc := PyData.int) (w := t54) (k := letter52) (x := (-1)) inj_kI B1 rdd_dat rdd_dat (ex_idxL (enc := (eD kI PyData.int)) h54 rdl_dat (ex_v (i := 2) (j := 0) B1 rfl rfl rfl) (ex_v (i := 4) (j := 1) B1 rfl rfl rfl)) (ex_v (i := 12) (j := 2) B1 rfl rfl rfl) (ex_neg ex_int))⟩, fun h => Bool.noConfusion h⟩)⟩))) (sw_ok (by rw [hsc]; decide +kernel) (by rw [hsc]; exact lcl_of (by decide +kernel)) (by decide) (by decide +kernel)) (fun q_goals55 => ?_)
        refine sx_frz (j := 0) (i := 10) rfl rfl ?_
        obtain ⟨t60, h60, hm⟩ := bnd hm
        obtain ⟨t61, h61, hm⟩ := bnd hm
        refine sx_expr (ex_app (enc := (eT PyData.int)) (j := 0) (xs0 := s46) (xs := s46) (y := t60) h61 (ex_v (i := 9) (j := 9) B rfl rfl rfl) rfl (ex_ty (j := 4) B rfl g_tuple (by decide +kernel) call_tuple_of (rc_tupL (ds := List.map PyData.int t60) rdl_dat) (ax_cons (EN.ex (en_lc (lc_mk1 (j := 6) (vp := fun goal56 => (dat (PyData.int goal56))) (c := anyOs) (enc := PyData.int) (fun (_ : Unit) (goal56 : Int) => ((fun (goal56 : Int) => ((if (decide (0 ≤ goal56)) = true then ((ixOf f31.2 goal56).bind fun t58 => some ((t58 : Nat) : Int)) else some (-1)).bind fun t59 => some t59)) goal56).map fun y => (some y, ())) (fun (_ : Unit) (tl1 : Os) => (q_rows45, ol (List.map (eT PyData.int) s46)) :: tl1) () (t60) () B rfl rfl (by rw [B.hN, hsc]; decide +kernel) (by rw [hsc]; decide +kernel) (by decide) (lcO_ok h60) (ix_list (enc := PyData.int) (c := anyOs) (ex_v (i := 10) (j := 10) B rfl rfl rfl) (fun _ _ => rdl_dat) trivial) (fun _ _ => trivial) (fun _ _ _ => (List.Perm.swap _ _ _)) (fun _ goal56 t tl1 hx hf => by (obtain ⟨y, hy, rfl⟩ := Option.map_eq_some_iff.mp hf; obtain ⟨t59, h59, hy⟩ := bnd hy; obtain rfl := som hy; exact ⟨true, _, fun X1 hX => by (have B1 := Bd.fam (W' := ["_law_goal", "_law_order"]) (G' := []) B hX (by (try rw [hsc]); decide +kernel); exact ⟨.nil, fun _ => ⟨_, rfl, (ex_if (tx_cmp op_ge r2_ge (nomark _) (ex_v (i := 6) (j := 0) B1 rfl rfl rfl) ex_int) (fun hk => by (have hm := ifT h59 hk; obtain ⟨t58, h58, hm⟩ := bnd hm; obtain rfl := som hm; exact (EX.to (ex_index h58 (fun _ _ => rdl_dat) (ex_v (i := 7) (j := 1) B1 rfl rfl rfl) (ex_v (i := 6) (j := 0) B1 rfl rfl rfl)) (by rfl)))) (fun hk => by (have hm := ifF h59 hk; obtain rfl := som hm; exact (EX.to (ex_neg ex_int) (by rfl)))))⟩, fun h => Bool.noConfusion h⟩)⟩))))) ax_nil)) rfl) ?_
        obtain rfl := som hm
        exact sx_nil fun σ H a => ⟨(), (a.weak ⟨.inl rfl, .inl rfl, .inl rfl, .inl rfl, .inr rfl, .inl rfl, .inl rfl, .inl rfl, .inl rfl, .inl rfl, .inr rfl, .inl rfl, .inl rfl, trivial⟩)⟩
      · skip
        refine sx_frz (j := 0) (i := 9) rfl rfl ?_
        obtain rfl := som hm
        exact sx_ret (ex_tup (ds := [(PyData.int letters), (PyData.tuple (List.map (eT PyData.int) f48))]) (hl := len_ok (n := 2) rfl) (ax_cons (ex_v (i := 0) (j := 0) B rfl rfl rfl) (ax_cons (ex_ty (j := 4) B rfl g_tuple (by decide +kernel) call_tuple_of (rc_tupL (ds := List.map (eT PyData.int) f48) rdl_dat) (ax_cons (ex_v (i := 9) (j := 9) B rfl rfl rfl) ax_nil)) ax_nil))) (fun F H v e o c => R.rt F H v e o c)
    · cases ho
      have hm := elimL hm
      cases hm
theorem cal_l_web {P : Program} {w : World} {K : PySem.W.Frag} {mg : Str → Option Value} {base : Heap} {f : Addr} {fd : FuncData} (Fn : Fun K "_law_web" "_law_web" s_l_web f fd) (hmg : mg "_law_web" = some (.ref f)) (hb : Binds K fd ["_law_letters", "_law_doors_here"] []) (g_dict : mg "dict" = none) (g_range : mg "range" = none) (g_len : mg "len" = none) (g_list : mg "list" = none) (c_l_steps : Cal P w K mg base 1 "_law_steps" s_l_steps ["_law_letters"] (sp_l_steps K)) (g_tuple : mg "tuple" = none) : Cal P w K mg base 2 "_law_web" s_l_web ["_law_letters", "_law_doors_here"] (sp_l_web K) := by
  obtain ⟨sts_, hst_⟩ : ∃ z_, defBody s_l_web = z_ := ⟨_, rfl⟩
  exact cal_ZQ (V := V_l_web) (Gs := G_l_web) (nl := 11) hst_ Fn sc_l_web (by decide +kernel) (by decide +kernel) hmg hb (fun _ => rfl) rfl fun _ _ _ _ _ _ _ a b F0 os D B T hm R => body_l_web rfl hst_ B T g_dict g_range g_len g_list c_l_steps g_tuple a.1 a.2 b F0 os D hm R
abbrev s_l_doors : Stmt := top 35
def N_l_doors : List Str := ["_law_web_here", "_law_doors_here", "_law_room", "_law_at", "_law_goal", "_law_row"]
def V_l_doors : List Str := ["_law_web_here", "_law_doors_here", "_law_room", "_law_at", "_law_goal"]
def G_l_doors : List Str := ["range", "len"]
theorem sc_l_doors : FnScope N_l_doors ["_law_web_here"] (defScope s_l_doors) := ⟨rfl, rfl, rfl, by decide +kernel, rfl, by decide +kernel, by decide +kernel⟩
abbrev sp_l_doors (K : PySem.W.Frag) : Sp := spZ (α := (Int × (List (List Int)))) (β := (List (List (Int × Int)))) (fun a => [(dat (PyData.tuple [(PyData.int a.1), (PyData.tuple (List.map (eT PyData.int) a.2))]))]) (fun a => []) (fun a => m_l_doors a) (fun a b => (dat (PyData.list (List.map (eD kI PyData.int) b)))) (fun a b => [])
set_option maxHeartbeats 4000000 in
theorem body_l_doors {X : Cx} (hsc : X.env.scope = defScope s_l_doors) {sts_ : List Stmt} (hst_ : defBody s_l_doors = sts_) (B : Bd X N_l_doors V_l_doors G_l_doors 0) (T : Bt X V_l_doors) (g_range : X.mg "range" = none) (g_len : X.mg "len" = none) (web_here : (Int × (List (List Int)))) (b : (List (List (Int × Int)))) (F0 : Hp) (os : Os) (D : Ends) (hm : m_l_doors web_here = some b) (R : RetZ F0 (os) (dat (PyData.list (List.map (eD kI PyData.int) b))) D) :
    SX X [sl (dat (PyData.tuple [(PyData.int web_here.1), (PyData.tuple (List.map (eT PyData.int) web_here.2))])), un, un, un, un, un] (os) F0 sts_ D := by
  subst hst_
  unfold m_l_doors at hm
  obtain ⟨z2, h3, hm⟩ := bnd hm
  obtain ⟨t4, h4, hm⟩ := bnd hm
  refine sx_asgLcN (i := 1) B T rfl (by rw [hsc]; exact lcl_of (by decide +kernel)) (f := (odT kI PyData.int)) (m := (fun (row1 : (List Int)) => (some ([] : (List (Int × Int))) : Option (List (Int × Int)))))  (cp_mk1 (j := 5) (vp := fun row1 => (dat (PyData.tuple (List.map PyData.int row1)))) (c := anyOs) B rfl rfl (by rw [B.hN, hsc]; decide +kernel) (by rw [hsc]; decide +kernel) (lenO_ok h3) (ix_tup (enc := (eT PyData.int)) (ex_ixT rdt_dat (by rfl) (ex_v (i := 0) (j := 0) B rfl rfl rfl) ex_int) rdt_dat) (fun _ => trivial)) h4 (fun row1 t q1 hx hf X1 hX => by (obtain rfl := som hf; have B1 := Bd.fam (W' := []) (G' := []) B hX (by (try rw [hsc]); decide +kernel); exact (en_dnew (kd := kI)))) (sw_ok (by rw [hsc]; decide +kernel) (by rw [hsc]; exact lcl_of (by decide +kernel)) (by decide) (by decide +kernel)) (fun q_doors_here4 => ?_)
  refine sx_open 0 rfl (fun k_5 => ?_)
  obtain ⟨t6, h6, hm⟩ := bnd hm
  obtain ⟨f9, h27, hm⟩ := bnd hm
  refine sx_for (c := anyOs) _ (fun (s7 : (List (List (Int × Int)))) (_ : Unit) => [sl (dat (PyData.tuple [(PyData.int web_here.1), (PyData.tuple (List.map (eT PyData.int) web_here.2))])), sl (own q_doors_here4), un, un, un, un]) (fun (s7 : (List (List (Int × Int)))) (_ : Unit) => (q_doors_here4, onl k_5 (List.map (odT kI PyData.int) s7)) :: os) B T (fun room8 => gx_name (i := 2) (vi := 2) (φ := (dat (PyData.int room8))) B T rfl rfl) t4 () f9 h27 (ix_rng1 (gi := 0) B rfl g_range h6 (ex_fn (j := 1) B rfl g_len (by decide +kernel) call_len_seq (rc_lenO (f := (odT kI PyData.int)) (ws := t4) 0 rfl) (ax_cons (ex_v (i := 1) (j := 1) B rfl rfl rfl) ax_nil))) ⟨.inl rfl, .inl rfl, .inl rfl, .inl rfl, .inl rfl, .inl rfl, trivial⟩ (fun _ _ => trivial) (fun F11 e10 s7 _ room8 z28 hx hm => ?_) (fun _ => ?_)
  · clear h27
    obtain ⟨t12, h12, hm⟩ := bnd hm
    obtain ⟨f15, h25, hm⟩ := bnd hm
    refine sx_for (c := anyOs) _ (fun (s13 : (List (List (Int × Int)))) (_ : Unit) => [sl (dat (PyData.tuple [(PyData.int web_here.1), (PyData.tuple (List.map (eT PyData.int) web_here.2))])), sl (own q_doors_here4), sl (dat (PyData.int room8)), un, un, un]) (fun (s13 : (List (List (Int × Int)))) (_ : Unit) => (q_doors_here4, onl k_5 (List.map (odT kI PyData.int) s13)) :: os) B T (fun at_14 => gx_name (i := 3) (vi := 3) (φ := (dat (PyData.int at_14))) B T rfl rfl) s7 () f15 h25 (ix_rng1 (gi := 0) B rfl g_range h12 (ex_ixT rdt_dat (by rfl) (ex_v (i := 0) (j := 0) B rfl rfl rfl) ex_int)) ⟨.inl rfl, .inl rfl, .inl rfl, .inl rfl, .inl rfl, .inl rfl, trivial⟩ (fun _ _ => trivial) (fun F17 e16 s13 _ at_14 z26 hx hm => ?_) (fun _ => ?_)
    · clear h25
      obtain ⟨t18, h18, hm⟩ := bnd hm
      obtain ⟨t19, h19, hm⟩ := bnd hm
      refine sx_asg (i := 4) (vi := 4) (φ := (dat (PyData.int t19))) B T rfl rfl (ex_idxT (enc := PyData.int) h19 rdt_dat (ex_idxT (enc := (eT PyData.int)) h18 rdt_dat (ex_ixT rdt_dat (by rfl) (ex_v (i := 0) (j := 0) B rfl rfl rfl) ex_int) (ex_v (i := 2) (j := 2) B rfl rfl rfl)) (ex_v (i := 3) (j := 3) B rfl rfl rfl)) ?_
      obtain ⟨s24, h_s24, hm⟩ := bnd hm
      refine sx_join [sl (dat (PyData.tuple [(PyData.int web_here.1), (PyData.tuple (List.map (eT PyData.int) web_here.2))])), sl (own q_doors_here4), sl (dat (PyData.int room8)), sl (dat (PyData.int at_14)), sl (dat (PyData.int t19)), un] ((q_doors_here4, onl k_5 (List.map (odT kI PyData.int) s24)) :: os) (?_) (fun Q => ?_)
      · clear h_s24
        obtain rfl := som hm
        exact sx_nil fun σ H a => ⟨(), (a.weak ⟨.inl rfl, .inl rfl, .inl rfl, .inr rfl, .inr rfl, .inl rfl, trivial⟩)⟩
      · have hm := h_s24
        refine sx_if (tx_cmp op_ge r2_ge (nomark _) (ex_v (i := 4) (j := 4) B rfl rfl rfl) ex_int) (fun hk => ?_) (fun hk => ?_)
        · have hm := ifT hm hk
          obtain ⟨t20, h20, hm⟩ := bnd hm
          obtain ⟨t21, h21, hm⟩ := bnd hm
          refine sx_dput (kd := kI) (enc := PyData.int) (w := t20) (x := t19) inj_kI h21 B (ex_v (i := 4) (j := 4) B rfl rfl rfl) (ex_nst (f := (odT kI PyData.int)) (ws := s13) 0 h20 rfl (ex_v (i := 1) (j := 1) B rfl rfl rfl) (ex_v (i := 2) (j := 2) B rfl rfl rfl)) (ex_add (ex_v (i := 3) (j := 3) B rfl rfl rfl) ex_int) (wr_nest (f := (odT kI PyData.int)) (ws := s13) 0 rfl h20) ?_
          obtain ⟨t22, h22, hm⟩ := bnd hm
          obtain ⟨t23, h23, hm⟩ := bnd hm
          refine sx_dput (kd := kI) (enc := PyData.int) (w := t22) (x := room8) inj_kI h23 B (ex_v (i := 2) (j := 2) B rfl rfl rfl) (ex_nst (f := (odT kI PyData.int)) (ws := (setI s13 room8 t21)) 0 h22 rfl (ex_v (i := 1) (j := 1) B rfl rfl rfl) (ex_v (i := 4) (j := 4) B rfl rfl rfl)) (ex_sub (ex_neg (ex_v (i := 3) (j := 3) B rfl rfl rfl)) ex_int) (wr_nest (f := (odT kI PyData.int)) (ws := (setI s13 room8 t21)) 0 rfl h22) ?_
          obtain rfl := som hm
          exact sx_fall Q rfl
        · have hm := ifF hm hk
          obtain rfl := som hm
          exact sx_fall Q rfl
    · skip
      obtain rfl := som hm
      exact sx_nil fun σ H a => ⟨(), (a.weak ⟨.inl rfl, .inl rfl, .inr rfl, .inl rfl, .inl rfl, .inl rfl, trivial⟩)⟩
  · skip
    refine sx_frzF (j := 0) (i := 1) (frb_onl (fun _ => frb_od)) rfl rfl ?_
    obtain rfl := som hm
    exact sx_ret (ex_v (i := 1) (j := 1) B rfl rfl rfl) (fun F H v e o c => R.rt F H v e o c)
theorem cal_l_doors {P : Program} {w : World} {K : PySem.W.Frag} {mg : Str → Option Value} {base : Heap} {f : Addr} {fd : FuncData} (Fn : Fun K "_law_doors" "_law_doors" s_l_doors f fd) (hmg : mg "_law_doors" = some (.ref f)) (hb : Binds K fd ["_law_web_here"] []) (g_range : mg "range" = none) (g_len : mg "len" = none) : Cal P w K mg base 1 "_law_doors" s_l_doors ["_law_web_here"] (sp_l_doors K) := by
  obtain ⟨sts_, hst_⟩ : ∃ z_, defBody s_l_doors = z_ := ⟨_, rfl⟩
  exact cal_ZQ (V := V_l_doors) (Gs := G_l_doors) (nl := 5) hst_ Fn sc_l_doors (by decide +kernel) (by decide +kernel) hmg hb (fun _ => rfl) rfl fun _ _ _ _ _ _ _ a b F0 os D B T hm R => body_l_doors rfl hst_ B T g_range g_len a b F0 os D hm R
abbrev s_l_straight : Stmt := top 36
def N_l_straight : List Str := ["_law_pot_here", "_law_letters", "_law_size", "_law_found", "_law_turn", "_law_menu", "_law_step"]
def V_l_straight : List Str := ["_law_pot_here", "_law_letters", "_law_size", "_law_found", "_law_turn", "_law_menu"]
def G_l_straight : List Str := ["range", "_law_steps", "_law_draw", "len", "tuple"]
theorem sc_l_straight : FnScope N_l_straight ["_law_pot_here", "_law_letters", "_law_size"] (defScope s_l_straight) := ⟨rfl, rfl, rfl, by decide +kernel, rfl, by decide +kernel, by decide +kernel⟩
abbrev sp_l_straight (K : PySem.W.Frag) : Sp := spZ (α := (Addr × (List Int) × Int × Int)) (β := ((List Int) × (List Int))) (fun a => [own a.1, (dat (PyData.int a.2.2.1)), (dat (PyData.int a.2.2.2))]) (fun a => (a.1, ol (List.map PyData.int a.2.1)) :: []) (fun a => m_l_straight a.2.1 a.2.2.1 a.2.2.2) (fun a b => (dat (PyData.tuple (List.map PyData.int b.1)))) (fun a b => (a.1, ol (List.map PyData.int b.2)) :: [])
set_option maxHeartbeats 4000000 in
theorem body_l_straight {X : Cx} (hsc : X.env.scope = defScope s_l_straight) {sts_ : List Stmt} (hst_ : defBody s_l_straight = sts_) (B : Bd X N_l_straight V_l_straight G_l_straight 1) (T : Bt X V_l_straight) (g_range : X.mg "range" = none) (c_l_steps : Cal X.prog X.w X.K X.mg X.base 1 "_law_steps" s_l_steps ["_law_letters"] (sp_l_steps X.K)) (c_l_draw : Cal X.prog X.w X.K X.mg X.base 1 "_law_draw" s_l_draw ["_law_pot_here", "_law_many"] (sp_l_draw X.K)) (g_len : X.mg "len" = none) (g_tuple : X.mg "tuple" = none) (q_pot_here : Addr) (w_pot_here : (List Int)) (letters : Int) (size : Int) (b : ((List Int) × (List Int))) (F0 : Hp) (os : Os) (D : Ends) (hm : m_l_straight w_pot_here letters size = some b) (R : RetZ F0 ((q_pot_here, ol (List.map PyData.int b.2)) :: os) (dat (PyData.tuple (List.map PyData.int b.1))) D) :
    SX X [sl (own q_pot_here), sl (dat (PyData.int letters)), sl (dat (PyData.int size)), un, un, un, un] ((q_pot_here, ol (List.map PyData.int w_pot_here)) :: os) F0 sts_ D := by
  subst hst_
  unfold m_l_straight at hm
  refine sx_asgN (i := 3) (vi := 3) (n := ol (List.map PyData.int ([] : (List Int)))) B T rfl rfl (en_lst (ds := []) ax_nil) (fun q_found0 => ?_)
  obtain ⟨t1, h1, hm⟩ := bnd hm
  obtain ⟨f4, h16, hm⟩ := bnd hm
  refine sx_for (c := anyOs) _ (fun (s2 : ((List Int) × (List Int))) (_ : Unit) => [sl (own q_pot_here), sl (dat (PyData.int letters)), sl (dat (PyData.int size)), sl (own q_found0), un, un, un]) (fun (s2 : ((List Int) × (List Int))) (_ : Unit) => (q_found0, ol (List.map PyData.int s2.1)) :: (q_pot_here, ol (List.map PyData.int s2.2)) :: os) B T (fun turn3 => gx_name (i := 4) (vi := 4) (φ := (dat (PyData.int turn3))) B T rfl rfl) (([] : (List Int)), w_pot_here) () f4 h16 (ix_rng1 (gi := 0) B rfl g_range h1 (ex_v (i := 2) (j := 2) B rfl rfl rfl)) ⟨.inl rfl, .inl rfl, .inl rfl, .inl rfl, .inl rfl, .inl rfl, .inl rfl, trivial⟩ (fun _ _ => trivial) (fun F6 e5 s2 _ turn3 z17 hx hm => ?_) (fun _ => ?_)
  · clear h16
    obtain ⟨t7, h7, hm⟩ := bnd hm
    obtain ⟨t12, h12, hm⟩ := bnd hm
    refine sx_asgLc (i := 5) B T rfl (by rw [hsc]; exact lcl_of (by decide +kernel)) (lc_mk1 (j := 6) (vp := fun step8 => (dat (PyData.int step8))) (c := anyOs) (enc := PyData.int) (fun (_ : Unit) (step8 : Int) => ((fun (step8 : Int) => ((if (decide (s2.1 = ([] : (List Int)))) = true then some true else ((idx s2.1 (-1)).bind fun t10 => some (!decide (step8 = (-t10))))).bind fun t11 => if t11 = true then some (some step8) else some none)) step8).map fun y => (y, ())) (fun (_ : Unit) (tl1 : Os) => (q_found0, ol (List.map PyData.int s2.1)) :: (q_pot_here, ol (List.map PyData.int s2.2)) :: tl1) () (t12) () B rfl rfl (by rw [B.hN, hsc]; decide +kernel) (by rw [hsc]; decide +kernel) (by decide) (lcG_ok h12) (ix_list (enc := PyData.int) (c := anyOs) (ex_call (a := letters) (b := t7) (gi := 1) (rest := (q_found0, ol (List.map PyData.int s2.1)) :: (q_pot_here, ol (List.map PyData.int s2.2)) :: os) B rfl c_l_steps (by decide) h7 (ax_cons (ex_v (i := 1) (j := 1) B rfl rfl rfl) ax_nil)) (fun _ _ => rdl_dat) trivial) (fun _ _ => trivial) (fun _ _ _ => ((List.Perm.cons _ (List.Perm.swap _ _ _)).trans (List.Perm.swap _ _ _))) (fun _ step8 t tl1 hx hf => by (obtain ⟨y, hy, rfl⟩ := Option.map_eq_some_iff.mp hf; obtain ⟨t11, h11, hy⟩ := bnd hy; cases hc : t11 with | true => (have hy := ifT hy hc; obtain rfl := som hy; exact ⟨true, _, fun X1 hX => by (have B1 := Bd.fam (W' := ["_law_found", "_law_step"]) (G' := []) B hX (by (try rw [hsc]); decide +kernel); exact ⟨.one (TX.to (WX.tx (wx_or (l := t11) (os2 := (q_found0, ol (List.map PyData.int s2.1)) :: (q_pot_here, ol (List.map PyData.int s2.2)) :: tl1) (tx_eqR (e := (eL PyData.int)) (x := s2.1) (y := ([] : (List Int))) B1 (eqv_list eqv_int) (sh_list sh_int) (by decide) (rdx_own (ds := List.map PyData.int s2.1) 0 rfl) rdx_dat (ex_v (i := 3) (j := 0) B1 rfl rfl rfl) (EN.ex (en_lst (ds := []) ax_nil))) (fun hk => by (have hm := ifF h11 hk; obtain ⟨t10, h10, hm⟩ := bnd hm; obtain rfl := som hm; exact (wx_or1 (tx_cmp op_ne r2_neI (nomark _) (ex_v (i := 6) (j := 1) B1 rfl rfl rfl) (ex_neg (ex_idxL (enc := PyData.int) h10 (rdl_own 0 rfl) (ex_v (i := 3) (j := 0) B1 rfl rfl rfl) (ex_neg ex_int))))))) (fun hk => by (have hm := ifT h11 hk; obtain rfl := som hm; rfl)) (or_fix (fun hk => by (have hm := ifT h11 hk; obtain rfl := som hm; rfl))))) hc), fun _ => ⟨_, rfl, (ex_v (i := 6) (j := 1) B1 rfl rfl rfl)⟩, fun h => Bool.noConfusion h⟩)⟩) | false => (have hy := ifF hy hc; obtain rfl := som hy; exact ⟨false, _, fun X1 hX => by (have B1 := Bd.fam (W' := ["_law_found", "_law_step"]) (G' := []) B hX (by (try rw [hsc]); decide +kernel); exact ⟨.one (TX.to (WX.tx (wx_or (l := t11) (os2 := (q_found0, ol (List.map PyData.int s2.1)) :: (q_pot_here, ol (List.map PyData.int s2.2)) :: tl1) (tx_eqR (e := (eL PyData.int)) (x := s2.1) (y := ([] : (List Int))) B1 (eqv_list eqv_int) (sh_list sh_int) (by decide) (rdx_own (ds := List.map PyData.int s2.1) 0 rfl) rdx_dat (ex_v (i := 3) (j := 0) B1 rfl rfl rfl) (EN.ex (en_lst (ds := []) ax_nil))) (fun hk => by (have hm := ifF h11 hk; obtain ⟨t10, h10, hm⟩ := bnd hm; obtain rfl := som hm; exact (wx_or1 (tx_cmp op_ne r2_neI (nomark _) (ex_v (i := 6) (j := 1) B1 rfl rfl rfl) (ex_neg (ex_idxL (enc := PyData.int) h10 (rdl_own 0 rfl) (ex_v (i := 3) (j := 0) B1 rfl rfl rfl) (ex_neg ex_int))))))) (fun hk => by (have hm := ifT h11 hk; obtain rfl := som hm; rfl)) (or_fix (fun hk => by (have hm := ifT h11 hk; obtain rfl := som hm; rfl))))) hc), fun h => Bool.noConfusion h, fun _ => ⟨rfl, rfl⟩⟩)⟩)))) (sw_ok (by rw [hsc]; decide +kernel) (by rw [hsc]; exact lcl_of (by decide +kernel)) (by decide) (by decide +kernel)) (fun q_menu12 => ?_)
    refine sx_frz (j := 0) (i := 5) rfl rfl ?_
    obtain ⟨t13, h13, hm⟩ := bnd hm
    obtain ⟨t14, h14, hm⟩ := bnd hm
    obtain ⟨t15, h15, hm⟩ := bnd hm
    refine sx_expr (ex_appW (enc := PyData.int) (xs0 := s2.1) (xs := s2.1) (y := t14) h15 (ex_v (i := 3) (j := 3) B rfl rfl rfl) (wr_flat (f := (olT PyData.int)) (d := s2.1) 0 rfl) (ex_idxL (enc := PyData.int) h14 rdl_dat (ex_v (i := 5) (j := 5) B rfl rfl rfl) (EX.pre (ex_call (a := (q_pot_here, s2.2, (t12.length : Int))) (b := t13) (gi := 2) (rest := (q_found0, ol (List.map PyData.int s2.1)) :: os) B rfl c_l_draw (by decide) h13 (ax_cons (ex_v (i := 0) (j := 0) B rfl rfl rfl) (ax_cons (EX.to (ex_fn (j := 3) B rfl g_len (by decide +kernel) call_len_seq (rc_lenL (ds := List.map PyData.int t12) rdl_dat) (ax_cons (ex_v (i := 5) (j := 5) B rfl rfl rfl) ax_nil)) (by rw [List.length_map])) ax_nil))) (perm_at (k := 1) rfl))) (wr_flat (f := (olT PyData.int)) (d := s2.1) 1 rfl)) ?_
    obtain rfl := som hm
    exact sx_nil fun σ H a => ⟨(), ((a.perm (perm_at (k := 1) rfl)).weak ⟨.inl rfl, .inl rfl, .inl rfl, .inl rfl, .inr rfl, .inr rfl, .inl rfl, trivial⟩)⟩
  · skip
    refine sx_frz (j := 0) (i := 3) rfl rfl ?_
    obtain rfl := som hm
    exact sx_ret (ex_ty (j := 4) B rfl g_tuple (by decide +kernel) call_tuple_of (rc_tupL (ds := List.map PyData.int f4.1) rdl_dat) (ax_cons (ex_v (i := 3) (j := 3) B rfl rfl rfl) ax_nil)) (fun F H v e o c => R.rt F H v e o c)
theorem cal_l_straight {P : Program} {w : World} {K : PySem.W.Frag} {mg : Str → Option Value} {base : Heap} {f : Addr} {fd : FuncData} (Fn : Fun K "_law_straight" "_law_straight" s_l_straight f fd) (hmg : mg "_law_straight" = some (.ref f)) (hb : Binds K fd ["_law_pot_here", "_law_letters", "_law_size"] []) (g_range : mg "range" = none) (c_l_steps : Cal P w K mg base 1 "_law_steps" s_l_steps ["_law_letters"] (sp_l_steps K)) (c_l_draw : Cal P w K mg base 1 "_law_draw" s_l_draw ["_law_pot_here", "_law_many"] (sp_l_draw K)) (g_len : mg "len" = none) (g_tuple : mg "tuple" = none) : Cal P w K mg base 2 "_law_straight" s_l_straight ["_law_pot_here", "_law_letters", "_law_size"] (sp_l_straight K) := by
  obtain ⟨sts_, hst_⟩ : ∃ z_, defBody s_l_straight = z_ := ⟨_, rfl⟩
  exact cal_ZQ (V := V_l_straight) (Gs := G_l_straight) (nl := 4) hst_ Fn sc_l_straight (by decide +kernel) (by decide +kernel) hmg hb (fun _ => rfl) rfl fun _ _ _ _ _ _ _ a b F0 os D B T hm R => body_l_straight rfl hst_ B T g_range c_l_steps c_l_draw g_len g_tuple a.1 a.2.1 a.2.2.1 a.2.2.2 b F0 os D hm R
abbrev s_l_tables : Stmt := top 37
def N_l_tables : List Str := ["_law_pot_here", "_law_letters", "_law_count", "_law_gaps", "_law_doors_here", "_law_letter", "_law_left", "_law_room", "_law_goal"]
def V_l_tables : List Str := ["_law_pot_here", "_law_letters", "_law_count", "_law_gaps", "_law_doors_here", "_law_letter", "_law_left", "_law_room", "_law_goal"]
def G_l_tables : List Str := ["range", "list", "_law_draw", "len"]
theorem sc_l_tables : FnScope N_l_tables ["_law_pot_here", "_law_letters", "_law_count", "_law_gaps"] (defScope s_l_tables) := ⟨rfl, rfl, rfl, by decide +kernel, rfl, by decide +kernel, by decide +kernel⟩
abbrev sp_l_tables (K : PySem.W.Frag) : Sp := spZ (α := (Addr × (List Int) × Int × Int × Int)) (β := ((List (List (Int × Int))) × (List Int))) (fun a => [own a.1, (dat (PyData.int a.2.2.1)), (dat (PyData.int a.2.2.2.1)), (dat (PyData.int a.2.2.2.2))]) (fun a => (a.1, ol (List.map PyData.int a.2.1)) :: []) (fun a => m_l_tables a.2.1 a.2.2.1 a.2.2.2.1 a.2.2.2.2) (fun a b => (dat (PyData.list (List.map (eD kI PyData.int) b.1)))) (fun a b => (a.1, ol (List.map PyData.int b.2)) :: [])
set_option maxHeartbeats 4000000 in
theorem body_l_tables {X : Cx} (hsc : X.env.scope = defScope s_l_tables) {sts_ : List Stmt} (hst_ : defBody s_l_tables = sts_) (B : Bd X N_l_tables V_l_tables G_l_tables 1) (T : Bt X V_l_tables) (g_range : X.mg "range" = none) (g_list : X.mg "list" = none) (c_l_draw : Cal X.prog X.w X.K X.mg X.base 1 "_law_draw" s_l_draw ["_law_pot_here", "_law_many"] (sp_l_draw X.K)) (g_len : X.mg "len" = none) (q_pot_here : Addr) (w_pot_here : (List Int)) (letters : Int) (count : Int) (gaps : Int) (b : ((List (List (Int × Int))) × (List Int))) (F0 : Hp) (os : Os) (D : Ends) (hm : m_l_tables w_pot_here letters count gaps = some b) (R : RetZ F0 ((q_pot_here, ol (List.map PyData.int b.2)) :: os) (dat (PyData.list (List.map (eD kI PyData.int) b.1))) D) :
    SX X [sl (own q_pot_here), sl (dat (PyData.int letters)), sl (dat (PyData.int count)), sl (dat (PyData.int gaps)), un, un, un, un, un] ((q_pot_here, ol (List.map PyData.int w_pot_here)) :: os) F0 sts_ D := by
  subst hst_
  unfold m_l_tables at hm
  obtain ⟨t1, h1, hm⟩ := bnd hm
  obtain ⟨z3, h4, hm⟩ := bnd hm
  obtain ⟨t5, h5, hm⟩ := bnd hm
  refine sx_asgLcN (i := 4) B T rfl (by rw [hsc]; exact lcl_of (by decide +kernel)) (f := (odT kI PyData.int)) (m := (fun (room2 : Int) => (some ([] : (List (Int × Int))) : Option (List (Int × Int)))))  (cp_mk1 (j := 7) (vp := fun room2 => (dat (PyData.int room2))) (c := anyOs) B rfl rfl (by rw [B.hN, hsc]; decide +kernel) (by rw [hsc]; decide +kernel) (lenO_ok h4) (ix_rng1 (gi := 0) B rfl g_range h1 (ex_v (i := 2) (j := 2) B rfl rfl rfl)) (fun _ => trivial)) h5 (fun room2 t q1 hx hf X1 hX => by (obtain rfl := som hf; have B1 := Bd.fam (W' := []) (G' := []) B hX (by (try rw [hsc]); decide +kernel); exact (en_dnew (kd := kI)))) (sw_ok (by rw [hsc]; decide +kernel) (by rw [hsc]; exact lcl_of (by decide +kernel)) (by decide) (by decide +kernel)) (fun q_doors_here5 => ?_)
  refine sx_open 0 rfl (fun k_6 => ?_)
  obtain ⟨t7, h7, hm⟩ := bnd hm
  obtain ⟨f10, h31, hm⟩ := bnd hm
  refine sx_for (c := anyOs) _ (fun (s8 : ((List (List (Int × Int))) × (List Int))) (_ : Unit) => [sl (own q_pot_here), sl (dat (PyData.int letters)), sl (dat (PyData.int count)), sl (dat (PyData.int gaps)), sl (own q_doors_here5), un, un, un, un]) (fun (s8 : ((List (List (Int × Int))) × (List Int))) (_ : Unit) => (q_doors_here5, onl k_6 (List.map (odT kI PyData.int) s8.1)) :: (q_pot_here, ol (List.map PyData.int s8.2)) :: os) B T (fun letter9 => gx_name (i := 5) (vi := 5) (φ := (dat (PyData.int letter9))) B T rfl rfl) (t5, w_pot_here) () f10 h31 (ix_rng2 (gi := 0) B rfl g_range h7 ex_int (ex_add (ex_v (i := 1) (j := 1) B rfl rfl rfl) ex_int)) ⟨.inl rfl, .inl rfl, .inl rfl, .inl rfl, .inl rfl, .inl rfl, .inl rfl, .inl rfl, .inl rfl, trivial⟩ (fun _ _ => trivial) (fun F12 e11 s8 _ letter9 z32 hx hm => ?_) (fun _ => ?_)
  · clear h31
    obtain ⟨t13, h13, hm⟩ := bnd hm
    refine sx_asgN (i := 6) (vi := 6) (n := ol (List.map PyData.int t13)) B T rfl rfl (en_rgL1 (gi := 1) (gj := 0) B rfl rfl g_list g_range h13 (ex_v (i := 2) (j := 2) B rfl rfl rfl)) (fun q_left13 => ?_)
    obtain ⟨t14, h14, hm⟩ := bnd hm
    obtain ⟨f17, h29, hm⟩ := bnd hm
    refine sx_for (c := anyOs) _ (fun (s15 : ((List Int) × (List (List (Int × Int))) × (List Int))) (_ : Unit) => [sl (own q_pot_here), sl (dat (PyData.int letters)), sl (dat (PyData.int count)), sl (dat (PyData.int gaps)), sl (own q_doors_here5), sl (dat (PyData.int letter9)), sl (own q_left13), un, un]) (fun (s15 : ((List Int) × (List (List (Int × Int))) × (List Int))) (_ : Unit) => (q_left13, ol (List.map PyData.int s15.1)) :: (q_doors_here5, onl k_6 (List.map (odT kI PyData.int) s15.2.1)) :: (q_pot_here, ol (List.map PyData.int s15.2.2)) :: os) B T (fun room16 => gx_name (i := 7) (vi := 7) (φ := (dat (PyData.int room16))) B T rfl rfl) (t13, s8.1, s8.2) () f17 h29 (ix_rng1 (gi := 0) B rfl g_range h14 (ex_v (i := 2) (j := 2) B rfl rfl rfl)) ⟨.inl rfl, .inl rfl, .inl rfl, .inl rfl, .inl rfl, .inl rfl, .inl rfl, .inl rfl, .inl rfl, trivial⟩ (fun _ _ => trivial) (fun F19 e18 s15 _ room16 z30 hx hm => ?_) (fun _ => ?_)
    · clear h29
      obtain ⟨t20, h20, hm⟩ := bnd hm
      obtain ⟨t21, h21, hm⟩ := bnd hm
      refine sx_asg (i := 8) (vi := 8) (φ := (dat (PyData.int t21.1))) B T rfl rfl (ex_popI2 (enc := PyData.int) (m := 0) (j := 1) (xs := s15.1) (xs0 := s15.1) h21 (ex_v (i := 6) (j := 6) B rfl rfl rfl) rfl (EX.pre (ex_call (a := (q_pot_here, s15.2.2, (s15.1.length : Int))) (b := t20) (gi := 2) (rest := (q_left13, ol (List.map PyData.int s15.1)) :: (q_doors_here5, onl k_6 (List.map (odT kI PyData.int) s15.2.1)) :: os) B rfl c_l_draw (by decide) h20 (ax_cons (ex_v (i := 0) (j := 0) B rfl rfl rfl) (ax_cons (EX.to (ex_fn (j := 3) B rfl g_len (by decide +kernel) call_len_seq (rc_lenL (ds := List.map PyData.int s15.1) (rdl_own 1 rfl)) (ax_cons (ex_v (i := 6) (j := 6) B rfl rfl rfl) ax_nil)) (by rw [List.length_map])) ax_nil))) (perm_at (k := 2) rfl)) rfl) ?_
      obtain ⟨t23, h23, hm⟩ := bnd hm
      obtain ⟨s28, h_s28, hm⟩ := bnd hm
      refine sx_join [sl (own q_pot_here), sl (dat (PyData.int letters)), sl (dat (PyData.int count)), sl (dat (PyData.int gaps)), sl (own q_doors_here5), sl (dat (PyData.int letter9)), sl (own q_left13), sl (dat (PyData.int room16)), sl (dat (PyData.int t21.1))] ((q_pot_here, ol (List.map PyData.int t23.2)) :: (q_left13, ol (List.map PyData.int t21.2)) :: (q_doors_here5, onl k_6 (List.map (odT kI PyData.int) s28)) :: os) (?_) (fun Q => ?_)
      · clear h_s28
        obtain rfl := som hm
        exact sx_nil fun σ H a => ⟨(), (((a.perm (perm_at (k := 2) rfl)).perm (perm_at (k := 2) rfl)).weak ⟨.inl rfl, .inl rfl, .inl rfl, .inl rfl, .inl rfl, .inl rfl, .inl rfl, .inr rfl, .inr rfl, trivial⟩)⟩
      · have hm := h_s28
        refine sx_if (WX.tx (wx_or (l := t23.1) (os2 := (q_pot_here, ol (List.map PyData.int t23.2)) :: (q_left13, ol (List.map PyData.int t21.2)) :: (q_doors_here5, onl k_6 (List.map (odT kI PyData.int) s15.2.1)) :: os) (tx_cmp op_eq r2_eqI (nomark _) (ex_v (i := 3) (j := 3) B rfl rfl rfl) ex_int) (fun hk => by (have hm := ifF h23 hk; obtain ⟨t22, h22, hm⟩ := bnd hm; obtain rfl := som hm; exact (wx_or1 (tx_cmp op_gt r2_gt (nomark _) (ex_call (a := (q_pot_here, t20.2, gaps)) (b := t22) (gi := 2) (rest := (q_left13, ol (List.map PyData.int t21.2)) :: (q_doors_here5, onl k_6 (List.map (odT kI PyData.int) s15.2.1)) :: os) B rfl c_l_draw (by decide) h22 (ax_cons (ex_v (i := 0) (j := 0) B rfl rfl rfl) (ax_cons (ex_v (i := 3) (j := 3) B rfl rfl rfl) ax_nil))) ex_int)))) (fun hk => by (have hm := ifT h23 hk; obtain rfl := som hm; rfl)) (or_fix (fun hk => by (have hm := ifT h23 hk; obtain rfl := som hm; rfl))))) (fun hk => ?_) (fun hk => ?_)
        · have hm := ifT hm hk
          obtain ⟨t24, h24, hm⟩ := bnd hm
          obtain ⟨t25, h25, hm⟩ := bnd hm
          refine sx_dput (kd := kI) (enc := PyData.int) (w := t24) (x := t21.1) inj_kI h25 B (ex_v (i := 8) (j := 8) B rfl rfl rfl) (ex_nst (f := (odT kI PyData.int)) (ws := s15.2.1) 2 h24 rfl (ex_v (i := 4) (j := 4) B rfl rfl rfl) (ex_v (i := 7) (j := 7) B rfl rfl rfl)) (ex_v (i := 5) (j := 5) B rfl rfl rfl) (wr_nest (f := (odT kI PyData.int)) (ws := s15.2.1) 2 rfl h24) ?_
          obtain ⟨t26, h26, hm⟩ := bnd hm
          obtain ⟨t27, h27, hm⟩ := bnd hm
          refine sx_dput (kd := kI) (enc := PyData.int) (w := t26) (x := room16) inj_kI h27 B (ex_v (i := 7) (j := 7) B rfl rfl rfl) (ex_nst (f := (odT kI PyData.int)) (ws := (setI s15.2.1 room16 t25)) 2 h26 rfl (ex_v (i := 4) (j := 4) B rfl rfl rfl) (ex_v (i := 8) (j := 8) B rfl rfl rfl)) (ex_neg (ex_v (i := 5) (j := 5) B rfl rfl rfl)) (wr_nest (f := (odT kI PyData.int)) (ws := (setI s15.2.1 room16 t25)) 2 rfl h26) ?_
          obtain rfl := som hm
          exact sx_fall Q rfl
        · have hm := ifF hm hk
          obtain rfl := som hm
          exact sx_fall Q rfl
    · skip
      obtain rfl := som hm
      exact sx_nil fun σ H a => ⟨(), ((a.drop).weak ⟨.inl rfl, .inl rfl, .inl rfl, .inl rfl, .inl rfl, .inr rfl, .inr rfl, .inl rfl, .inl rfl, trivial⟩)⟩
  · skip
    refine sx_frzF (j := 0) (i := 4) (frb_onl (fun _ => frb_od)) rfl rfl ?_
    obtain rfl := som hm
    exact sx_ret (ex_v (i := 4) (j := 4) B rfl rfl rfl) (fun F H v e o c => R.rt F H v e o c)
theorem cal_l_tables {P : Program} {w : World} {K : PySem.W.Frag} {mg : Str → Option Value} {base : Heap} {f : Addr} {fd : FuncData} (Fn : Fun K "_law_tables" "_law_tables" s_l_tables f fd) (hmg : mg "_law_tables" = some (.ref f)) (hb : Binds K fd ["_law_pot_here", "_law_letters", "_law_count", "_law_gaps"] []) (g_range : mg "range" = none) (g_list : mg "list" = none) (c_l_draw : Cal P w K mg base 1 "_law_draw" s_l_draw ["_law_pot_here", "_law_many"] (sp_l_draw K)) (g_len : mg "len" = none) : Cal P w K mg base 2 "_law_tables" s_l_tables ["_law_pot_here", "_law_letters", "_law_count", "_law_gaps"] (sp_l_tables K) := by
  obtain ⟨sts_, hst_⟩ : ∃ z_, defBody s_l_tables = z_ := ⟨_, rfl⟩
  exact cal_ZQ (V := V_l_tables) (Gs := G_l_tables) (nl := 5) hst_ Fn sc_l_tables (by decide +kernel) (by decide +kernel) hmg hb (fun _ => rfl) rfl fun _ _ _ _ _ _ _ a b F0 os D B T hm R => body_l_tables rfl hst_ B T g_range g_list c_l_draw g_len a.1 a.2.1 a.2.2.1 a.2.2.2.1 a.2.2.2.2 b F0 os D hm R
abbrev s_l_rings : Stmt := top 38
def N_l_rings : List Str := ["_law_walks", "_law_ways", "_law_count", "_law_walk", "_law_rooms", "_law_k", "_law_heads", "_law_doors_here", "_law_turn", "_law_room", "_law_step", "_law_goal", "_law_here", "_law_there", "_law_known", "_law_low", "_law_high", "_law_head"]
def V_l_rings : List Str := ["_law_walks", "_law_ways", "_law_count", "_law_walk", "_law_rooms", "_law_k", "_law_heads", "_law_doors_here", "_law_turn", "_law_room", "_law_step", "_law_goal", "_law_here", "_law_there", "_law_known", "_law_low", "_law_high"]
def G_l_rings : List Str := ["range", "len", "list", "min", "max"]
theorem sc_l_rings : FnScope N_l_rings ["_law_walks"] (defScope s_l_rings) := ⟨rfl, rfl, rfl, by decide +kernel, rfl, by decide +kernel, by decide +kernel⟩
abbrev sp_l_rings (K : PySem.W.Frag) : Sp := spZ (α := (List (List Int))) (β := (List (List (Int × Int)))) (fun a => [(dat (PyData.list (List.map (eT PyData.int) a)))]) (fun a => []) (fun a => m_l_rings a) (fun a b => (dat (PyData.list (List.map (eD kI PyData.int) b)))) (fun a b => [])
set_option maxHeartbeats 4000000 in
theorem body_l_rings {X : Cx} (hsc : X.env.scope = defScope s_l_rings) {sts_ : List Stmt} (hst_ : defBody s_l_rings = sts_) (B : Bd X N_l_rings V_l_rings G_l_rings 0) (T : Bt X V_l_rings) (g_range : X.mg "range" = none) (g_len : X.mg "len" = none) (g_list : X.mg "list" = none) (g_min : X.mg "min" = none) (g_max : X.mg "max" = none) (walks : (List (List Int))) (b : (List (List (Int × Int)))) (F0 : Hp) (os : Os) (D : Ends) (hm : m_l_rings walks = some b) (R : RetZ F0 (os) (dat (PyData.list (List.map (eD kI PyData.int) b))) D) :
    SX X [sl (dat (PyData.list (List.map (eT PyData.int) walks))), un, un, un, un, un, un, un, un, un, un, un, un, un, un, un, un, un] (os) F0 sts_ D := by
  subst hst_
  unfold m_l_rings at hm
  refine sx_mk2 (i := 1) (j := 2) (vi := 1) (gi := 2) _ hsc B T rfl rfl rfl rfl (by intro env he; cases env; cases he; first | rfl | kernel_rfl) (aq_n (n := ol (List.map (eP3 PyData.int PyData.int PyData.int) ([] : (List (Tri Int Int Int))))) (en_lst (ds := []) ax_nil) (fun q_ways1 => (aq_x (φ := (dat (PyData.int 1))) ex_int aq_nil))) (fun v0 v1 os_ hr_ => ?_) (by rintro φs os_ ⟨q_ways1, _, rfl, _, rfl, rfl, rfl⟩; exact ⟨_, _, rfl⟩)
  obtain ⟨q_ways1, _, e0, _, e1, e8, e9⟩ := hr_
  cases e0; cases e1; cases e8; cases e9
  obtain ⟨f4, h29, hm⟩ := bnd hm
  refine sx_for (c := anyOs) _ (fun (s2 : (Int × (List (Tri Int Int Int)))) (_ : Unit) => [sl (dat (PyData.list (List.map (eT PyData.int) walks))), sl (own q_ways1), sl (dat (PyData.int s2.1)), un, un, un, un, un, un, un, un, un, un, un, un, un, un, un]) (fun (s2 : (Int × (List (Tri Int Int Int)))) (_ : Unit) => (q_ways1, ol (List.map (eP3 PyData.int PyData.int PyData.int) s2.2)) :: os) B T (fun walk3 => gx_name (i := 3) (vi := 3) (φ := (dat (PyData.tuple (List.map PyData.int walk3)))) B T rfl rfl) (1, ([] : (List (Tri Int Int Int)))) () f4 h29 (ix_list (enc := (eT PyData.int)) (c := anyOs) (ex_v (i := 0) (j := 0) B rfl rfl rfl) (fun _ _ => rdl_dat) trivial) ⟨.inl rfl, .inl rfl, .inl rfl, .inl rfl, .inl rfl, .inl rfl, .inl rfl, .inl rfl, .inl rfl, .inl rfl, .inl rfl, .inl rfl, .inl rfl, .inl rfl, .inl rfl, .inl rfl, .inl rfl, .inl rfl, trivial⟩ (fun _ _ => trivial) (fun F6 e5 s2 _ walk3 z62 hx hm => ?_) (fun _ => ?_)
  · clear h29
    obtain ⟨t7, h7, hm⟩ := bnd hm
    obtain ⟨t10, h10, hm⟩ := bnd hm
    obtain ⟨t11, h11, hm⟩ := bnd hm
    obtain ⟨t12, h12, hm⟩ := bnd hm
    refine sx_asg (i := 4) (vi := 4) (φ := (dat (PyData.list (List.map PyData.int t12)))) B T rfl rfl (EN.ex (en_cat (enc := PyData.int) h12 (EN.ex (en_cat (enc := PyData.int) h11 (EN.ex (en_lst (ds := [(PyData.int 0)]) (hl := len_ok (n := 1) rfl) (ax_cons ex_int ax_nil))) (EN.ex (en_lc (lc_mk1 (j := 5) (vp := fun k_8 => (dat (PyData.int k_8))) (c := anyOs) (enc := PyData.int) (fun (_ : Unit) (k_8 : Int) => some (some (s2.1 + k_8), ())) (fun (_ : Unit) (tl1 : Os) => (q_ways1, ol (List.map (eP3 PyData.int PyData.int PyData.int) s2.2)) :: tl1) () (t10) () B rfl rfl (by rw [B.hN, hsc]; decide +kernel) (by rw [hsc]; decide +kernel) (by decide) (lcT_ok h10) (ix_rng1 (gi := 0) B rfl g_range h7 (ex_sub (EX.to (ex_fn (j := 1) B rfl g_len (by decide +kernel) call_len_seq (rc_lenT (ds := List.map PyData.int walk3) rdt_dat) (ax_cons (ex_v (i := 3) (j := 3) B rfl rfl rfl) ax_nil)) (by rw [List.length_map])) ex_int)) (fun _ _ => trivial) (fun _ _ _ => (List.Perm.swap _ _ _)) (fun _ k_8 t tl1 hx hf => by (obtain rfl := som hf; exact ⟨true, _, fun X1 hX => by (have B1 := Bd.fam (W' := ["_law_count", "_law_k"]) (G' := []) B hX (by (try rw [hsc]); decide +kernel); exact ⟨.nil, fun _ => ⟨_, rfl, (ex_add (ex_v (i := 2) (j := 0) B1 rfl rfl rfl) (ex_v (i := 5) (j := 1) B1 rfl rfl rfl))⟩, fun h => Bool.noConfusion h⟩)⟩))))))) (EN.ex (en_lst (ds := [(PyData.int 0)]) (hl := len_ok (n := 1) rfl) (ax_cons ex_int ax_nil))))) ?_
    refine sx_asg (i := 2) (vi := 2) (φ := (dat (PyData.int ((s2.1 + (walk3.length : Int)) - 1)))) B T rfl rfl (ex_sub (ex_add (ex_v (i := 2) (j := 2) B rfl rfl rfl) (EX.to (ex_fn (j := 1) B rfl g_len (by decide +kernel) call_len_seq (rc_lenT (ds := List.map PyData.int walk3) rdt_dat) (ax_cons (ex_v (i := 3) (j := 3) B rfl rfl rfl) ax_nil)) (by rw [List.length_map]))) ex_int) ?_
    obtain ⟨t13, h13, hm⟩ := bnd hm
    obtain ⟨f16, h27, hm⟩ := bnd hm
    refine sx_for (c := anyOs) _ (fun (s14 : (List (Tri Int Int Int))) (_ : Unit) => [sl (dat (PyData.list (List.map (eT PyData.int) walks))), sl (own q_ways1), sl (dat (PyData.int ((s2.1 + (walk3.length : Int)) - 1))), sl (dat (PyData.tuple (List.map PyData.int walk3))), sl (dat (PyData.list (List.map PyData.int t12))), un, un, un, un, un, un, un, un, un, un, un, un, un]) (fun (s14 : (List (Tri Int Int Int))) (_ : Unit) => (q_ways1, ol (List.map (eP3 PyData.int PyData.int PyData.int) s14)) :: os) B T (fun k_15 => gx_name (i := 5) (vi := 5) (φ := (dat (PyData.int k_15))) B T rfl rfl) s2.2 () f16 h27 (ix_rng1 (gi := 0) B rfl g_range h13 (EX.to (ex_fn (j := 1) B rfl g_len (by decide +kernel) call_len_seq (rc_lenT (ds := List.map PyData.int walk3) rdt_dat) (ax_cons (ex_v (i := 3) (j := 3) B rfl rfl rfl) ax_nil)) (by rw [List.length_map]))) ⟨.inl rfl, .inl rfl, .inl rfl, .inl rfl, .inl rfl, .inl rfl, .inl rfl, .inl rfl, .inl rfl, .inl rfl, .inl rfl, .inl rfl, .inl rfl, .inl rfl, .inl rfl, .inl rfl, .inl rfl, .inl rfl, trivial⟩ (fun _ _ => trivial) (fun F18 e17 s14 _ k_15 z28 hx hm => ?_) (fun _ => ?_)
    · clear h27
      obtain ⟨t19, h19, hm⟩ := bnd hm
      obtain ⟨t20, h20, hm⟩ := bnd hm
      obtain ⟨t21, h21, hm⟩ := bnd hm
      obtain ⟨t22, h22, hm⟩ := bnd hm
      refine sx_expr (ex_app (enc := (eP3 PyData.int PyData.int PyData.int)) (j := 0) (xs0 := s14) (xs := s14) (y := (Tri.mk t19 t20 t21)) h22 (ex_v (i := 1) (j := 1) B rfl rfl rfl) rfl (ex_tup (ds := [(PyData.int t19), (PyData.int t20), (PyData.int t21)]) (hl := len_ok (n := 3) rfl) (ax_cons (ex_idxL (enc := PyData.int) h19 rdl_dat (ex_v (i := 4) (j := 4) B rfl rfl rfl) (ex_v (i := 5) (j := 5) B rfl rfl rfl)) (ax_cons (ex_idxT (enc := PyData.int) h20 rdt_dat (ex_v (i := 3) (j := 3) B rfl rfl rfl) (ex_v (i := 5) (j := 5) B rfl rfl rfl)) (ax_cons (ex_idxL (enc := PyData.int) h21 rdl_dat (ex_v (i := 4) (j := 4) B rfl rfl rfl) (ex_add (ex_v (i := 5) (j := 5) B rfl rfl rfl) ex_int)) ax_nil)))) rfl) ?_
      obtain ⟨t23, h23, hm⟩ := bnd hm
      obtain ⟨t24, h24, hm⟩ := bnd hm
      obtain ⟨t25, h25, hm⟩ := bnd hm
      obtain ⟨t26, h26, hm⟩ := bnd hm
      refine sx_expr (ex_app (enc := (eP3 PyData.int PyData.int PyData.int)) (j := 0) (xs0 := t22) (xs := t22) (y := (Tri.mk t23 (-t24) t25)) h26 (ex_v (i := 1) (j := 1) B rfl rfl rfl) rfl (ex_tup (ds := [(PyData.int t23), (PyData.int (-t24)), (PyData.int t25)]) (hl := len_ok (n := 3) rfl) (ax_cons (ex_idxL (enc := PyData.int) h23 rdl_dat (ex_v (i := 4) (j := 4) B rfl rfl rfl) (ex_add (ex_v (i := 5) (j := 5) B rfl rfl rfl) ex_int)) (ax_cons (ex_neg (ex_idxT (enc := PyData.int) h24 rdt_dat (ex_v (i := 3) (j := 3) B rfl rfl rfl) (ex_v (i := 5) (j := 5) B rfl rfl rfl))) (ax_cons (ex_idxL (enc := PyData.int) h25 rdl_dat (ex_v (i := 4) (j := 4) B rfl rfl rfl) (ex_v (i := 5) (j := 5) B rfl rfl rfl)) ax_nil)))) rfl) ?_
      obtain rfl := som hm
      exact sx_nil fun σ H a => ⟨(), (a.weak ⟨.inl rfl, .inl rfl, .inl rfl, .inl rfl, .inl rfl, .inr rfl, .inl rfl, .inl rfl, .inl rfl, .inl rfl, .inl rfl, .inl rfl, .inl rfl, .inl rfl, .inl rfl, .inl rfl, .inl rfl, .inl rfl, trivial⟩)⟩
    · skip
      obtain rfl := som hm
      exact sx_nil fun σ H a => ⟨(), (a.weak ⟨.inl rfl, .inl rfl, .inl rfl, .inr rfl, .inr rfl, .inl rfl, .inl rfl, .inl rfl, .inl rfl, .inl rfl, .inl rfl, .inl rfl, .inl rfl, .inl rfl, .inl rfl, .inl rfl, .inl rfl, .inl rfl, trivial⟩)⟩
  · skip
    refine sx_frz (j := 0) (i := 1) rfl rfl ?_
    obtain ⟨t30, h30, hm⟩ := bnd hm
    refine sx_par2 (i := 6) (j := 7) _ hsc B rfl rfl (by decide) (by decide +kernel) (by decide +kernel) (by intro env he; cases env; cases he; first | rfl | kernel_rfl) (aq_x (φ := (dat (PyData.list (List.map PyData.int t30)))) (EN.ex (en_rgL1 (gi := 2) (gj := 0) B rfl rfl g_list g_range h30 (ex_v (i := 2) (j := 2) B rfl rfl rfl))) (aq_n (n := onx (List.map (odT kI PyData.int) ([] : (List (List (Int × Int)))))) (en_nil (f := (odT kI PyData.int))) (fun q_doors_here31 => aq_nil))) (fun v0 v1 os_ hr_ => ?_) (by rintro φs os_ ⟨_, rfl, q_doors_here31, _, rfl, rfl, rfl⟩; exact ⟨_, _, rfl⟩)
    obtain ⟨_, e0, q_doors_here31, _, e1, e8, e9⟩ := hr_
    cases e0; cases e1; cases e8; cases e9
    refine sx_open 0 rfl (fun k_32 => ?_)
    refine sx_frzF (j := 0) (i := 7) (frb_onl (fun _ => frb_od)) rfl rfl ?_
    obtain ⟨t33, h33, hm⟩ := bnd hm
    obtain ⟨f36, h60, hm⟩ := bnd hm
    refine sx_for (c := anyOs) _ (fun (s34 : ((List Int) × (List (List (Int × Int))))) (_ : Unit) => [sl (dat (PyData.list (List.map (eT PyData.int) walks))), sl (dat (PyData.list (List.map (eP3 PyData.int PyData.int PyData.int) f4.2))), sl (dat (PyData.int f4.1)), un, un, un, sl (dat (PyData.list (List.map PyData.int s34.1))), sl (dat (PyData.list (List.map (eD kI PyData.int) s34.2))), un, un, un, un, un, un, un, un, un, un]) (fun (s34 : ((List Int) × (List (List (Int × Int))))) (_ : Unit) => os) B T (fun turn35 => gx_name (i := 8) (vi := 8) (φ := (dat (PyData.int turn35))) B T rfl rfl) (t30, ([] : (List (List (Int × Int))))) () f36 h60 (ix_rng1 (gi := 0) B rfl g_range h33 (ex_v (i := 2) (j := 2) B rfl rfl rfl)) ⟨.inl rfl, .inl rfl, .inl rfl, .inl rfl, .inl rfl, .inl rfl, .inl rfl, .inl rfl, .inl rfl, .inl rfl, .inl rfl, .inl rfl, .inl rfl, .inl rfl, .inl rfl, .inl rfl, .inl rfl, .inl rfl, trivial⟩ (fun _ _ => trivial) (fun F38 e37 s34 _ turn35 z61 hx hm => ?_) (fun _ => ?_)
    · clear h60
      obtain ⟨t39, h39, hm⟩ := bnd hm
      obtain ⟨z41, h42, hm⟩ := bnd hm
      obtain ⟨t43, h43, hm⟩ := bnd hm
      refine sx_asgLcN (i := 7) B T rfl (by rw [hsc]; exact lcl_of (by decide +kernel)) (f := (odT kI PyData.int)) (m := (fun (room40 : Int) => (some ([] : (List (Int × Int))) : Option (List (Int × Int)))))  (cp_mk1 (j := 9) (vp := fun room40 => (dat (PyData.int room40))) (c := anyOs) B rfl rfl (by rw [B.hN, hsc]; decide +kernel) (by rw [hsc]; decide +kernel) (lenO_ok h42) (ix_rng1 (gi := 0) B rfl g_range h39 (ex_v (i := 2) (j := 2) B rfl rfl rfl)) (fun _ => trivial)) h43 (fun room40 t q1 hx hf X1 hX => by (obtain rfl := som hf; have B1 := Bd.fam (W' := []) (G' := []) B hX (by (try rw [hsc]); decide +kernel); exact (en_dnew (kd := kI)))) (sw_ok (by rw [hsc]; decide +kernel) (by rw [hsc]; exact lcl_of (by decide +kernel)) (by decide) (by decide +kernel)) (fun q_doors_here43 => ?_)
      refine sx_open 0 rfl (fun k_44 => ?_)
      obtain ⟨f47, h58, hm⟩ := bnd hm
      refine sx_for (c := anyOs) _ (fun (s45 : ((List Int) × (List (List (Int × Int))))) (_ : Unit) => [sl (dat (PyData.list (List.map (eT PyData.int) walks))), sl (dat (PyData.list (List.map (eP3 PyData.int PyData.int PyData.int) f4.2))), sl (dat (PyData.int f4.1)), un, un, un, sl (dat (PyData.list (List.map PyData.int s45.1))), sl (own q_doors_here43), sl (dat (PyData.int turn35)), un, un, un, un, un, un, un, un, un]) (fun (s45 : ((List Int) × (List (List (Int × Int))))) (_ : Unit) => (q_doors_here43, onl k_44 (List.map (odT kI PyData.int) s45.2)) :: os) B T (fun x46 => gx_triple B (gx_name (i := 9) (vi := 9) (φ := (dat (PyData.int x46.a))) B T rfl rfl) (gx_name (i := 10) (vi := 10) (φ := (dat (PyData.int x46.b))) B T rfl rfl) (gx_name (i := 11) (vi := 11) (φ := (dat (PyData.int x46.c))) B T rfl rfl)) (s34.1, t43) () f47 h58 (ix_list (enc := (eP3 PyData.int PyData.int PyData.int)) (c := anyOs) (ex_v (i := 1) (j := 1) B rfl rfl rfl) (fun _ _ => rdl_dat) trivial) ⟨.inl rfl, .inl rfl, .inl rfl, .inl rfl, .inl rfl, .inl rfl, .inl rfl, .inl rfl, .inl rfl, .inl rfl, .inl rfl, .inl rfl, .inl rfl, .inl rfl, .inl rfl, .inl rfl, .inl rfl, .inl rfl, trivial⟩ (fun _ _ => trivial) (fun F49 e48 s45 _ x46 z59 hx hm => ?_) (fun _ => ?_)
      · clear h58
        obtain ⟨t50, h50, hm⟩ := bnd hm
        obtain ⟨t51, h51, hm⟩ := bnd hm
        refine sx_par2 (i := 12) (j := 13) _ hsc B rfl rfl (by decide) (by decide +kernel) (by decide +kernel) (by intro env he; cases env; cases he; first | rfl | kernel_rfl) (aq_x (φ := (dat (PyData.int t50))) (ex_idxL (enc := PyData.int) h50 rdl_dat (ex_v (i := 6) (j := 6) B rfl rfl rfl) (ex_v (i := 9) (j := 9) B rfl rfl rfl)) (aq_x (φ := (dat (PyData.int t51))) (ex_idxL (enc := PyData.int) h51 rdl_dat (ex_v (i := 6) (j := 6) B rfl rfl rfl) (ex_v (i := 11) (j := 11) B rfl rfl rfl)) aq_nil)) (fun v0 v1 os_ hr_ => ?_) (by rintro φs os_ ⟨_, rfl, _, rfl, rfl, rfl⟩; exact ⟨_, _, rfl⟩)
        obtain ⟨_, e0, _, e1, e8, e9⟩ := hr_
        cases e0; cases e1; cases e8; cases e9
        obtain ⟨t52, h52, hm⟩ := bnd hm
        obtain ⟨t53, h53, hm⟩ := bnd hm
        refine sx_asg (i := 14) (vi := 14) (φ := (dat (PyData.int t53.1))) B T rfl rfl (ex_dsetd (enc := PyData.int) (w := t52) inj_kI h53 (ex_nst (f := (odT kI PyData.int)) (ws := s45.2) 0 h52 rfl (ex_v (i := 7) (j := 7) B rfl rfl rfl) (ex_v (i := 12) (j := 12) B rfl rfl rfl)) (rdd_wr (wr_nest (f := (odT kI PyData.int)) (ws := s45.2) 0 rfl h52)) (ex_v (i := 10) (j := 10) B rfl rfl rfl) (ex_v (i := 13) (j := 13) B rfl rfl rfl) (wr_nest (f := (odT kI PyData.int)) (ws := s45.2) 0 rfl h52) (wr_same_nest (f := (odT kI PyData.int)) (ws := s45.2) 0 rfl h52)) ?_
        obtain ⟨s57, h_s57, hm⟩ := bnd hm
        refine sx_join [sl (dat (PyData.list (List.map (eT PyData.int) walks))), sl (dat (PyData.list (List.map (eP3 PyData.int PyData.int PyData.int) f4.2))), sl (dat (PyData.int f4.1)), un, un, un, sl (dat (PyData.list (List.map PyData.int s57))), sl (own q_doors_here43), sl (dat (PyData.int turn35)), sl (dat (PyData.int x46.a)), sl (dat (PyData.int x46.b)), sl (dat (PyData.int x46.c)), sl (dat (PyData.int t50)), sl (dat (PyData.int t51)), sl (dat (PyData.int t53.1)), un, un, un] ((q_doors_here43, onl k_44 (List.map (odT kI PyData.int) (setI s45.2 t50 t53.2))) :: os) (?_) (fun Q => ?_)
        · clear h_s57
          obtain rfl := som hm
          exact sx_nil fun σ H a => ⟨(), (a.weak ⟨.inl rfl, .inl rfl, .inl rfl, .inl rfl, .inl rfl, .inl rfl, .inl rfl, .inl rfl, .inl rfl, .inr rfl, .inr rfl, .inr rfl, .inr rfl, .inr rfl, .inr rfl, .inl rfl, .inl rfl, .inl rfl, trivial⟩)⟩
        · have hm := h_s57
          refine sx_if (tx_cmp op_ne r2_neI (nomark _) (ex_v (i := 14) (j := 14) B rfl rfl rfl) (ex_v (i := 13) (j := 13) B rfl rfl rfl)) (fun hk => ?_) (fun hk => ?_)
          · have hm := ifT hm hk
            refine sx_mk2 (i := 15) (j := 16) (vi := 15) (gi := 16) _ hsc B T rfl rfl rfl rfl (by intro env he; cases env; cases he; first | rfl | kernel_rfl) (aq_x (φ := (dat (PyData.int (minI t53.1 t51)))) (ex_fn (j := 3) B rfl g_min (by decide +kernel) (call_min2 B.calm) rc_min (ax_cons (ex_v (i := 14) (j := 14) B rfl rfl rfl) (ax_cons (ex_v (i := 13) (j := 13) B rfl rfl rfl) ax_nil))) (aq_x (φ := (dat (PyData.int (maxI t53.1 t51)))) (ex_fn (j := 4) B rfl g_max (by decide +kernel) (call_max2 B.calm) rc_max (ax_cons (ex_v (i := 14) (j := 14) B rfl rfl rfl) (ax_cons (ex_v (i := 13) (j := 13) B rfl rfl rfl) ax_nil))) aq_nil)) (fun v0 v1 os_ hr_ => ?_) (by rintro φs os_ ⟨_, rfl, _, rfl, rfl, rfl⟩; exact ⟨_, _, rfl⟩)
            obtain ⟨_, e0, _, e1, e8, e9⟩ := hr_
            cases e0; cases e1; cases e8; cases e9
            obtain ⟨t56, h56, hm⟩ := bnd hm
            refine sx_asgLc (i := 6) B T rfl (by rw [hsc]; exact lcl_of (by decide +kernel)) (lc_mk1 (j := 17) (vp := fun head54 => (dat (PyData.int head54))) (c := anyOs) (enc := PyData.int) (fun (_ : Unit) (head54 : Int) => some (some (if (decide (head54 = (maxI t53.1 t51))) = true then (minI t53.1 t51) else head54), ())) (fun (_ : Unit) (tl1 : Os) => (q_doors_here43, onl k_44 (List.map (odT kI PyData.int) (setI s45.2 t50 t53.2))) :: tl1) () (t56) () B rfl rfl (by rw [B.hN, hsc]; decide +kernel) (by rw [hsc]; decide +kernel) (by decide) (lcT_ok h56) (ix_list (enc := PyData.int) (c := anyOs) (ex_v (i := 6) (j := 6) B rfl rfl rfl) (fun _ _ => rdl_dat) trivial) (fun _ _ => trivial) (fun _ _ _ => (List.Perm.swap _ _ _)) (fun _ head54 t tl1 hx hf => by (obtain rfl := som hf; exact ⟨true, _, fun X1 hX => by (have B1 := Bd.fam (W' := ["_law_low", "_law_high", "_law_head"]) (G' := []) B hX (by (try rw [hsc]); decide +kernel); exact ⟨.nil, fun _ => ⟨_, rfl, (ex_if (tx_cmp op_eq r2_eqI (nomark _) (ex_v (i := 17) (j := 2) B1 rfl rfl rfl) (ex_v (i := 16) (j := 1) B1 rfl rfl rfl)) (fun hk => EX.to (ex_v (i := 15) (j := 0) B1 rfl rfl rfl) (by rw [if_pos hk] <;> rfl)) (fun hk => EX.to (ex_v (i := 17) (j := 2) B1 rfl rfl rfl) (by first | (rw [if_neg (by rw [hk]; exact Bool.false_ne_true)] <;> rfl) | (rw [if_neg (ne_true_of_eq_false hk)] <;> rfl))))⟩, fun h => Bool.noConfusion h⟩)⟩))) (sw_ok (by rw [hsc]; decide +kernel) (by rw [hsc]; exact lcl_of (by decide +kernel)) (by decide) (by decide +kernel)) (fun q_heads56 => ?_)
            refine sx_frz (j := 0) (i := 6) rfl rfl ?_
            obtain rfl := som hm
            exact sx_fall (SX.weak Q (by exact ⟨.inl rfl, .inl rfl, .inl rfl, .inl rfl, .inl rfl, .inl rfl, .inl rfl, .inl rfl, .inl rfl, .inl rfl, .inl rfl, .inl rfl, .inl rfl, .inl rfl, .inl rfl, .inr rfl, .inr rfl, .inl rfl, trivial⟩)) rfl
          · have hm := ifF hm hk
            obtain rfl := som hm
            exact sx_fall Q rfl
      · skip
        refine sx_frzF (j := 0) (i := 7) (frb_onl (fun _ => frb_od)) rfl rfl ?_
        obtain rfl := som hm
        exact sx_nil fun σ H a => ⟨(), (a.weak ⟨.inl rfl, .inl rfl, .inl rfl, .inl rfl, .inl rfl, .inl rfl, .inl rfl, .inl rfl, .inr rfl, .inl rfl, .inl rfl, .inl rfl, .inl rfl, .inl rfl, .inl rfl, .inl rfl, .inl rfl, .inl rfl, trivial⟩)⟩
    · skip
      obtain rfl := som hm
      exact sx_ret (ex_v (i := 7) (j := 7) B rfl rfl rfl) (fun F H v e o c => R.rt F H v e o c)
theorem cal_l_rings {P : Program} {w : World} {K : PySem.W.Frag} {mg : Str → Option Value} {base : Heap} {f : Addr} {fd : FuncData} (Fn : Fun K "_law_rings" "_law_rings" s_l_rings f fd) (hmg : mg "_law_rings" = some (.ref f)) (hb : Binds K fd ["_law_walks"] []) (g_range : mg "range" = none) (g_len : mg "len" = none) (g_list : mg "list" = none) (g_min : mg "min" = none) (g_max : mg "max" = none) : Cal P w K mg base 1 "_law_rings" s_l_rings ["_law_walks"] (sp_l_rings K) := by
  obtain ⟨sts_, hst_⟩ : ∃ z_, defBody s_l_rings = z_ := ⟨_, rfl⟩
  exact cal_ZQ (V := V_l_rings) (Gs := G_l_rings) (nl := 17) hst_ Fn sc_l_rings (by decide +kernel) (by decide +kernel) hmg hb (fun _ => rfl) rfl fun _ _ _ _ _ _ _ a b F0 os D B T hm R => body_l_rings rfl hst_ B T g_range g_len g_list g_min g_max a b F0 os D hm R
abbrev s_l_drawn : Stmt := top 39
def N_l_drawn : List Str := ["_law_pot_here", "_law_most", "_law_top", "_law_letters", "_law_way", "_law_walks", "_law_left", "_law_turn", "_law_size", "_law_gaps"]
def V_l_drawn : List Str := ["_law_pot_here", "_law_most", "_law_top", "_law_letters", "_law_way", "_law_walks", "_law_left", "_law_turn", "_law_size", "_law_gaps"]
def G_l_drawn : List Str := ["_law_draw", "range", "_law_straight", "_law_web", "_law_rings", "_law_tables"]
theorem sc_l_drawn : FnScope N_l_drawn ["_law_pot_here", "_law_most", "_law_top"] (defScope s_l_drawn) := ⟨rfl, rfl, rfl, by decide +kernel, rfl, by decide +kernel, by decide +kernel⟩
abbrev sp_l_drawn (K : PySem.W.Frag) : Sp := spZ (α := (Addr × (List Int) × Int × Int)) (β := ((Int × (List (List Int))) × (List Int))) (fun a => [own a.1, (dat (PyData.int a.2.2.1)), (dat (PyData.int a.2.2.2))]) (fun a => (a.1, ol (List.map PyData.int a.2.1)) :: []) (fun a => m_l_drawn a.2.1 a.2.2.1 a.2.2.2) (fun a b => (dat (PyData.tuple [(PyData.int b.1.1), (PyData.tuple (List.map (eT PyData.int) b.1.2))]))) (fun a b => (a.1, ol (List.map PyData.int b.2)) :: [])
set_option maxHeartbeats 4000000 in
theorem body_l_drawn {X : Cx} (hsc : X.env.scope = defScope s_l_drawn) {sts_ : List Stmt} (hst_ : defBody s_l_drawn = sts_) (B : Bd X N_l_drawn V_l_drawn G_l_drawn 2) (T : Bt X V_l_drawn) (c_l_draw : Cal X.prog X.w X.K X.mg X.base 1 "_law_draw" s_l_draw ["_law_pot_here", "_law_many"] (sp_l_draw X.K)) (g_range : X.mg "range" = none) (c_l_straight : Cal X.prog X.w X.K X.mg X.base 2 "_law_straight" s_l_straight ["_law_pot_here", "_law_letters", "_law_size"] (sp_l_straight X.K)) (c_l_web : Cal X.prog X.w X.K X.mg X.base 2 "_law_web" s_l_web ["_law_letters", "_law_doors_here"] (sp_l_web X.K)) (c_l_rings : Cal X.prog X.w X.K X.mg X.base 1 "_law_rings" s_l_rings ["_law_walks"] (sp_l_rings X.K)) (c_l_tables : Cal X.prog X.w X.K X.mg X.base 2 "_law_tables" s_l_tables ["_law_pot_here", "_law_letters", "_law_count", "_law_gaps"] (sp_l_tables X.K)) (q_pot_here : Addr) (w_pot_here : (List Int)) (most : Int) (top : Int) (b : ((Int × (List (List Int))) × (List Int))) (F0 : Hp) (os : Os) (D : Ends) (hm : m_l_drawn w_pot_here most top = some b) (R : RetZ F0 ((q_pot_here, ol (List.map PyData.int b.2)) :: os) (dat (PyData.tuple [(PyData.int b.1.1), (PyData.tuple (List.map (eT PyData.int) b.1.2))])) D) :
    SX X [sl (own q_pot_here), sl (dat (PyData.int most)), sl (dat (PyData.int top)), un, un, un, un, un, un, un] ((q_pot_here, ol (List.map PyData.int w_pot_here)) :: os) F0 sts_ D := by
  subst hst_
  unfold m_l_drawn at hm
  obtain ⟨t1, h1, hm⟩ := bnd hm
  refine sx_asg (i := 3) (vi := 3) (φ := (dat (PyData.int (1 + t1.1)))) B T rfl rfl (ex_add ex_int (ex_call (a := (q_pot_here, w_pot_here, top)) (b := t1) (gi := 0) (rest := os) B rfl c_l_draw (by decide) h1 (ax_cons (ex_v (i := 0) (j := 0) B rfl rfl rfl) (ax_cons (ex_v (i := 2) (j := 2) B rfl rfl rfl) ax_nil)))) ?_
  obtain ⟨t2, h2, hm⟩ := bnd hm
  refine sx_asg (i := 4) (vi := 4) (φ := (dat (PyData.int t2.1))) B T rfl rfl (ex_call (a := (q_pot_here, t1.2, 9)) (b := t2) (gi := 0) (rest := os) B rfl c_l_draw (by decide) h2 (ax_cons (ex_v (i := 0) (j := 0) B rfl rfl rfl) (ax_cons ex_int ax_nil))) ?_
  refine sx_if (tx_cmp op_eq r2_eqI (nomark _) (ex_v (i := 4) (j := 4) B rfl rfl rfl) ex_int) (fun hk => ?_) (fun hk => ?_)
  · have hm := ifT hm hk
    obtain ⟨t3, h3, hm⟩ := bnd hm
    obtain rfl := som hm
    exact sx_ret (ex_tup (ds := [(PyData.int (1 + t1.1)), (PyData.tuple (List.map (eT PyData.int) ([t3])))]) (hl := len_ok (n := 2) rfl) (ax_cons (ex_v (i := 3) (j := 3) B rfl rfl rfl) (ax_cons (ex_tup (ds := [(PyData.tuple (List.map PyData.int t3))]) (hl := len_ok (n := 1) rfl) (ax_cons (ex_repT (enc := PyData.int) h3 (ex_tup (ds := [(PyData.int (-1))]) (hl := len_ok (n := 1) rfl) (ax_cons (ex_neg ex_int) ax_nil)) (ex_v (i := 3) (j := 3) B rfl rfl rfl)) ax_nil)) ax_nil))) (fun F H v e o c => R.rt F H v e o c)
  · have hm := ifF hm hk
    refine sx_fall ?_ rfl
    refine sx_if (tx_cmp op_lt r2_lt (nomark _) (ex_v (i := 4) (j := 4) B rfl rfl rfl) ex_int) (fun hk => ?_) (fun hk => ?_)
    · have hm := ifT hm hk
      refine sx_par2 (i := 5) (j := 6) _ hsc B rfl rfl (by decide) (by decide +kernel) (by decide +kernel) (by intro env he; cases env; cases he; first | rfl | kernel_rfl) (aq_n (n := ol (List.map (eT PyData.int) ([] : (List (List Int))))) (en_lst (ds := []) ax_nil) (fun q_walks4 => (aq_x (φ := (dat (PyData.int most))) (ex_v (i := 1) (j := 1) B rfl rfl rfl) aq_nil))) (fun v0 v1 os_ hr_ => ?_) (by rintro φs os_ ⟨q_walks4, _, rfl, _, rfl, rfl, rfl⟩; exact ⟨_, _, rfl⟩)
      obtain ⟨q_walks4, _, e0, _, e1, e8, e9⟩ := hr_
      cases e0; cases e1; cases e8; cases e9
      obtain ⟨t5, h5, hm⟩ := bnd hm
      obtain ⟨t6, h6, hm⟩ := bnd hm
      obtain ⟨f9, h16, hm⟩ := bnd hm
      refine sx_for (c := anyOs) _ (fun (s7 : (Int × (List Int) × (List (List Int)))) (_ : Unit) => [sl (own q_pot_here), sl (dat (PyData.int most)), sl (dat (PyData.int top)), sl (dat (PyData.int (1 + t1.1))), sl (dat (PyData.int t2.1)), sl (own q_walks4), sl (dat (PyData.int s7.1)), un, un, un]) (fun (s7 : (Int × (List Int) × (List (List Int)))) (_ : Unit) => (q_pot_here, ol (List.map PyData.int s7.2.1)) :: (q_walks4, ol (List.map (eT PyData.int) s7.2.2)) :: os) B T (fun turn8 => gx_name (i := 7) (vi := 7) (φ := (dat (PyData.int turn8))) B T rfl rfl) (most, t5.2, ([] : (List (List Int)))) () f9 h16 (ix_rng1 (gi := 1) B rfl g_range h6 (ex_add ex_int (EX.pre (ex_call (a := (q_pot_here, t2.2, 3)) (b := t5) (gi := 0) (rest := (q_walks4, ol (List.map (eT PyData.int) ([] : (List (List Int))))) :: os) B rfl c_l_draw (by decide) h5 (ax_cons (ex_v (i := 0) (j := 0) B rfl rfl rfl) (ax_cons ex_int ax_nil))) (perm_at (k := 1) rfl)))) ⟨.inl rfl, .inl rfl, .inl rfl, .inl rfl, .inl rfl, .inl rfl, .inl rfl, .inl rfl, .inl rfl, .inl rfl, trivial⟩ (fun _ _ => trivial) (fun F11 e10 s7 _ turn8 z19 hx hm => ?_) (fun _ => ?_)
      · clear h16
        obtain ⟨s15, h_s15, hm⟩ := bnd hm
        refine sx_join [sl (own q_pot_here), sl (dat (PyData.int most)), sl (dat (PyData.int top)), sl (dat (PyData.int (1 + t1.1))), sl (dat (PyData.int t2.1)), sl (own q_walks4), sl (dat (PyData.int s15.1)), sl (dat (PyData.int turn8)), un, un] ((q_pot_here, ol (List.map PyData.int s15.2.1)) :: (q_walks4, ol (List.map (eT PyData.int) s15.2.2)) :: os) (?_) (fun Q => ?_)
        · clear h_s15
          obtain rfl := som hm
          exact sx_nil fun σ H a => ⟨(), (a.weak ⟨.inl rfl, .inl rfl, .inl rfl, .inl rfl, .inl rfl, .inl rfl, .inl rfl, .inr rfl, .inl rfl, .inl rfl, trivial⟩)⟩
        · have hm := h_s15
          refine sx_if (tx_cmp op_gt r2_gt (nomark _) (ex_v (i := 6) (j := 6) B rfl rfl rfl) ex_int) (fun hk => ?_) (fun hk => ?_)
          · have hm := ifT hm hk
            obtain ⟨t12, h12, hm⟩ := bnd hm
            refine sx_asg (i := 8) (vi := 8) (φ := (dat (PyData.int (1 + t12.1)))) B T rfl rfl (ex_add ex_int (ex_call (a := (q_pot_here, s7.2.1, s7.1)) (b := t12) (gi := 0) (rest := (q_walks4, ol (List.map (eT PyData.int) s7.2.2)) :: os) B rfl c_l_draw (by decide) h12 (ax_cons (ex_v (i := 0) (j := 0) B rfl rfl rfl) (ax_cons (ex_v (i := 6) (j := 6) B rfl rfl rfl) ax_nil)))) ?_
            obtain ⟨t13, h13, hm⟩ := bnd hm
            obtain ⟨t14, h14, hm⟩ := bnd hm
            refine sx_expr (ex_app (enc := (eT PyData.int)) (j := 1) (xs0 := s7.2.2) (xs := s7.2.2) (y := t13.1) h14 (ex_v (i := 5) (j := 5) B rfl rfl rfl) rfl (ex_call (a := (q_pot_here, t12.2, (1 + t1.1), (1 + t12.1))) (b := t13) (gi := 2) (rest := (q_walks4, ol (List.map (eT PyData.int) s7.2.2)) :: os) B rfl c_l_straight (by decide) h13 (ax_cons (ex_v (i := 0) (j := 0) B rfl rfl rfl) (ax_cons (ex_v (i := 3) (j := 3) B rfl rfl rfl) (ax_cons (ex_v (i := 8) (j := 8) B rfl rfl rfl) ax_nil)))) rfl) ?_
            refine sx_asg (i := 6) (vi := 6) (φ := (dat (PyData.int (s7.1 - (1 + t12.1))))) B T rfl rfl (ex_sub (ex_v (i := 6) (j := 6) B rfl rfl rfl) (ex_v (i := 8) (j := 8) B rfl rfl rfl)) ?_
            obtain rfl := som hm
            exact sx_fall (SX.weak Q (by exact ⟨.inl rfl, .inl rfl, .inl rfl, .inl rfl, .inl rfl, .inl rfl, .inl rfl, .inl rfl, .inr rfl, .inl rfl, trivial⟩)) rfl
          · have hm := ifF hm hk
            obtain rfl := som hm
            exact sx_fall Q rfl
      · skip
        refine sx_frz (j := 1) (i := 5) rfl rfl ?_
        obtain ⟨t17, h17, hm⟩ := bnd hm
        obtain ⟨t18, h18, hm⟩ := bnd hm
        obtain rfl := som hm
        exact sx_ret (ex_call (a := ((1 + t1.1), t17)) (b := t18) (gi := 3) (rest := (q_pot_here, ol (List.map PyData.int f9.2.1)) :: os) B rfl c_l_web (by decide) h18 (ax_cons (ex_v (i := 3) (j := 3) B rfl rfl rfl) (ax_cons (ex_call (a := f9.2.2) (b := t17) (gi := 4) (rest := (q_pot_here, ol (List.map PyData.int f9.2.1)) :: os) B rfl c_l_rings (by decide) h17 (ax_cons (ex_v (i := 5) (j := 5) B rfl rfl rfl) ax_nil)) ax_nil))) (fun F H v e o c => R.rt F H v e o c)
    · have hm := ifF hm hk
      refine sx_fall ?_ rfl
      obtain ⟨t20, h20, hm⟩ := bnd hm
      obtain ⟨t21, h21, hm⟩ := bnd hm
      refine sx_asg (i := 9) (vi := 9) (φ := (dat (PyData.int t21))) B T rfl rfl (ex_idxL (enc := PyData.int) h21 rdl_dat (EN.ex (en_lst (ds := [(PyData.int 0), (PyData.int 0), (PyData.int 2), (PyData.int 3), (PyData.int 6)]) (hl := len_ok (n := 5) rfl) (ax_cons ex_int (ax_cons ex_int (ax_cons ex_int (ax_cons ex_int (ax_cons ex_int ax_nil))))))) (ex_call (a := (q_pot_here, t2.2, 5)) (b := t20) (gi := 0) (rest := os) B rfl c_l_draw (by decide) h20 (ax_cons (ex_v (i := 0) (j := 0) B rfl rfl rfl) (ax_cons ex_int ax_nil)))) ?_
      obtain ⟨t22, h22, hm⟩ := bnd hm
      obtain ⟨t23, h23, hm⟩ := bnd hm
      obtain ⟨t24, h24, hm⟩ := bnd hm
      obtain rfl := som hm
      exact sx_ret (ex_call (a := ((1 + t1.1), t23.1)) (b := t24) (gi := 3) (rest := (q_pot_here, ol (List.map PyData.int t23.2)) :: os) B rfl c_l_web (by decide) h24 (ax_cons (ex_v (i := 3) (j := 3) B rfl rfl rfl) (ax_cons (ex_call (a := (q_pot_here, t22.2, (1 + t1.1), (1 + t22.1), t21)) (b := t23) (gi := 5) (rest := os) B rfl c_l_tables (by decide) h23 (ax_cons (ex_v (i := 0) (j := 0) B rfl rfl rfl) (ax_cons (ex_v (i := 3) (j := 3) B rfl rfl rfl) (ax_cons (ex_add ex_int (ex_call (a := (q_pot_here, t20.2, most)) (b := t22) (gi := 0) (rest := os) B rfl c_l_draw (by decide) h22 (ax_cons (ex_v (i := 0) (j := 0) B rfl rfl rfl) (ax_cons (ex_v (i := 1) (j := 1) B rfl rfl rfl) ax_nil)))) (ax_cons (ex_v (i := 9) (j := 9) B rfl rfl rfl) ax_nil))))) ax_nil))) (fun F H v e o c => R.rt F H v e o c)
theorem cal_l_drawn {P : Program} {w : World} {K : PySem.W.Frag} {mg : Str → Option Value} {base : Heap} {f : Addr} {fd : FuncData} (Fn : Fun K "_law_drawn" "_law_drawn" s_l_drawn f fd) (hmg : mg "_law_drawn" = some (.ref f)) (hb : Binds K fd ["_law_pot_here", "_law_most", "_law_top"] []) (c_l_draw : Cal P w K mg base 1 "_law_draw" s_l_draw ["_law_pot_here", "_law_many"] (sp_l_draw K)) (g_range : mg "range" = none) (c_l_straight : Cal P w K mg base 2 "_law_straight" s_l_straight ["_law_pot_here", "_law_letters", "_law_size"] (sp_l_straight K)) (c_l_web : Cal P w K mg base 2 "_law_web" s_l_web ["_law_letters", "_law_doors_here"] (sp_l_web K)) (c_l_rings : Cal P w K mg base 1 "_law_rings" s_l_rings ["_law_walks"] (sp_l_rings K)) (c_l_tables : Cal P w K mg base 2 "_law_tables" s_l_tables ["_law_pot_here", "_law_letters", "_law_count", "_law_gaps"] (sp_l_tables K)) : Cal P w K mg base 3 "_law_drawn" s_l_drawn ["_law_pot_here", "_law_most", "_law_top"] (sp_l_drawn K) := by
  obtain ⟨sts_, hst_⟩ : ∃ z_, defBody s_l_drawn = z_ := ⟨_, rfl⟩
  exact cal_ZQ (V := V_l_drawn) (Gs := G_l_drawn) (nl := 7) hst_ Fn sc_l_drawn (by decide +kernel) (by decide +kernel) hmg hb (fun _ => rfl) rfl fun _ _ _ _ _ _ _ a b F0 os D B T hm R => body_l_drawn rfl hst_ B T c_l_draw g_range c_l_straight c_l_web c_l_rings c_l_tables a.1 a.2.1 a.2.2.1 a.2.2.2 b F0 os D hm R
abbrev s_l_short : Stmt := top 40
def N_l_short : List Str := ["_law_walk", "_law_found", "_law_step"]
def V_l_short : List Str := ["_law_walk", "_law_found", "_law_step"]
def G_l_short : List Str := ["tuple"]
theorem sc_l_short : FnScope N_l_short ["_law_walk"] (defScope s_l_short) := ⟨rfl, rfl, rfl, by decide +kernel, rfl, by decide +kernel, by decide +kernel⟩
abbrev sp_l_short (K : PySem.W.Frag) : Sp := spZ (α := (List Int)) (β := (List Int)) (fun a => [(dat (PyData.tuple (List.map PyData.int a)))]) (fun a => []) (fun a => m_l_short a) (fun a b => (dat (PyData.tuple (List.map PyData.int b)))) (fun a b => [])
set_option maxHeartbeats 4000000 in
theorem body_l_short {X : Cx} (hsc : X.env.scope = defScope s_l_short) {sts_ : List Stmt} (hst_ : defBody s_l_short = sts_) (B : Bd X N_l_short V_l_short G_l_short 0) (T : Bt X V_l_short) (g_tuple : X.mg "tuple" = none) (walk : (List Int)) (b : (List Int)) (F0 : Hp) (os : Os) (D : Ends) (hm : m_l_short walk = some b) (R : RetZ F0 (os) (dat (PyData.tuple (List.map PyData.int b))) D) :
    SX X [sl (dat (PyData.tuple (List.map PyData.int walk))), un, un] (os) F0 sts_ D := by
  subst hst_
  unfold m_l_short at hm
  refine sx_asgN (i := 1) (vi := 1) (n := ol (List.map PyData.int ([] : (List Int)))) B T rfl rfl (en_lst (ds := []) ax_nil) (fun q_found0 => ?_)
  obtain ⟨f3, h11, hm⟩ := bnd hm
  refine sx_for (c := anyOs) _ (fun (s1 : (List Int)) (_ : Unit) => [sl (dat (PyData.tuple (List.map PyData.int walk))), sl (own q_found0), un]) (fun (s1 : (List Int)) (_ : Unit) => (q_found0, ol (List.map PyData.int s1)) :: os) B T (fun step2 => gx_name (i := 2) (vi := 2) (φ := (dat (PyData.int step2))) B T rfl rfl) ([] : (List Int)) () f3 h11 (ix_tup (enc := PyData.int) (ex_v (i := 0) (j := 0) B rfl rfl rfl) rdt_dat) ⟨.inl rfl, .inl rfl, .inl rfl, trivial⟩ (fun _ _ => trivial) (fun F5 e4 s1 _ step2 z12 hx hm => ?_) (fun _ => ?_)
  · clear h11
    obtain ⟨t7, h7, hm⟩ := bnd hm
    obtain ⟨s10, h_s10, hm⟩ := bnd hm
    refine sx_join [sl (dat (PyData.tuple (List.map PyData.int walk))), sl (own q_found0), sl (dat (PyData.int step2))] ((q_found0, ol (List.map PyData.int s10)) :: os) (?_) (fun Q => ?_)
    · clear h_s10
      obtain rfl := som hm
      exact sx_nil fun σ H a => ⟨(), (a.weak ⟨.inl rfl, .inl rfl, .inr rfl, trivial⟩)⟩
    · have hm := h_s10
      refine sx_if (WX.tx (wx_and (l := t7) (os2 := (q_found0, ol (List.map PyData.int s1)) :: os) (tx_neR (e := (eL PyData.int)) (x := s1) (y := ([] : (List Int))) B (eqv_list eqv_int) (sh_list sh_int) (by decide) (rdx_own (ds := List.map PyData.int s1) 0 rfl) rdx_dat (ex_v (i := 1) (j := 1) B rfl rfl rfl) (EN.ex (en_lst (ds := []) ax_nil))) (fun hk => by (have hm := ifT h7 hk; obtain ⟨t6, h6, hm⟩ := bnd hm; obtain rfl := som hm; exact (wx_and1 (tx_cmp op_eq r2_eqI (nomark _) (ex_idxL (enc := PyData.int) h6 (rdl_own 0 rfl) (ex_v (i := 1) (j := 1) B rfl rfl rfl) (ex_neg ex_int)) (ex_neg (ex_v (i := 2) (j := 2) B rfl rfl rfl)))))) (fun hk => by (have hm := ifF h7 hk; obtain rfl := som hm; rfl)) (and_fix (fun hk => by (have hm := ifF h7 hk; obtain rfl := som hm; rfl))))) (fun hk => ?_) (fun hk => ?_)
      · have hm := ifT hm hk
        obtain ⟨t8, h8, hm⟩ := bnd hm
        refine sx_expr (ex_popO (enc := PyData.int) (j := 0) h8 (ex_v (i := 1) (j := 1) B rfl rfl rfl) rfl) ?_
        obtain rfl := som hm
        exact sx_fall Q rfl
      · have hm := ifF hm hk
        obtain ⟨t9, h9, hm⟩ := bnd hm
        refine sx_expr (ex_app (enc := PyData.int) (j := 0) (xs0 := s1) (xs := s1) (y := step2) h9 (ex_v (i := 1) (j := 1) B rfl rfl rfl) rfl (ex_v (i := 2) (j := 2) B rfl rfl rfl) rfl) ?_
        obtain rfl := som hm
        exact sx_fall Q rfl
  · skip
    refine sx_frz (j := 0) (i := 1) rfl rfl ?_
    obtain rfl := som hm
    exact sx_ret (ex_ty (j := 0) B rfl g_tuple (by decide +kernel) call_tuple_of (rc_tupL (ds := List.map PyData.int f3) rdl_dat) (ax_cons (ex_v (i := 1) (j := 1) B rfl rfl rfl) ax_nil)) (fun F H v e o c => R.rt F H v e o c)
theorem cal_l_short {P : Program} {w : World} {K : PySem.W.Frag} {mg : Str → Option Value} {base : Heap} {f : Addr} {fd : FuncData} (Fn : Fun K "_law_short" "_law_short" s_l_short f fd) (hmg : mg "_law_short" = some (.ref f)) (hb : Binds K fd ["_law_walk"] []) (g_tuple : mg "tuple" = none) : Cal P w K mg base 1 "_law_short" s_l_short ["_law_walk"] (sp_l_short K) := by
  obtain ⟨sts_, hst_⟩ : ∃ z_, defBody s_l_short = z_ := ⟨_, rfl⟩
  exact cal_ZQ (V := V_l_short) (Gs := G_l_short) (nl := 2) hst_ Fn sc_l_short (by decide +kernel) (by decide +kernel) hmg hb (fun _ => rfl) rfl fun _ _ _ _ _ _ _ a b F0 os D B T hm R => body_l_short rfl hst_ B T g_tuple a b F0 os D hm R
abbrev s_l_is_integer : Stmt := top 41
def N_l_is_integer : List Str := ["_law_found", "_law_due"]
def V_l_is_integer : List Str := ["_law_found", "_law_due"]
def G_l_is_integer : List Str := ["isinstance", "int", "bool"]
theorem sc_l_is_integer : FnScope N_l_is_integer ["_law_found", "_law_due"] (defScope s_l_is_integer) := ⟨rfl, rfl, rfl, by decide +kernel, rfl, by decide +kernel, by decide +kernel⟩
abbrev sp_l_is_integer (K : PySem.W.Frag) : Sp := spZ (α := (Int × Int)) (β := Bool) (fun a => [(dat (PyData.int a.1)), (dat (PyData.int a.2))]) (fun a => []) (fun a => m_l_is_integer a.1 a.2) (fun a b => (dat (PyData.bool b))) (fun a b => [])
set_option maxHeartbeats 4000000 in
theorem body_l_is_integer {X : Cx} (hsc : X.env.scope = defScope s_l_is_integer) {sts_ : List Stmt} (hst_ : defBody s_l_is_integer = sts_) (B : Bd X N_l_is_integer V_l_is_integer G_l_is_integer 0) (T : Bt X V_l_is_integer) (g_isinstance : X.mg "isinstance" = none) (g_int : X.mg "int" = none) (g_bool : X.mg "bool" = none) (found : Int) (due : Int) (b : Bool) (F0 : Hp) (os : Os) (D : Ends) (hm : m_l_is_integer found due = some b) (R : RetZ F0 (os) (dat (PyData.bool b)) D) :
    SX X [sl (dat (PyData.int found)), sl (dat (PyData.int due))] (os) F0 sts_ D := by
  subst hst_
  unfold m_l_is_integer at hm
  obtain rfl := som hm
  exact sx_ret (ex_and (ex_fn (j := 0) B rfl g_isinstance (by decide +kernel) call_isi (rc_isi (d := (PyData.int found)) (T := "int") (show kitB "int" "int" = some true by decide +kernel)) (ax_cons (ex_v (i := 0) (j := 0) B rfl rfl rfl) (ax_cons (ex_tyname (T := "int") (gi := 1) B rfl g_int (by decide +kernel)) ax_nil))) (fun _ => (ex_and (ex_not (ex_fn (j := 0) B rfl g_isinstance (by decide +kernel) call_isi (rc_isi (d := (PyData.int found)) (T := "bool") (show kitB "int" "bool" = some false by decide +kernel)) (ax_cons (ex_v (i := 0) (j := 0) B rfl rfl rfl) (ax_cons (ex_tyname (T := "bool") (gi := 2) B rfl g_bool (by decide +kernel)) ax_nil)))) (fun _ => (ex_one (ex_cmp op_eq r2_eqI (nomark _) (ex_v (i := 0) (j := 0) B rfl rfl rfl) (ex_v (i := 1) (j := 1) B rfl rfl rfl)))) (fun _ => rfl) rfl)) (fun _ => rfl) rfl) (fun F H v e o c => R.rt F H v e o c)
theorem cal_l_is_integer {P : Program} {w : World} {K : PySem.W.Frag} {mg : Str → Option Value} {base : Heap} {f : Addr} {fd : FuncData} (Fn : Fun K "_law_is_integer" "_law_is_integer" s_l_is_integer f fd) (hmg : mg "_law_is_integer" = some (.ref f)) (hb : Binds K fd ["_law_found", "_law_due"] []) (g_isinstance : mg "isinstance" = none) (g_int : mg "int" = none) (g_bool : mg "bool" = none) : Cal P w K mg base 1 "_law_is_integer" s_l_is_integer ["_law_found", "_law_due"] (sp_l_is_integer K) := by
  obtain ⟨sts_, hst_⟩ : ∃ z_, defBody s_l_is_integer = z_ := ⟨_, rfl⟩
  exact cal_ZQ (V := V_l_is_integer) (Gs := G_l_is_integer) (nl := 0) hst_ Fn sc_l_is_integer (by decide +kernel) (by decide +kernel) hmg hb (fun _ => rfl) rfl fun _ _ _ _ _ _ _ a b F0 os D B T hm R => body_l_is_integer rfl hst_ B T g_isinstance g_int g_bool a.1 a.2 b F0 os D hm R
abbrev s_l_all_tables : Stmt := top 42
def N_l_all_tables : List Str := ["_law_doors_here", "_law_letters", "_law_queue", "_law_at", "_law_met", "_law_step", "_law_goals", "_law_table", "_law_room"]
def V_l_all_tables : List Str := ["_law_doors_here", "_law_letters", "_law_queue", "_law_at", "_law_met", "_law_step", "_law_goals", "_law_table"]
def G_l_all_tables : List Str := ["tuple", "range", "len", "dict", "_law_steps"]
theorem sc_l_all_tables : FnScope N_l_all_tables ["_law_doors_here", "_law_letters"] (defScope s_l_all_tables) := ⟨rfl, rfl, rfl, by decide +kernel, rfl, by decide +kernel, by decide +kernel⟩
abbrev sp_l_all_tables (K : PySem.W.Frag) : Sp := spZ (α := ((List (List (Int × Int))) × Int)) (β := (List (List Int))) (fun a => [(dat (PyData.list (List.map (eD kI PyData.int) a.1))), (dat (PyData.int a.2))]) (fun a => []) (fun a => m_l_all_tables a.1 a.2) (fun a b => (dat (PyData.list (List.map (eT PyData.int) b)))) (fun a b => [])
set_option maxHeartbeats 4000000 in
theorem body_l_all_tables {X : Cx} (hsc : X.env.scope = defScope s_l_all_tables) {sts_ : List Stmt} (hst_ : defBody s_l_all_tables = sts_) (B : Bd X N_l_all_tables V_l_all_tables G_l_all_tables 1) (T : Bt X V_l_all_tables) (g_tuple : X.mg "tuple" = none) (g_range : X.mg "range" = none) (g_len : X.mg "len" = none) (g_dict : X.mg "dict" = none) (c_l_steps : Cal X.prog X.w X.K X.mg X.base 1 "_law_steps" s_l_steps ["_law_letters"] (sp_l_steps X.K)) (doors_here : (List (List (Int × Int)))) (letters : Int) (b : (List (List Int))) (F0 : Hp) (os : Os) (D : Ends) (hm : m_l_all_tables doors_here letters = some b) (R : RetZ F0 (os) (dat (PyData.list (List.map (eT PyData.int) b))) D) :
    SX X [sl (dat (PyData.list (List.map (eD kI PyData.int) doors_here))), sl (dat (PyData.int letters)), un, un, un, un, un, un, un] (os) F0 sts_ D := by
  subst hst_
  unfold m_l_all_tables at hm
  obtain ⟨t1, h1, hm⟩ := bnd hm
  refine sx_par2 (i := 2) (j := 3) _ hsc B rfl rfl (by decide) (by decide +kernel) (by decide +kernel) (by intro env he; cases env; cases he; first | rfl | kernel_rfl) (aq_n (n := ol (List.map (eT PyData.int) ([t1]))) (en_lst (ds := [(PyData.tuple (List.map PyData.int t1))]) (hl := len_ok (n := 1) rfl) (ax_cons (ex_rgT1 (gi := 0) (gj := 1) B rfl rfl g_tuple g_range h1 (EX.to (ex_fn (j := 2) B rfl g_len (by decide +kernel) call_len_seq (rc_lenL (ds := List.map (eD kI PyData.int) doors_here) rdl_dat) (ax_cons (ex_v (i := 0) (j := 0) B rfl rfl rfl) ax_nil)) (by rw [List.length_map]))) ax_nil)) (fun q_queue2 => (aq_x (φ := (dat (PyData.int 0))) ex_int aq_nil))) (fun v0 v1 os_ hr_ => ?_) (by rintro φs os_ ⟨q_queue2, _, rfl, _, rfl, rfl, rfl⟩; exact ⟨_, _, rfl⟩)
  obtain ⟨q_queue2, _, e0, _, e1, e8, e9⟩ := hr_
  cases e0; cases e1; cases e8; cases e9
  obtain ⟨t3, h3, hm⟩ := bnd hm
  refine sx_asgN (i := 4) (vi := 4) (n := od kTI (eM PyData.bool (dOf ([(t3, true)])))) B T rfl rfl (en_ty (j := 3) B rfl g_dict (by decide +kernel) (call_dictT B.calm B.u64) (rc_dictT (enc := PyData.bool) (w := ([(t3, true)])) inj_kTI rdl_dat (fun x => congrArg (fun z => PyData.tuple [z, _]) (ek_tI x.1))) (ax_cons (EN.ex (en_lst (ds := [(PyData.tuple [(PyData.tuple (List.map PyData.int (t3, true).1)), (PyData.bool (t3, true).2)])]) (hl := len_ok (n := 1) rfl) (ax_cons (ex_tup (ds := [(PyData.tuple (List.map PyData.int t3)), (PyData.bool true)]) (hl := len_ok (n := 2) rfl) (ax_cons (ex_idxL (enc := (eT PyData.int)) h3 (rdl_own 0 rfl) (ex_v (i := 2) (j := 2) B rfl rfl rfl) ex_int) (ax_cons ex_bool ax_nil))) ax_nil))) ax_nil)) (fun q_met3 => ?_)
  obtain ⟨f5o, h26, hm⟩ := bnd hm
  refine sx_while _ _ (fun (s4 : (Int × (List ((List Int) × Bool)) × (List (List Int)))) (_ : Unit) => [sl (dat (PyData.list (List.map (eD kI PyData.int) doors_here))), sl (dat (PyData.int letters)), sl (own q_queue2), sl (dat (PyData.int s4.1)), sl (own q_met3), un, un, un, un]) (fun (s4 : (Int × (List ((List Int) × Bool)) × (List (List Int)))) (_ : Unit) => (q_met3, od kTI (eM PyData.bool s4.2.1)) :: (q_queue2, ol (List.map (eT PyData.int) s4.2.2)) :: os) (fun (r : (List (List Int))) v H => ∃ F, Same F0 F ∧ Ow F (os) H ∧ Cl (dat (PyData.list (List.map (eT PyData.int) r))) F v) T 10000 (0, (dOf ([(t3, true)])), [t1]) () f5o h26 ⟨.inl rfl, .inl rfl, .inl rfl, .inl rfl, .inl rfl, .inl rfl, .inl rfl, .inl rfl, .inl rfl, trivial⟩ rfl (fun s4 _ b hm => by (obtain rfl := som hm; exact (tx_cmp op_lt r2_lt (nomark _) (ex_v (i := 3) (j := 3) B rfl rfl rfl) (EX.to (ex_fn (j := 2) B rfl g_len (by decide +kernel) call_len_seq (rc_lenL (ds := List.map (eT PyData.int) s4.2.2) (rdl_own 1 rfl)) (ax_cons (ex_v (i := 2) (j := 2) B rfl rfl rfl) ax_nil)) (by rw [List.length_map]))))) (fun F7 e6 s4 _ z27 _ hm => ?_) (fun f5 _ ho => ?_) (fun r25 v H ho hr => ?_)
  · clear h26
    obtain ⟨t8, h8, hm⟩ := bnd hm
    obtain ⟨f11, h23, hm⟩ := bnd hm
    refine sx_for (c := anyOs) _ (fun (s9 : ((List ((List Int) × Bool)) × (List (List Int)))) (_ : Unit) => [sl (dat (PyData.list (List.map (eD kI PyData.int) doors_here))), sl (dat (PyData.int letters)), sl (own q_queue2), sl (dat (PyData.int s4.1)), sl (own q_met3), un, un, un, un]) (fun (s9 : ((List ((List Int) × Bool)) × (List (List Int)))) (_ : Unit) => (q_met3, od kTI (eM PyData.bool s9.1)) :: (q_queue2, ol (List.map (eT PyData.int) s9.2)) :: os) B T (fun step10 => gx_name (i := 5) (vi := 5) (φ := (dat (PyData.int step10))) B T rfl rfl) (s4.2.1, s4.2.2) () f11 h23 (ix_list (enc := PyData.int) (c := anyOs) (ex_call (a := letters) (b := t8) (gi := 4) (rest := (q_met3, od kTI (eM PyData.bool s4.2.1)) :: (q_queue2, ol (List.map (eT PyData.int) s4.2.2)) :: os) B rfl c_l_steps (by decide) h8 (ax_cons (ex_v (i := 1) (j := 1) B rfl rfl rfl) ax_nil)) (fun _ _ => rdl_dat) trivial) ⟨.inl rfl, .inl rfl, .inl rfl, .inl rfl, .inl rfl, .inl rfl, .inl rfl, .inl rfl, .inl rfl, trivial⟩ (fun _ _ => trivial) (fun F13 e12 s9 _ step10 z24 hx hm => ?_) (fun _ => ?_)
    · clear h23
      obtain ⟨t14, h14, hm⟩ := bnd hm
      obtain ⟨t19, h19, hm⟩ := bnd hm
      refine sx_asgLc (i := 6) B T rfl (by rw [hsc]; exact lcl_of (by decide +kernel)) (lc_mk1 (j := 8) (vp := fun room15 => (dat (PyData.int room15))) (c := anyOs) (enc := PyData.int) (fun (_ : Unit) (room15 : Int) => ((fun (room15 : Int) => ((if (decide (0 ≤ room15)) = true then ((idx doors_here room15).bind fun t17 => some ((dGet t17 step10).getD (-1))) else some (-1)).bind fun t18 => some t18)) room15).map fun y => (some y, ())) (fun (_ : Unit) (tl1 : Os) => (q_met3, od kTI (eM PyData.bool s9.1)) :: (q_queue2, ol (List.map (eT PyData.int) s9.2)) :: tl1) () (t19) () B rfl rfl (by rw [B.hN, hsc]; decide +kernel) (by rw [hsc]; decide +kernel) (by decide) (lcO_ok h19) (ix_tup (enc := PyData.int) (ex_idxL (enc := (eT PyData.int)) h14 (rdl_own 1 rfl) (ex_v (i := 2) (j := 2) B rfl rfl rfl) (ex_v (i := 3) (j := 3) B rfl rfl rfl)) rdt_dat) (fun _ _ => trivial) (fun _ _ _ => ((List.Perm.cons _ (List.Perm.swap _ _ _)).trans (List.Perm.swap _ _ _))) (fun _ room15 t tl1 hx hf => by (obtain ⟨y, hy, rfl⟩ := Option.map_eq_some_iff.mp hf; obtain ⟨t18, h18, hy⟩ := bnd hy; obtain rfl := som hy; exact ⟨true, _, fun X1 hX => by (have B1 := Bd.fam (W' := ["_law_doors_here", "_law_step", "_law_room"]) (G' := []) B hX (by (try rw [hsc]); decide +kernel); exact ⟨.nil, fun _ => ⟨_, rfl, (ex_if (tx_cmp op_ge r2_ge (nomark _) (ex_v (i := 8) (j := 2) B1 rfl rfl rfl) ex_int) (fun hk => by (have hm := ifT h18 hk; obtain ⟨t17, h17, hm⟩ := bnd hm; obtain rfl := som hm; exact (EX.to (ex_dget2 (kd := kI) (enc := PyData.int) (w := t17) (k := step10) (x := (-1)) inj_kI B1 rdd_dat rdd_dat (ex_idxL (enc := (eD kI PyData.int)) h17 rdl_dat (ex_v (i := 0) (j := 0) B1 rfl rfl rfl) (ex_v (i := 8) (j := 2) B1 rfl rfl rfl)) (ex_v (i := 5) (j := 1) B1 rfl rfl rfl) (ex_neg ex_int)) (by rfl)))) (fun hk => by (have hm := ifF h18 hk; obtain rfl := som hm; exact (EX.to (ex_neg ex_int) (by rfl)))))⟩, fun h => Bool.noConfusion h⟩)⟩))) (sw_ok (by rw [hsc]; decide +kernel) (by rw [hsc]; exact lcl_of (by decide +kernel)) (by decide) (by decide +kernel)) (fun q_goals19 => ?_)
      refine sx_frz (j := 0) (i := 6) rfl rfl ?_
      refine sx_asg (i := 7) (vi := 7) (φ := (dat (PyData.tuple (List.map PyData.int t19)))) B T rfl rfl (ex_ty (j := 0) B rfl g_tuple (by decide +kernel) call_tuple_of (rc_tupL (ds := List.map PyData.int t19) rdl_dat) (ax_cons (ex_v (i := 6) (j := 6) B rfl rfl rfl) ax_nil)) ?_
      obtain ⟨s22, h_s22, hm⟩ := bnd hm
      refine sx_join [sl (dat (PyData.list (List.map (eD kI PyData.int) doors_here))), sl (dat (PyData.int letters)), sl (own q_queue2), sl (dat (PyData.int s4.1)), sl (own q_met3), sl (dat (PyData.int step10)), sl (dat (PyData.list (List.map PyData.int t19))), sl (dat (PyData.tuple (List.map PyData.int t19))), un] ((q_met3, od kTI (eM PyData.bool s22.1)) :: (q_queue2, ol (List.map (eT PyData.int) s22.2)) :: os) (?_) (fun Q => ?_)
      · clear h_s22
        obtain rfl := som hm
        exact sx_nil fun σ H a => ⟨(), (a.weak ⟨.inl rfl, .inl rfl, .inl rfl, .inl rfl, .inl rfl, .inr rfl, .inr rfl, .inr rfl, .inl rfl, trivial⟩)⟩
      · have hm := h_s22
        refine sx_if (tx_dnotin (kd := kTI) (enc := PyData.bool) (w := s9.1) (k := t19) inj_kTI B (rdd_own 0 rfl) (EX.to (ex_v (i := 7) (j := 7) B rfl rfl rfl) (by first | exact ek_tI _ | rfl)) (ex_v (i := 4) (j := 4) B rfl rfl rfl)) (fun hk => ?_) (fun hk => ?_)
        · have hm := ifT hm hk
          obtain ⟨t20, h20, hm⟩ := bnd hm
          refine sx_dput (kd := kTI) (enc := PyData.bool) (w := s9.1) (x := true) inj_kTI h20 B ex_bool (ex_v (i := 4) (j := 4) B rfl rfl rfl) (EX.to (ex_v (i := 7) (j := 7) B rfl rfl rfl) (by first | exact ek_tI _ | rfl)) (wr_flat (f := (odT kTI PyData.bool)) (d := s9.1) 0 rfl) ?_
          obtain ⟨t21, h21, hm⟩ := bnd hm
          refine sx_expr (ex_app (enc := (eT PyData.int)) (j := 1) (xs0 := s9.2) (xs := s9.2) (y := t19) h21 (ex_v (i := 2) (j := 2) B rfl rfl rfl) rfl (ex_v (i := 7) (j := 7) B rfl rfl rfl) rfl) ?_
          obtain rfl := som hm
          exact sx_fall Q rfl
        · have hm := ifF hm hk
          obtain rfl := som hm
          exact sx_fall Q rfl
    · skip
      refine sx_asg (i := 3) (vi := 3) (φ := (dat (PyData.int (s4.1 + 1)))) B T rfl rfl (ex_add (ex_v (i := 3) (j := 3) B rfl rfl rfl) ex_int) ?_
      exact sx_nil fun σ H a => ⟨_, (), (som hm).symm, (a.weak ⟨.inl rfl, .inl rfl, .inl rfl, .inl rfl, .inl rfl, .inl rfl, .inl rfl, .inl rfl, .inl rfl, trivial⟩)⟩
  · cases ho
    have hm := elimR hm
    refine sx_frz (j := 1) (i := 2) rfl rfl ?_
    obtain rfl := som hm
    exact sx_ret (ex_v (i := 2) (j := 2) B rfl rfl rfl) (fun F H v e o c => R.rt F H v e (o.drop) c)
  · cases ho
    have hm := elimL hm
    cases hm
theorem cal_l_all_tables {P : Program} {w : World} {K : PySem.W.Frag} {mg : Str → Option Value} {base : Heap} {f : Addr} {fd : FuncData} (Fn : Fun K "_law_all_tables" "_law_all_tables" s_l_all_tables f fd) (hmg : mg "_law_all_tables" = some (.ref f)) (hb : Binds K fd ["_law_doors_here", "_law_letters"] []) (g_tuple : mg "tuple" = none) (g_range : mg "range" = none) (g_len : mg "len" = none) (g_dict : mg "dict" = none) (c_l_steps : Cal P w K mg base 1 "_law_steps" s_l_steps ["_law_letters"] (sp_l_steps K)) : Cal P w K mg base 2 "_law_all_tables" s_l_all_tables ["_law_doors_here", "_law_letters"] (sp_l_all_tables K) := by
  obtain ⟨sts_, hst_⟩ : ∃ z_, defBody s_l_all_tables = z_ := ⟨_, rfl⟩
  exact cal_ZQ (V := V_l_all_tables) (Gs := G_l_all_tables) (nl := 7) hst_ Fn sc_l_all_tables (by decide +kernel) (by decide +kernel) hmg hb (fun _ => rfl) rfl fun _ _ _ _ _ _ _ a b F0 os D B T hm R => body_l_all_tables rfl hst_ B T g_tuple g_range g_len g_dict c_l_steps a.1 a.2 b F0 os D hm R
abbrev s_l_rounds : Stmt := top 43
def N_l_rounds : List Str := ["_law_tables_here", "_law_count", "_law_found", "_law_table", "_law_first", "_law_room", "_law_times", "_law_turn"]
def V_l_rounds : List Str := ["_law_tables_here", "_law_count", "_law_found", "_law_table", "_law_first", "_law_room", "_law_times", "_law_turn"]
def G_l_rounds : List Str := ["range"]
theorem sc_l_rounds : FnScope N_l_rounds ["_law_tables_here", "_law_count"] (defScope s_l_rounds) := ⟨rfl, rfl, rfl, by decide +kernel, rfl, by decide +kernel, by decide +kernel⟩
abbrev sp_l_rounds (K : PySem.W.Frag) : Sp := spZ (α := ((List (List Int)) × Int)) (β := (List Bool)) (fun a => [(dat (PyData.list (List.map (eT PyData.int) a.1))), (dat (PyData.int a.2))]) (fun a => []) (fun a => m_l_rounds a.1 a.2) (fun a b => (dat (PyData.list (List.map PyData.bool b)))) (fun a b => [])
set_option maxHeartbeats 4000000 in
theorem body_l_rounds {X : Cx} (hsc : X.env.scope = defScope s_l_rounds) {sts_ : List Stmt} (hst_ : defBody s_l_rounds = sts_) (B : Bd X N_l_rounds V_l_rounds G_l_rounds 0) (T : Bt X V_l_rounds) (g_range : X.mg "range" = none) (tables_here : (List (List Int))) (count : Int) (b : (List Bool)) (F0 : Hp) (os : Os) (D : Ends) (hm : m_l_rounds tables_here count = some b) (R : RetZ F0 (os) (dat (PyData.list (List.map PyData.bool b))) D) :
    SX X [sl (dat (PyData.list (List.map (eT PyData.int) tables_here))), sl (dat (PyData.int count)), un, un, un, un, un, un] (os) F0 sts_ D := by
  subst hst_
  unfold m_l_rounds at hm
  obtain ⟨t1, h1, hm⟩ := bnd hm
  refine sx_asgN (i := 2) (vi := 2) (n := ol (List.map PyData.bool t1)) B T rfl rfl (en_rep (enc := PyData.bool) h1 (EN.ex (en_lst (ds := [(PyData.bool false)]) (hl := len_ok (n := 1) rfl) (ax_cons ex_bool ax_nil))) (ex_add (ex_v (i := 1) (j := 1) B rfl rfl rfl) ex_int)) (fun q_found1 => ?_)
  obtain ⟨f4, h28, hm⟩ := bnd hm
  refine sx_for (c := anyOs) _ (fun (s2 : (List Bool)) (_ : Unit) => [sl (dat (PyData.list (List.map (eT PyData.int) tables_here))), sl (dat (PyData.int count)), sl (own q_found1), un, un, un, un, un]) (fun (s2 : (List Bool)) (_ : Unit) => (q_found1, ol (List.map PyData.bool s2)) :: os) B T (fun table3 => gx_name (i := 3) (vi := 3) (φ := (dat (PyData.tuple (List.map PyData.int table3)))) B T rfl rfl) t1 () f4 h28 (ix_list (enc := (eT PyData.int)) (c := anyOs) (ex_v (i := 0) (j := 0) B rfl rfl rfl) (fun _ _ => rdl_dat) trivial) ⟨.inl rfl, .inl rfl, .inl rfl, .inl rfl, .inl rfl, .inl rfl, .inl rfl, .inl rfl, trivial⟩ (fun _ _ => trivial) (fun F6 e5 s2 _ table3 z29 hx hm => ?_) (fun _ => ?_)
  · clear h28
    obtain ⟨t7, h7, hm⟩ := bnd hm
    obtain ⟨f10, h26, hm⟩ := bnd hm
    refine sx_for (c := anyOs) _ (fun (s8 : (List Bool)) (_ : Unit) => [sl (dat (PyData.list (List.map (eT PyData.int) tables_here))), sl (dat (PyData.int count)), sl (own q_found1), sl (dat (PyData.tuple (List.map PyData.int table3))), un, un, un, un]) (fun (s8 : (List Bool)) (_ : Unit) => (q_found1, ol (List.map PyData.bool s8)) :: os) B T (fun first9 => gx_name (i := 4) (vi := 4) (φ := (dat (PyData.int first9))) B T rfl rfl) s2 () f10 h26 (ix_rng1 (gi := 0) B rfl g_range h7 (ex_v (i := 1) (j := 1) B rfl rfl rfl)) ⟨.inl rfl, .inl rfl, .inl rfl, .inl rfl, .inl rfl, .inl rfl, .inl rfl, .inl rfl, trivial⟩ (fun _ _ => trivial) (fun F12 e11 s8 _ first9 z27 hx hm => ?_) (fun _ => ?_)
    · clear h26
      obtain ⟨t13, h13, hm⟩ := bnd hm
      refine sx_par2 (i := 5) (j := 6) _ hsc B rfl rfl (by decide) (by decide +kernel) (by decide +kernel) (by intro env he; cases env; cases he; first | rfl | kernel_rfl) (aq_x (φ := (dat (PyData.int t13))) (ex_idxT (enc := PyData.int) h13 rdt_dat (ex_v (i := 3) (j := 3) B rfl rfl rfl) (ex_v (i := 4) (j := 4) B rfl rfl rfl)) (aq_x (φ := (dat (PyData.int 1))) ex_int aq_nil)) (fun v0 v1 os_ hr_ => ?_) (by rintro φs os_ ⟨_, rfl, _, rfl, rfl, rfl⟩; exact ⟨_, _, rfl⟩)
      obtain ⟨_, e0, _, e1, e8, e9⟩ := hr_
      cases e0; cases e1; cases e8; cases e9
      obtain ⟨t14, h14, hm⟩ := bnd hm
      obtain ⟨f17, h22, hm⟩ := bnd hm
      refine sx_for (c := anyOs) _ (fun (s15 : (Int × Int)) (_ : Unit) => [sl (dat (PyData.list (List.map (eT PyData.int) tables_here))), sl (dat (PyData.int count)), sl (own q_found1), sl (dat (PyData.tuple (List.map PyData.int table3))), sl (dat (PyData.int first9)), sl (dat (PyData.int s15.1)), sl (dat (PyData.int s15.2)), un]) (fun (s15 : (Int × Int)) (_ : Unit) => (q_found1, ol (List.map PyData.bool s8)) :: os) B T (fun turn16 => gx_name (i := 7) (vi := 7) (φ := (dat (PyData.int turn16))) B T rfl rfl) (t13, 1) () f17 h22 (ix_rng1 (gi := 0) B rfl g_range h14 (ex_v (i := 1) (j := 1) B rfl rfl rfl)) ⟨.inl rfl, .inl rfl, .inl rfl, .inl rfl, .inl rfl, .inl rfl, .inl rfl, .inl rfl, trivial⟩ (fun _ _ => trivial) (fun F19 e18 s15 _ turn16 z25 hx hm => ?_) (fun _ => ?_)
      · clear h22
        obtain ⟨s21, h_s21, hm⟩ := bnd hm
        refine sx_join [sl (dat (PyData.list (List.map (eT PyData.int) tables_here))), sl (dat (PyData.int count)), sl (own q_found1), sl (dat (PyData.tuple (List.map PyData.int table3))), sl (dat (PyData.int first9)), sl (dat (PyData.int s21.1)), sl (dat (PyData.int s21.2)), sl (dat (PyData.int turn16))] ((q_found1, ol (List.map PyData.bool s8)) :: os) (?_) (fun Q => ?_)
        · clear h_s21
          obtain rfl := som hm
          exact sx_nil fun σ H a => ⟨(), (a.weak ⟨.inl rfl, .inl rfl, .inl rfl, .inl rfl, .inl rfl, .inl rfl, .inl rfl, .inr rfl, trivial⟩)⟩
        · have hm := h_s21
          refine sx_if (WX.tx (wx_and (tx_cmp op_ge r2_ge (nomark _) (ex_v (i := 5) (j := 5) B rfl rfl rfl) ex_int) (fun _ => (wx_and1 (tx_cmp op_ne r2_neI (nomark _) (ex_v (i := 5) (j := 5) B rfl rfl rfl) (ex_v (i := 4) (j := 4) B rfl rfl rfl)))) (fun _ => rfl) rfl)) (fun hk => ?_) (fun hk => ?_)
          · have hm := ifT hm hk
            obtain ⟨t20, h20, hm⟩ := bnd hm
            refine sx_par2 (i := 5) (j := 6) _ hsc B rfl rfl (by decide) (by decide +kernel) (by decide +kernel) (by intro env he; cases env; cases he; first | rfl | kernel_rfl) (aq_x (φ := (dat (PyData.int t20))) (ex_idxT (enc := PyData.int) h20 rdt_dat (ex_v (i := 3) (j := 3) B rfl rfl rfl) (ex_v (i := 5) (j := 5) B rfl rfl rfl)) (aq_x (φ := (dat (PyData.int (s15.2 + 1)))) (ex_add (ex_v (i := 6) (j := 6) B rfl rfl rfl) ex_int) aq_nil)) (fun v0 v1 os_ hr_ => ?_) (by rintro φs os_ ⟨_, rfl, _, rfl, rfl, rfl⟩; exact ⟨_, _, rfl⟩)
            obtain ⟨_, e0, _, e1, e8, e9⟩ := hr_
            cases e0; cases e1; cases e8; cases e9
            obtain rfl := som hm
            exact sx_fall Q rfl
          · have hm := ifF hm hk
            obtain rfl := som hm
            exact sx_fall Q rfl
      · skip
        obtain ⟨s24, h_s24, hm⟩ := bnd hm
        refine sx_join [sl (dat (PyData.list (List.map (eT PyData.int) tables_here))), sl (dat (PyData.int count)), sl (own q_found1), sl (dat (PyData.tuple (List.map PyData.int table3))), sl (dat (PyData.int first9)), sl (dat (PyData.int f17.1)), sl (dat (PyData.int f17.2)), un] ((q_found1, ol (List.map PyData.bool s24)) :: os) (?_) (fun Q => ?_)
        · clear h_s24
          obtain rfl := som hm
          exact sx_nil fun σ H a => ⟨(), (a.weak ⟨.inl rfl, .inl rfl, .inl rfl, .inl rfl, .inr rfl, .inr rfl, .inr rfl, .inl rfl, trivial⟩)⟩
        · have hm := h_s24
          refine sx_if (tx_cmp op_eq r2_eqI (nomark _) (ex_v (i := 5) (j := 5) B rfl rfl rfl) (ex_v (i := 4) (j := 4) B rfl rfl rfl)) (fun hk => ?_) (fun hk => ?_)
          · have hm := ifT hm hk
            obtain ⟨t23, h23, hm⟩ := bnd hm
            refine sx_setO (enc := PyData.bool) (j := 0) h23 ex_bool (ex_v (i := 2) (j := 2) B rfl rfl rfl) (ex_v (i := 6) (j := 6) B rfl rfl rfl) rfl ?_
            obtain rfl := som hm
            exact sx_fall Q rfl
          · have hm := ifF hm hk
            obtain rfl := som hm
            exact sx_fall Q rfl
    · skip
      obtain rfl := som hm
      exact sx_nil fun σ H a => ⟨(), (a.weak ⟨.inl rfl, .inl rfl, .inl rfl, .inr rfl, .inl rfl, .inl rfl, .inl rfl, .inl rfl, trivial⟩)⟩
  · skip
    refine sx_frz (j := 0) (i := 2) rfl rfl ?_
    obtain rfl := som hm
    exact sx_ret (ex_v (i := 2) (j := 2) B rfl rfl rfl) (fun F H v e o c => R.rt F H v e o c)
theorem cal_l_rounds {P : Program} {w : World} {K : PySem.W.Frag} {mg : Str → Option Value} {base : Heap} {f : Addr} {fd : FuncData} (Fn : Fun K "_law_rounds" "_law_rounds" s_l_rounds f fd) (hmg : mg "_law_rounds" = some (.ref f)) (hb : Binds K fd ["_law_tables_here", "_law_count"] []) (g_range : mg "range" = none) : Cal P w K mg base 1 "_law_rounds" s_l_rounds ["_law_tables_here", "_law_count"] (sp_l_rounds K) := by
  obtain ⟨sts_, hst_⟩ : ∃ z_, defBody s_l_rounds = z_ := ⟨_, rfl⟩
  exact cal_ZQ (V := V_l_rounds) (Gs := G_l_rounds) (nl := 6) hst_ Fn sc_l_rounds (by decide +kernel) (by decide +kernel) hmg hb (fun _ => rfl) rfl fun _ _ _ _ _ _ _ a b F0 os D B T hm R => body_l_rounds rfl hst_ B T g_range a.1 a.2 b F0 os D hm R
abbrev s_l_round : Stmt := top 44
def N_l_round : List Str := ["_law_doors_here", "_law_walk", "_law_most", "_law_times", "_law_room", "_law_step"]
def V_l_round : List Str := ["_law_doors_here", "_law_walk", "_law_most", "_law_times", "_law_room", "_law_step"]
def G_l_round : List Str := ["range", "_law_short"]
theorem sc_l_round : FnScope N_l_round ["_law_doors_here", "_law_walk", "_law_most"] (defScope s_l_round) := ⟨rfl, rfl, rfl, by decide +kernel, rfl, by decide +kernel, by decide +kernel⟩
abbrev sp_l_round (K : PySem.W.Frag) : Sp := spZ (α := ((List (List (Int × Int))) × (List Int) × Int)) (β := Int) (fun a => [(dat (PyData.list (List.map (eD kI PyData.int) a.1))), (dat (PyData.tuple (List.map PyData.int a.2.1))), (dat (PyData.int a.2.2))]) (fun a => []) (fun a => m_l_round a.1 a.2.1 a.2.2) (fun a b => (dat (PyData.int b))) (fun a b => [])
set_option maxHeartbeats 4000000 in
theorem body_l_round {X : Cx} (hsc : X.env.scope = defScope s_l_round) {sts_ : List Stmt} (hst_ : defBody s_l_round = sts_) (B : Bd X N_l_round V_l_round G_l_round 1) (T : Bt X V_l_round) (g_range : X.mg "range" = none) (c_l_short : Cal X.prog X.w X.K X.mg X.base 1 "_law_short" s_l_short ["_law_walk"] (sp_l_short X.K)) (doors_here : (List (List (Int × Int)))) (walk : (List Int)) (most : Int) (b : Int) (F0 : Hp) (os : Os) (D : Ends) (hm : m_l_round doors_here walk most = some b) (R : RetZ F0 (os) (dat (PyData.int b)) D) :
    SX X [sl (dat (PyData.list (List.map (eD kI PyData.int) doors_here))), sl (dat (PyData.tuple (List.map PyData.int walk))), sl (dat (PyData.int most)), un, un, un] (os) F0 sts_ D := by
  subst hst_
  unfold m_l_round at hm
  obtain ⟨t1, h1, hm⟩ := bnd hm
  obtain ⟨f4o, h18, hm⟩ := bnd hm
  refine sx_forR (c := anyOs) _ (fun (s2 : Unit) (_ : Unit) => [sl (dat (PyData.list (List.map (eD kI PyData.int) doors_here))), sl (dat (PyData.tuple (List.map PyData.int walk))), sl (dat (PyData.int most)), un, un, un]) (fun (s2 : Unit) (_ : Unit) => os) (fun (r : Int) v H => ∃ F, Same F0 F ∧ Ow F (os) H ∧ Cl (dat (PyData.int r)) F v) B T (fun times3 => gx_name (i := 3) (vi := 3) (φ := (dat (PyData.int times3))) B T rfl rfl) () () f4o h18 (ix_rng2 (gi := 0) B rfl g_range h1 ex_int (ex_add (ex_v (i := 2) (j := 2) B rfl rfl rfl) ex_int)) ⟨.inl rfl, .inl rfl, .inl rfl, .inl rfl, .inl rfl, .inl rfl, trivial⟩ (fun _ _ => trivial) (fun F6 e5 s2 _ times3 z20 hx hm2 => ?_) (fun f4 _ ho => ?_) (fun r19 v H ho hr => ?_)
  · clear hm h18
    have hm := hm2
    refine sx_asg (i := 4) (vi := 4) (φ := (dat (PyData.int 0))) B T rfl rfl ex_int ?_
    obtain ⟨t7, h7, hm⟩ := bnd hm
    obtain ⟨t8, h8, hm⟩ := bnd hm
    obtain ⟨f11, h16, hm⟩ := bnd hm
    refine sx_for (c := anyOs) _ (fun (s9 : Int) (_ : Unit) => [sl (dat (PyData.list (List.map (eD kI PyData.int) doors_here))), sl (dat (PyData.tuple (List.map PyData.int walk))), sl (dat (PyData.int most)), sl (dat (PyData.int times3)), sl (dat (PyData.int s9)), un]) (fun (s9 : Int) (_ : Unit) => os) B T (fun step10 => gx_name (i := 5) (vi := 5) (φ := (dat (PyData.int step10))) B T rfl rfl) 0 () f11 h16 (ix_tup (enc := PyData.int) (ex_call (a := t7) (b := t8) (gi := 1) (rest := os) B rfl c_l_short (by decide) h8 (ax_cons (ex_repT (enc := PyData.int) h7 (ex_v (i := 1) (j := 1) B rfl rfl rfl) (ex_v (i := 3) (j := 3) B rfl rfl rfl)) ax_nil)) rdt_dat) ⟨.inl rfl, .inl rfl, .inl rfl, .inl rfl, .inl rfl, .inl rfl, trivial⟩ (fun _ _ => trivial) (fun F13 e12 s9 _ step10 z17 hx hm => ?_) (fun _ => ?_)
    · clear h16
      obtain ⟨s15, h_s15, hm⟩ := bnd hm
      refine sx_join [sl (dat (PyData.list (List.map (eD kI PyData.int) doors_here))), sl (dat (PyData.tuple (List.map PyData.int walk))), sl (dat (PyData.int most)), sl (dat (PyData.int times3)), sl (dat (PyData.int s15)), sl (dat (PyData.int step10))] (os) (?_) (fun Q => ?_)
      · clear h_s15
        obtain rfl := som hm
        exact sx_nil fun σ H a => ⟨(), (a.weak ⟨.inl rfl, .inl rfl, .inl rfl, .inl rfl, .inl rfl, .inr rfl, trivial⟩)⟩
      · have hm := h_s15
        refine sx_if (tx_cmp op_ge r2_ge (nomark _) (ex_v (i := 4) (j := 4) B rfl rfl rfl) ex_int) (fun hk => ?_) (fun hk => ?_)
        · have hm := ifT hm hk
          obtain ⟨t14, h14, hm⟩ := bnd hm
          refine sx_asg (i := 4) (vi := 4) (φ := (dat (PyData.int ((dGet t14 step10).getD (-1))))) B T rfl rfl (ex_dget2 (kd := kI) (enc := PyData.int) (w := t14) (k := step10) (x := (-1)) inj_kI B rdd_dat rdd_dat (ex_idxL (enc := (eD kI PyData.int)) h14 rdl_dat (ex_v (i := 0) (j := 0) B rfl rfl rfl) (ex_v (i := 4) (j := 4) B rfl rfl rfl)) (ex_v (i := 5) (j := 5) B rfl rfl rfl) (ex_neg ex_int)) ?_
          obtain rfl := som hm
          exact sx_fall Q rfl
        · have hm := ifF hm hk
          obtain rfl := som hm
          exact sx_fall Q rfl
    · skip
      refine sx_if (tx_cmp op_eq r2_eqI (nomark _) (ex_v (i := 4) (j := 4) B rfl rfl rfl) ex_int) (fun hk => ?_) (fun hk => ?_)
      · have hm := ifT hm hk
        exact sx_ret (ex_v (i := 3) (j := 3) B rfl rfl rfl) (fun F H v e o c => ⟨_, (som hm).symm, F, (e5.trans e), o, c⟩)
      · have hm := ifF hm hk
        refine sx_fall ?_ rfl
        exact sx_nil fun σ H a => ⟨_, (), (som hm).symm, (a.weak ⟨.inl rfl, .inl rfl, .inl rfl, .inr rfl, .inr rfl, .inl rfl, trivial⟩)⟩
  · cases ho
    have hm := elimR hm
    obtain rfl := som hm
    exact sx_ret ex_int (fun F H v e o c => R.rt F H v e o c)
  · cases ho
    have hm := elimL hm
    obtain rfl := som hm
    obtain ⟨F, e, o, c⟩ := hr
    exact R.rt F H v e o c
theorem cal_l_round {P : Program} {w : World} {K : PySem.W.Frag} {mg : Str → Option Value} {base : Heap} {f : Addr} {fd : FuncData} (Fn : Fun K "_law_round" "_law_round" s_l_round f fd) (hmg : mg "_law_round" = some (.ref f)) (hb : Binds K fd ["_law_doors_here", "_law_walk", "_law_most"] []) (g_range : mg "range" = none) (c_l_short : Cal P w K mg base 1 "_law_short" s_l_short ["_law_walk"] (sp_l_short K)) : Cal P w K mg base 2 "_law_round" s_l_round ["_law_doors_here", "_law_walk", "_law_most"] (sp_l_round K) := by
  obtain ⟨sts_, hst_⟩ : ∃ z_, defBody s_l_round = z_ := ⟨_, rfl⟩
  exact cal_ZQ (V := V_l_round) (Gs := G_l_round) (nl := 3) hst_ Fn sc_l_round (by decide +kernel) (by decide +kernel) hmg hb (fun _ => rfl) rfl fun _ _ _ _ _ _ _ a b F0 os D B T hm R => body_l_round rfl hst_ B T g_range c_l_short a.1 a.2.1 a.2.2 b F0 os D hm R
abbrev s_l_is_walk : Stmt := top 45
def N_l_is_walk : List Str := ["_law_found", "_law_letters", "_law_step"]
def V_l_is_walk : List Str := ["_law_found", "_law_letters", "_law_step"]
def G_l_is_walk : List Str := ["isinstance", "tuple", "int", "bool", "abs", "_law_short"]
theorem sc_l_is_walk : FnScope N_l_is_walk ["_law_found", "_law_letters"] (defScope s_l_is_walk) := ⟨rfl, rfl, rfl, by decide +kernel, rfl, by decide +kernel, by decide +kernel⟩
abbrev sp_l_is_walk (K : PySem.W.Frag) : Sp := spZ (α := ((List Int) × Int)) (β := Bool) (fun a => [(dat (PyData.tuple (List.map PyData.int a.1))), (dat (PyData.int a.2))]) (fun a => []) (fun a => m_l_is_walk a.1 a.2) (fun a b => (dat (PyData.bool b))) (fun a b => [])
set_option maxHeartbeats 4000000 in
theorem body_l_is_walk {X : Cx} (hsc : X.env.scope = defScope s_l_is_walk) {sts_ : List Stmt} (hst_ : defBody s_l_is_walk = sts_) (B : Bd X N_l_is_walk V_l_is_walk G_l_is_walk 1) (T : Bt X V_l_is_walk) (g_isinstance : X.mg "isinstance" = none) (g_tuple : X.mg "tuple" = none) (g_int : X.mg "int" = none) (g_bool : X.mg "bool" = none) (g_abs : X.mg "abs" = none) (c_l_short : Cal X.prog X.w X.K X.mg X.base 1 "_law_short" s_l_short ["_law_walk"] (sp_l_short X.K)) (found : (List Int)) (letters : Int) (b : Bool) (F0 : Hp) (os : Os) (D : Ends) (hm : m_l_is_walk found letters = some b) (R : RetZ F0 (os) (dat (PyData.bool b)) D) :
    SX X [sl (dat (PyData.tuple (List.map PyData.int found))), sl (dat (PyData.int letters)), un] (os) F0 sts_ D := by
  subst hst_
  unfold m_l_is_walk at hm
  refine sx_if (tx_not (tx_val (ex_fn (j := 0) B rfl g_isinstance (by decide +kernel) call_isi (rc_isi (d := (PyData.tuple (List.map PyData.int found))) (T := "tuple") (show kitB "tuple" "tuple" = some true by decide +kernel)) (ax_cons (ex_v (i := 0) (j := 0) B rfl rfl rfl) (ax_cons (ex_tyname (T := "tuple") (gi := 1) B rfl g_tuple (by decide +kernel)) ax_nil))) (by intro _; rfl))) (fun hk => Bool.noConfusion hk) (fun _ => ?_)
  refine sx_fall ?_ rfl
  obtain ⟨f3o, h6, hm⟩ := bnd hm
  refine sx_forR (c := anyOs) _ (fun (s1 : Unit) (_ : Unit) => [sl (dat (PyData.tuple (List.map PyData.int found))), sl (dat (PyData.int letters)), un]) (fun (s1 : Unit) (_ : Unit) => os) (fun (r : Bool) v H => ∃ F, Same F0 F ∧ Ow F (os) H ∧ Cl (dat (PyData.bool r)) F v) B T (fun step2 => gx_name (i := 2) (vi := 2) (φ := (dat (PyData.int step2))) B T rfl rfl) () () f3o h6 (ix_tup (enc := PyData.int) (ex_v (i := 0) (j := 0) B rfl rfl rfl) rdt_dat) ⟨.inl rfl, .inl rfl, .inl rfl, trivial⟩ (fun _ _ => trivial) (fun F5 e4 s1 _ step2 z9 hx hm2 => ?_) (fun f3 _ ho => ?_) (fun r8 v H ho hr => ?_)
  · clear hm h6
    have hm := hm2
    refine sx_if (WX.tx (wx_or (tx_not (tx_val (ex_fn (j := 0) B rfl g_isinstance (by decide +kernel) call_isi (rc_isi (d := (PyData.int step2)) (T := "int") (show kitB "int" "int" = some true by decide +kernel)) (ax_cons (ex_v (i := 2) (j := 2) B rfl rfl rfl) (ax_cons (ex_tyname (T := "int") (gi := 2) B rfl g_int (by decide +kernel)) ax_nil))) (by intro _; rfl))) (fun _ => (wx_or (tx_val (ex_fn (j := 0) B rfl g_isinstance (by decide +kernel) call_isi (rc_isi (d := (PyData.int step2)) (T := "bool") (show kitB "int" "bool" = some false by decide +kernel)) (ax_cons (ex_v (i := 2) (j := 2) B rfl rfl rfl) (ax_cons (ex_tyname (T := "bool") (gi := 3) B rfl g_bool (by decide +kernel)) ax_nil))) (by intro _; rfl)) (fun _ => (wx_or (tx_cmp op_eq r2_eqI (nomark _) (ex_v (i := 2) (j := 2) B rfl rfl rfl) ex_int) (fun _ => (wx_or1 (tx_cmp op_gt r2_gt (nomark _) (ex_fn (j := 4) B rfl g_abs (by decide +kernel) call_abs rc_abs (ax_cons (ex_v (i := 2) (j := 2) B rfl rfl rfl) ax_nil)) (ex_v (i := 1) (j := 1) B rfl rfl rfl)))) (fun _ => rfl) rfl)) (fun _ => rfl) rfl)) (fun _ => rfl) rfl)) (fun hk => ?_) (fun hk => ?_)
    · have hm := ifT hm hk
      exact sx_ret ex_bool (fun F H v e o c => ⟨_, (som hm).symm, F, (e4.trans e), o, c⟩)
    · have hm := ifF hm hk
      refine sx_fall ?_ rfl
      exact sx_nil fun σ H a => ⟨_, (), (som hm).symm, (a.weak ⟨.inl rfl, .inl rfl, .inr rfl, trivial⟩)⟩
  · cases ho
    have hm := elimR hm
    obtain ⟨t7, h7, hm⟩ := bnd hm
    obtain rfl := som hm
    exact sx_ret (ex_eqR (e := (eT PyData.int)) (x := t7) (y := found) B (eqv_tup eqv_int) (sh_tup sh_int) (by decide) rdx_dat rdx_dat (ex_call (a := found) (b := t7) (gi := 5) (rest := os) B rfl c_l_short (by decide) h7 (ax_cons (ex_v (i := 0) (j := 0) B rfl rfl rfl) ax_nil)) (ex_v (i := 0) (j := 0) B rfl rfl rfl)) (fun F H v e o c => R.rt F H v e o c)
  · cases ho
    have hm := elimL hm
    obtain rfl := som hm
    obtain ⟨F, e, o, c⟩ := hr
    exact R.rt F H v e o c
theorem cal_l_is_walk {P : Program} {w : World} {K : PySem.W.Frag} {mg : Str → Option Value} {base : Heap} {f : Addr} {fd : FuncData} (Fn : Fun K "_law_is_walk" "_law_is_walk" s_l_is_walk f fd) (hmg : mg "_law_is_walk" = some (.ref f)) (hb : Binds K fd ["_law_found", "_law_letters"] []) (g_isinstance : mg "isinstance" = none) (g_tuple : mg "tuple" = none) (g_int : mg "int" = none) (g_bool : mg "bool" = none) (g_abs : mg "abs" = none) (c_l_short : Cal P w K mg base 1 "_law_short" s_l_short ["_law_walk"] (sp_l_short K)) : Cal P w K mg base 2 "_law_is_walk" s_l_is_walk ["_law_found", "_law_letters"] (sp_l_is_walk K) := by
  obtain ⟨sts_, hst_⟩ : ∃ z_, defBody s_l_is_walk = z_ := ⟨_, rfl⟩
  exact cal_ZQ (V := V_l_is_walk) (Gs := G_l_is_walk) (nl := 1) hst_ Fn sc_l_is_walk (by decide +kernel) (by decide +kernel) hmg hb (fun _ => rfl) rfl fun _ _ _ _ _ _ _ a b F0 os D B T hm R => body_l_is_walk rfl hst_ B T g_isinstance g_tuple g_int g_bool g_abs c_l_short a.1 a.2 b F0 os D hm R
abbrev s_l_walk_right : Stmt := top 46
def N_l_walk_right : List Str := ["_law_doors_here", "_law_letters", "_law_found", "_law_times", "_law_due"]
def V_l_walk_right : List Str := ["_law_doors_here", "_law_letters", "_law_found", "_law_times", "_law_due"]
def G_l_walk_right : List Str := ["_law_is_walk", "_law_round", "len"]
theorem sc_l_walk_right : FnScope N_l_walk_right ["_law_doors_here", "_law_letters", "_law_found", "_law_times", "_law_due"] (defScope s_l_walk_right) := ⟨rfl, rfl, rfl, by decide +kernel, rfl, by decide +kernel, by decide +kernel⟩
abbrev sp_l_walk_right (K : PySem.W.Frag) : Sp := spZ (α := ((List (List (Int × Int))) × Int × (Option (List Int)) × Int × Bool)) (β := Bool) (fun a => [(dat (PyData.list (List.map (eD kI PyData.int) a.1))), (dat (PyData.int a.2.1)), (dat ((eO (eT PyData.int)) a.2.2.1)), (dat (PyData.int a.2.2.2.1)), (dat (PyData.bool a.2.2.2.2))]) (fun a => []) (fun a => m_l_walk_right a.1 a.2.1 a.2.2.1 a.2.2.2.1 a.2.2.2.2) (fun a b => (dat (PyData.bool b))) (fun a b => [])
set_option maxHeartbeats 4000000 in
theorem body_l_walk_right {X : Cx} (hsc : X.env.scope = defScope s_l_walk_right) {sts_ : List Stmt} (hst_ : defBody s_l_walk_right = sts_) (B : Bd X N_l_walk_right V_l_walk_right G_l_walk_right 2) (T : Bt X V_l_walk_right) (c_l_is_walk : Cal X.prog X.w X.K X.mg X.base 2 "_law_is_walk" s_l_is_walk ["_law_found", "_law_letters"] (sp_l_is_walk X.K)) (c_l_round : Cal X.prog X.w X.K X.mg X.base 2 "_law_round" s_l_round ["_law_doors_here", "_law_walk", "_law_most"] (sp_l_round X.K)) (g_len : X.mg "len" = none) (doors_here : (List (List (Int × Int)))) (letters : Int) (found : (Option (List Int))) (times : Int) (due : Bool) (b : Bool) (F0 : Hp) (os : Os) (D : Ends) (hm : m_l_walk_right doors_here letters found times due = some b) (R : RetZ F0 (os) (dat (PyData.bool b)) D) :
    SX X [sl (dat (PyData.list (List.map (eD kI PyData.int) doors_here))), sl (dat (PyData.int letters)), sl (dat ((eO (eT PyData.int)) found)), sl (dat (PyData.int times)), sl (dat (PyData.bool due))] (os) F0 sts_ D := by
  subst hst_
  unfold m_l_walk_right at hm
  refine sx_if (tx_not (tx_val (ex_v (i := 4) (j := 4) B rfl rfl rfl) (by intro _; rfl))) (fun hk => ?_) (fun hk => ?_)
  · have hm := ifT hm hk
    cases hq1 : found with
    | none =>
      rw [hq1] at hm
      obtain rfl := som hm
      exact sx_ret (ex_cmp op_isN (r2_isN (d := PyData.none) (t := true) rfl) (nomark _) (ex_v (i := 2) (j := 2) B rfl rfl rfl) ex_none) (fun F H v e o c => R.rt F H v e o c)
    | some found1 =>
      rw [hq1] at hm
      obtain rfl := som hm
      exact sx_ret (ex_cmp op_isN (r2_isN (d := (PyData.tuple (List.map PyData.int found1))) (t := false) rfl) (nomark _) (ex_v (i := 2) (j := 2) B rfl rfl rfl) ex_none) (fun F H v e o c => R.rt F H v e o c)
  · have hm := ifF hm hk
    refine sx_fall ?_ rfl
    obtain ⟨t2, h2, hm⟩ := bnd hm
    obtain ⟨t3, h3, hm⟩ := bnd hm
    obtain ⟨t6, h6, hm⟩ := bnd hm
    obtain rfl := som hm
    exact sx_ret (ex_and (l := t6) (os2 := os) (ex_call (a := (t2, letters)) (b := t3) (gi := 0) (rest := os) B rfl c_l_is_walk (by decide) h3 (ax_cons (EX.to (ex_v (i := 2) (j := 2) B rfl rfl rfl) (by rw [h2] <;> rfl)) (ax_cons (ex_v (i := 1) (j := 1) B rfl rfl rfl) ax_nil))) (fun hk => by (have hm := ifT h6 hk; obtain ⟨t4, h4, hm⟩ := bnd hm; obtain ⟨t5, h5, hm⟩ := bnd hm; obtain rfl := som hm; exact (ex_one (ex_cmp op_eq r2_eqI (nomark _) (ex_call (a := (doors_here, t4, (doors_here.length : Int))) (b := t5) (gi := 1) (rest := os) B rfl c_l_round (by decide) h5 (ax_cons (ex_v (i := 0) (j := 0) B rfl rfl rfl) (ax_cons (EX.to (ex_v (i := 2) (j := 2) B rfl rfl rfl) (by rw [h4] <;> rfl)) (ax_cons (EX.to (ex_fn (j := 2) B rfl g_len (by decide +kernel) call_len_seq (rc_lenL (ds := List.map (eD kI PyData.int) doors_here) rdl_dat) (ax_cons (ex_v (i := 0) (j := 0) B rfl rfl rfl) ax_nil)) (by rw [List.length_map])) ax_nil)))) (ex_v (i := 3) (j := 3) B rfl rfl rfl))))) (fun hk => by (have hm := ifF h6 hk; obtain rfl := som hm; rfl)) (and_fix (fun hk => by (have hm := ifF h6 hk; obtain rfl := som hm; rfl)))) (fun F H v e o c => R.rt F H v e o c)
theorem cal_l_walk_right {P : Program} {w : World} {K : PySem.W.Frag} {mg : Str → Option Value} {base : Heap} {f : Addr} {fd : FuncData} (Fn : Fun K "_law_walk_right" "_law_walk_right" s_l_walk_right f fd) (hmg : mg "_law_walk_right" = some (.ref f)) (hb : Binds K fd ["_law_doors_here", "_law_letters", "_law_found", "_law_times", "_law_due"] []) (c_l_is_walk : Cal P w K mg base 2 "_law_is_walk" s_l_is_walk ["_law_found", "_law_letters"] (sp_l_is_walk K)) (c_l_round : Cal P w K mg base 2 "_law_round" s_l_round ["_law_doors_here", "_law_walk", "_law_most"] (sp_l_round K)) (g_len : mg "len" = none) : Cal P w K mg base 3 "_law_walk_right" s_l_walk_right ["_law_doors_here", "_law_letters", "_law_found", "_law_times", "_law_due"] (sp_l_walk_right K) := by
  obtain ⟨sts_, hst_⟩ : ∃ z_, defBody s_l_walk_right = z_ := ⟨_, rfl⟩
  exact cal_ZQ (V := V_l_walk_right) (Gs := G_l_walk_right) (nl := 0) hst_ Fn sc_l_walk_right (by decide +kernel) (by decide +kernel) hmg hb (fun _ => rfl) rfl fun _ _ _ _ _ _ _ a b F0 os D B T hm R => body_l_walk_right rfl hst_ B T c_l_is_walk c_l_round g_len a.1 a.2.1 a.2.2.1 a.2.2.2.1 a.2.2.2.2 b F0 os D hm R
abbrev s_l_truth : Stmt := top 47
def N_l_truth : List Str := ["_law_found", "_law_due"]
def V_l_truth : List Str := ["_law_found", "_law_due"]
def G_l_truth : List Str := ["isinstance", "bool"]
theorem sc_l_truth : FnScope N_l_truth ["_law_found", "_law_due"] (defScope s_l_truth) := ⟨rfl, rfl, rfl, by decide +kernel, rfl, by decide +kernel, by decide +kernel⟩
abbrev sp_l_truth (K : PySem.W.Frag) : Sp := spZ (α := (Bool × Bool)) (β := Bool) (fun a => [(dat (PyData.bool a.1)), (dat (PyData.bool a.2))]) (fun a => []) (fun a => m_l_truth a.1 a.2) (fun a b => (dat (PyData.bool b))) (fun a b => [])
set_option maxHeartbeats 4000000 in
theorem body_l_truth {X : Cx} (hsc : X.env.scope = defScope s_l_truth) {sts_ : List Stmt} (hst_ : defBody s_l_truth = sts_) (B : Bd X N_l_truth V_l_truth G_l_truth 0) (T : Bt X V_l_truth) (g_isinstance : X.mg "isinstance" = none) (g_bool : X.mg "bool" = none) (found : Bool) (due : Bool) (b : Bool) (F0 : Hp) (os : Os) (D : Ends) (hm : m_l_truth found due = some b) (R : RetZ F0 (os) (dat (PyData.bool b)) D) :
    SX X [sl (dat (PyData.bool found)), sl (dat (PyData.bool due))] (os) F0 sts_ D := by
  subst hst_
  unfold m_l_truth at hm
  obtain rfl := som hm
  exact sx_ret (ex_and (ex_fn (j := 0) B rfl g_isinstance (by decide +kernel) call_isi (rc_isi (d := (PyData.bool found)) (T := "bool") (show kitB "bool" "bool" = some true by decide +kernel)) (ax_cons (ex_v (i := 0) (j := 0) B rfl rfl rfl) (ax_cons (ex_tyname (T := "bool") (gi := 1) B rfl g_bool (by decide +kernel)) ax_nil))) (fun _ => (ex_one (ex_eqR (e := PyData.bool) (x := found) (y := due) B eqv_bool sh_bool (by decide) rdx_dat rdx_dat (ex_v (i := 0) (j := 0) B rfl rfl rfl) (ex_v (i := 1) (j := 1) B rfl rfl rfl)))) (fun _ => rfl) rfl) (fun F H v e o c => R.rt F H v e o c)
theorem cal_l_truth {P : Program} {w : World} {K : PySem.W.Frag} {mg : Str → Option Value} {base : Heap} {f : Addr} {fd : FuncData} (Fn : Fun K "_law_truth" "_law_truth" s_l_truth f fd) (hmg : mg "_law_truth" = some (.ref f)) (hb : Binds K fd ["_law_found", "_law_due"] []) (g_isinstance : mg "isinstance" = none) (g_bool : mg "bool" = none) : Cal P w K mg base 1 "_law_truth" s_l_truth ["_law_found", "_law_due"] (sp_l_truth K) := by
  obtain ⟨sts_, hst_⟩ : ∃ z_, defBody s_l_truth = z_ := ⟨_, rfl⟩
  exact cal_ZQ (V := V_l_truth) (Gs := G_l_truth) (nl := 0) hst_ Fn sc_l_truth (by decide +kernel) (by decide +kernel) hmg hb (fun _ => rfl) rfl fun _ _ _ _ _ _ _ a b F0 os D B T hm R => body_l_truth rfl hst_ B T g_isinstance g_bool a.1 a.2 b F0 os D hm R
abbrev s_l_right : Stmt := top 48
def N_l_right : List Str := ["_law_pot_here", "_law_web_here", "_law_doors_here", "_law_held", "_law_most", "_law_places", "_law_turn", "_law_times", "_law_due", "_law_found"]
def V_l_right : List Str := ["_law_pot_here", "_law_web_here", "_law_doors_here", "_law_held", "_law_most", "_law_places", "_law_turn", "_law_times", "_law_due", "_law_found"]
def G_l_right : List Str := ["_law_drawn", "_law_draw", "_law_doors", "_law_rounds", "_law_all_tables", "len", "max", "range", "_law_is_integer", "greatest_power", "_law_truth", "is_rooted", "list", "power_walk", "_law_walk_right"]
theorem sc_l_right : FnScope N_l_right ["_law_pot_here"] (defScope s_l_right) := ⟨rfl, rfl, rfl, by decide +kernel, rfl, by decide +kernel, by decide +kernel⟩
theorem kw_power_walk_0_times_web : KwOk "power_walk" s_p_power_walk ["web", "times"] ["times", "web"] 0 [1, 0] := fun _ _ _ _ _ _ us ws h1 h2 => match us, ws, h1, h2 with | [], [_, _], _, _ => rfl
theorem kw_is_rooted_0_web : KwOk "is_rooted" s_p_is_rooted ["web"] ["web"] 0 [0] := fun _ _ _ _ _ _ us ws h1 h2 => match us, ws, h1, h2 with | [], [_], _, _ => rfl
theorem kw_greatest_power_0_web : KwOk "greatest_power" s_p_greatest_power ["web"] ["web"] 0 [0] := fun _ _ _ _ _ _ us ws h1 h2 => match us, ws, h1, h2 with | [], [_], _, _ => rfl
abbrev sp_l_right (K : PySem.W.Frag) : Sp := spZ (α := (Addr × (List Int))) (β := (Bool × (List Int))) (fun a => [own a.1]) (fun a => (a.1, ol (List.map PyData.int a.2)) :: []) (fun a => m_l_right a.2) (fun a b => (dat (PyData.bool b.1))) (fun a b => (a.1, ol (List.map PyData.int b.2)) :: [])
set_option maxHeartbeats 4000000 in
theorem body_l_right {X : Cx} (hsc : X.env.scope = defScope s_l_right) {sts_ : List Stmt} (hst_ : defBody s_l_right = sts_) (B : Bd X N_l_right V_l_right G_l_right 6) (T : Bt X V_l_right) (c_l_drawn : Cal X.prog X.w X.K X.mg X.base 3 "_law_drawn" s_l_drawn ["_law_pot_here", "_law_most", "_law_top"] (sp_l_drawn X.K)) (c_l_draw : Cal X.prog X.w X.K X.mg X.base 1 "_law_draw" s_l_draw ["_law_pot_here", "_law_many"] (sp_l_draw X.K)) (c_l_doors : Cal X.prog X.w X.K X.mg X.base 1 "_law_doors" s_l_doors ["_law_web_here"] (sp_l_doors X.K)) (c_l_rounds : Cal X.prog X.w X.K X.mg X.base 1 "_law_rounds" s_l_rounds ["_law_tables_here", "_law_count"] (sp_l_rounds X.K)) (c_l_all_tables : Cal X.prog X.w X.K X.mg X.base 2 "_law_all_tables" s_l_all_tables ["_law_doors_here", "_law_letters"] (sp_l_all_tables X.K)) (g_len : X.mg "len" = none) (g_max : X.mg "max" = none) (g_range : X.mg "range" = none) (c_l_is_integer : Cal X.prog X.w X.K X.mg X.base 1 "_law_is_integer" s_l_is_integer ["_law_found", "_law_due"] (sp_l_is_integer X.K)) (c_p_greatest_power : Cal X.prog X.w X.K X.mg X.base 5 "greatest_power" s_p_greatest_power ["web"] (sp_p_greatest_power X.K)) (c_l_truth : Cal X.prog X.w X.K X.mg X.base 1 "_law_truth" s_l_truth ["_law_found", "_law_due"] (sp_l_truth X.K)) (c_p_is_rooted : Cal X.prog X.w X.K X.mg X.base 6 "is_rooted" s_p_is_rooted ["web"] (sp_p_is_rooted X.K)) (g_list : X.mg "list" = none) (c_p_power_walk : Cal X.prog X.w X.K X.mg X.base 5 "power_walk" s_p_power_walk ["web", "times"] (sp_p_power_walk X.K)) (c_l_walk_right : Cal X.prog X.w X.K X.mg X.base 3 "_law_walk_right" s_l_walk_right ["_law_doors_here", "_law_letters", "_law_found", "_law_times", "_law_due"] (sp_l_walk_right X.K)) (q_pot_here : Addr) (w_pot_here : (List Int)) (b : (Bool × (List Int))) (F0 : Hp) (os : Os) (D : Ends) (hm : m_l_right w_pot_here = some b) (R : RetZ F0 ((q_pot_here, ol (List.map PyData.int b.2)) :: os) (dat (PyData.bool b.1)) D) :
    SX X [sl (own q_pot_here), un, un, un, un, un, un, un, un, un] ((q_pot_here, ol (List.map PyData.int w_pot_here)) :: os) F0 sts_ D := by
  subst hst_
  unfold m_l_right at hm
  obtain ⟨t1, h1, hm⟩ := bnd hm
  obtain ⟨t2, h2, hm⟩ := bnd hm
  obtain ⟨t3, h3, hm⟩ := bnd hm
  refine sx_asg (i := 1) (vi := 1) (φ := (dat (PyData.tuple [(PyData.int t3.1.1), (PyData.tuple (List.map (eT PyData.int) t3.1.2))]))) B T rfl rfl (ex_call (a := (q_pot_here, t1.2, t2, 3)) (b := t3) (gi := 0) (rest := os) B rfl c_l_drawn (by decide) h3 (ax_cons (ex_v (i := 0) (j := 0) B rfl rfl rfl) (ax_cons (ex_idxL (enc := PyData.int) h2 rdl_dat (EN.ex (en_lst (ds := [(PyData.int 4), (PyData.int 4), (PyData.int 3), (PyData.int 5)]) (hl := len_ok (n := 4) rfl) (ax_cons ex_int (ax_cons ex_int (ax_cons ex_int (ax_cons ex_int ax_nil)))))) (ex_call (a := (q_pot_here, w_pot_here, 4)) (b := t1) (gi := 1) (rest := os) B rfl c_l_draw (by decide) h1 (ax_cons (ex_v (i := 0) (j := 0) B rfl rfl rfl) (ax_cons ex_int ax_nil)))) (ax_cons ex_int ax_nil)))) ?_
  obtain ⟨t4, h4, hm⟩ := bnd hm
  refine sx_asg (i := 2) (vi := 2) (φ := (dat (PyData.list (List.map (eD kI PyData.int) t4)))) B T rfl rfl (ex_call (a := t3.1) (b := t4) (gi := 2) (rest := (q_pot_here, ol (List.map PyData.int t3.2)) :: os) B rfl c_l_doors (by decide) h4 (ax_cons (ex_v (i := 1) (j := 1) B rfl rfl rfl) ax_nil)) ?_
  obtain ⟨t5, h5, hm⟩ := bnd hm
  obtain ⟨t6, h6, hm⟩ := bnd hm
  refine sx_asg (i := 3) (vi := 3) (φ := (dat (PyData.list (List.map PyData.bool t6)))) B T rfl rfl (ex_call (a := (t5, (t4.length : Int))) (b := t6) (gi := 3) (rest := (q_pot_here, ol (List.map PyData.int t3.2)) :: os) B rfl c_l_rounds (by decide) h6 (ax_cons (ex_call (a := (t4, t3.1.1)) (b := t5) (gi := 4) (rest := (q_pot_here, ol (List.map PyData.int t3.2)) :: os) B rfl c_l_all_tables (by decide) h5 (ax_cons (ex_v (i := 2) (j := 2) B rfl rfl rfl) (ax_cons (ex_ixT rdt_dat (by rfl) (ex_v (i := 1) (j := 1) B rfl rfl rfl) ex_int) ax_nil))) (ax_cons (EX.to (ex_fn (j := 5) B rfl g_len (by decide +kernel) call_len_seq (rc_lenL (ds := List.map (eD kI PyData.int) t4) rdl_dat) (ax_cons (ex_v (i := 2) (j := 2) B rfl rfl rfl) ax_nil)) (by rw [List.length_map])) ax_nil))) ?_
  obtain ⟨t7, h7, hm⟩ := bnd hm
  obtain ⟨t11, h11, hm⟩ := bnd hm
  obtain ⟨t12, h12, hm⟩ := bnd hm
  refine sx_asg (i := 4) (vi := 4) (φ := (dat (PyData.int t12))) B T rfl rfl (ex_fn (j := 6) B rfl g_max (by decide +kernel) (cr_max B.calm) (rc_maxL h12 rdl_dat) (ax_cons (EN.ex (en_lc (lc_mk1 (j := 7) (vp := fun times8 => (dat (PyData.int times8))) (c := anyOs) (enc := PyData.int) (fun (_ : Unit) (times8 : Int) => ((fun (times8 : Int) => ((idx t6 times8).bind fun t10 => if t10 = true then some (some times8) else some none)) times8).map fun y => (y, ())) (fun (_ : Unit) (tl1 : Os) => (q_pot_here, ol (List.map PyData.int t3.2)) :: tl1) () (t11) () B rfl rfl (by rw [B.hN, hsc]; decide +kernel) (by rw [hsc]; decide +kernel) (by decide) (lcG_ok h11) (ix_rng1 (gi := 7) B rfl g_range h7 (EX.to (ex_fn (j := 5) B rfl g_len (by decide +kernel) call_len_seq (rc_lenL (ds := List.map PyData.bool t6) rdl_dat) (ax_cons (ex_v (i := 3) (j := 3) B rfl rfl rfl) ax_nil)) (by rw [List.length_map]))) (fun _ _ => trivial) (fun _ _ _ => (List.Perm.swap _ _ _)) (fun _ times8 t tl1 hx hf => by (obtain ⟨y, hy, rfl⟩ := Option.map_eq_some_iff.mp hf; obtain ⟨t10, h10, hy⟩ := bnd hy; cases hc : t10 with | true => (have hy := ifT hy hc; obtain rfl := som hy; exact ⟨true, _, fun X1 hX => by (have B1 := Bd.fam (W' := ["_law_held", "_law_times"]) (G' := []) B hX (by (try rw [hsc]); decide +kernel); exact ⟨.one (TX.to (tx_val (ex_idxL (enc := PyData.bool) h10 rdl_dat (ex_v (i := 3) (j := 0) B1 rfl rfl rfl) (ex_v (i := 7) (j := 1) B1 rfl rfl rfl)) (by intro _; rfl)) hc), fun _ => ⟨_, rfl, (ex_v (i := 7) (j := 1) B1 rfl rfl rfl)⟩, fun h => Bool.noConfusion h⟩)⟩) | false => (have hy := ifF hy hc; obtain rfl := som hy; exact ⟨false, _, fun X1 hX => by (have B1 := Bd.fam (W' := ["_law_held", "_law_times"]) (G' := []) B hX (by (try rw [hsc]); decide +kernel); exact ⟨.one (TX.to (tx_val (ex_idxL (enc := PyData.bool) h10 rdl_dat (ex_v (i := 3) (j := 0) B1 rfl rfl rfl) (ex_v (i := 7) (j := 1) B1 rfl rfl rfl)) (by intro _; rfl)) hc), fun h => Bool.noConfusion h, fun _ => ⟨rfl, rfl⟩⟩)⟩)))))) ax_nil)) ?_
  obtain ⟨t13, h13, hm⟩ := bnd hm
  obtain ⟨t14, h14, hm⟩ := bnd hm
  obtain ⟨t17, h17, hm⟩ := bnd hm
  refine sx_if (WX.tx (wx_or (l := t17) (os2 := (q_pot_here, ol (List.map PyData.int t3.2)) :: os) (tx_not (tx_val (ex_call (a := (t13, t12)) (b := t14) (gi := 8) (rest := (q_pot_here, ol (List.map PyData.int t3.2)) :: os) B rfl c_l_is_integer (by decide) h14 (ax_cons (ex_call (a := t3.1) (b := t13) (gi := 9) (rest := (q_pot_here, ol (List.map PyData.int t3.2)) :: os) B rfl c_p_greatest_power (by decide) h13 (ax_cons (ex_v (i := 1) (j := 1) B rfl rfl rfl) ax_nil)) (ax_cons (ex_v (i := 4) (j := 4) B rfl rfl rfl) ax_nil))) (by intro _; rfl))) (fun hk => by (have hm := ifF h17 hk; obtain ⟨t15, h15, hm⟩ := bnd hm; obtain ⟨t16, h16, hm⟩ := bnd hm; obtain rfl := som hm; exact (wx_or1 (tx_not (tx_val (ex_call (a := (t15, (decide (t12 = 1)))) (b := t16) (gi := 10) (rest := (q_pot_here, ol (List.map PyData.int t3.2)) :: os) B rfl c_l_truth (by decide) h16 (ax_cons (ex_call (a := t3.1) (b := t15) (gi := 11) (rest := (q_pot_here, ol (List.map PyData.int t3.2)) :: os) B rfl c_p_is_rooted (by decide) h15 (ax_cons (ex_v (i := 1) (j := 1) B rfl rfl rfl) ax_nil)) (ax_cons (ex_cmp op_eq r2_eqI (nomark _) (ex_v (i := 4) (j := 4) B rfl rfl rfl) ex_int) ax_nil))) (by intro _; rfl)))))) (fun hk => by (have hm := ifT h17 hk; obtain rfl := som hm; rfl)) (or_fix (fun hk => by (have hm := ifT h17 hk; obtain rfl := som hm; rfl))))) (fun hk => ?_) (fun hk => ?_)
  · have hm := ifT hm hk
    obtain rfl := som hm
    exact sx_ret ex_bool (fun F H v e o c => R.rt F H v e o c)
  · have hm := ifF hm hk
    refine sx_fall ?_ rfl
    obtain ⟨t18, h18, hm⟩ := bnd hm
    obtain ⟨t19, h19, hm⟩ := bnd hm
    obtain ⟨t20, h20, hm⟩ := bnd hm
    refine sx_asgN (i := 5) (vi := 5) (n := ol (List.map PyData.int t20)) B T rfl rfl (en_cat (enc := PyData.int) h20 (EN.ex (en_rgL2 (gi := 12) (gj := 7) B rfl rfl g_list g_range h18 ex_int (ex_add (EX.to (ex_fn (j := 5) B rfl g_len (by decide +kernel) call_len_seq (rc_lenL (ds := List.map (eD kI PyData.int) t4) rdl_dat) (ax_cons (ex_v (i := 2) (j := 2) B rfl rfl rfl) ax_nil)) (by rw [List.length_map])) ex_int))) (EN.ex (en_lst (ds := [(PyData.int (6 + t19.1))]) (hl := len_ok (n := 1) rfl) (ax_cons (ex_add ex_int (ex_call (a := (q_pot_here, t3.2, 999999999999999999999999999999999999999999999999999999999994)) (b := t19) (gi := 1) (rest := os) B rfl c_l_draw (by decide) h19 (ax_cons (ex_v (i := 0) (j := 0) B rfl rfl rfl) (ax_cons (EX.to (d' := PyData.int 999999999999999999999999999999999999999999999999999999999994) (ex_sub (ex_pow (m := 1000000000000000000000000000000000000000000000000000000000000) (by decide +kernel) ex_int ex_int) ex_int) (by rfl)) ax_nil)))) ax_nil)))) (fun q_places20 => ?_)
    obtain ⟨t21, h21, hm⟩ := bnd hm
    obtain ⟨f24o, h35, hm⟩ := bnd hm
    refine sx_forR (c := anyOs) _ (fun (s22 : ((List Int) × (List Int))) (_ : Unit) => [sl (own q_pot_here), sl (dat (PyData.tuple [(PyData.int t3.1.1), (PyData.tuple (List.map (eT PyData.int) t3.1.2))])), sl (dat (PyData.list (List.map (eD kI PyData.int) t4))), sl (dat (PyData.list (List.map PyData.bool t6))), sl (dat (PyData.int t12)), sl (own q_places20), un, un, un, un]) (fun (s22 : ((List Int) × (List Int))) (_ : Unit) => (q_places20, ol (List.map PyData.int s22.1)) :: (q_pot_here, ol (List.map PyData.int s22.2)) :: os) (fun (r : (Bool × (List Int))) v H => ∃ F, Same F0 F ∧ Ow F ((q_pot_here, ol (List.map PyData.int r.2)) :: os) H ∧ Cl (dat (PyData.bool r.1)) F v) B T (fun turn23 => gx_name (i := 6) (vi := 6) (φ := (dat (PyData.int turn23))) B T rfl rfl) (t20, t19.2) () f24o h35 (ix_rng1 (gi := 7) B rfl g_range h21 (EX.to (ex_fn (j := 5) B rfl g_len (by decide +kernel) call_len_seq (rc_lenL (ds := List.map PyData.int t20) (rdl_own 0 rfl)) (ax_cons (ex_v (i := 5) (j := 5) B rfl rfl rfl) ax_nil)) (by rw [List.length_map]))) ⟨.inl rfl, .inl rfl, .inl rfl, .inl rfl, .inl rfl, .inl rfl, .inl rfl, .inl rfl, .inl rfl, .inl rfl, trivial⟩ (fun _ _ => trivial) (fun F26 e25 s22 _ turn23 z42 hx hm2 => ?_) (fun f24 _ ho => ?_) (fun r41 v H ho hr => ?_)
    · clear hm h35
      have hm := hm2
      obtain ⟨t27, h27, hm⟩ := bnd hm
      obtain ⟨t28, h28, hm⟩ := bnd hm
      refine sx_asg (i := 7) (vi := 7) (φ := (dat (PyData.int t28.1))) B T rfl rfl (ex_popI2 (enc := PyData.int) (m := 0) (j := 1) (xs := s22.1) (xs0 := s22.1) h28 (ex_v (i := 5) (j := 5) B rfl rfl rfl) rfl (EX.pre (ex_call (a := (q_pot_here, s22.2, (s22.1.length : Int))) (b := t27) (gi := 1) (rest := (q_places20, ol (List.map PyData.int s22.1)) :: os) B rfl c_l_draw (by decide) h27 (ax_cons (ex_v (i := 0) (j := 0) B rfl rfl rfl) (ax_cons (EX.to (ex_fn (j := 5) B rfl g_len (by decide +kernel) call_len_seq (rc_lenL (ds := List.map PyData.int s22.1) (rdl_own 1 rfl)) (ax_cons (ex_v (i := 5) (j := 5) B rfl rfl rfl) ax_nil)) (by rw [List.length_map])) ax_nil))) (perm_at (k := 1) rfl)) rfl) ?_
      obtain ⟨t30, h30, hm⟩ := bnd hm
      refine sx_asg (i := 8) (vi := 8) (φ := (dat (PyData.bool t30))) B T rfl rfl (ex_and (l := t30) (os2 := (q_pot_here, ol (List.map PyData.int t27.2)) :: (q_places20, ol (List.map PyData.int t28.2)) :: os) (ex_cmp op_lt r2_lt (nomark _) (ex_v (i := 7) (j := 7) B rfl rfl rfl) (EX.to (ex_fn (j := 5) B rfl g_len (by decide +kernel) call_len_seq (rc_lenL (ds := List.map PyData.bool t6) rdl_dat) (ax_cons (ex_v (i := 3) (j := 3) B rfl rfl rfl) ax_nil)) (by rw [List.length_map]))) (fun hk => by (have hm := ifT h30 hk; obtain ⟨t29, h29, hm⟩ := bnd hm; obtain rfl := som hm; exact (ex_one (ex_idxL (enc := PyData.bool) h29 rdl_dat (ex_v (i := 3) (j := 3) B rfl rfl rfl) (ex_v (i := 7) (j := 7) B rfl rfl rfl))))) (fun hk => by (have hm := ifF h30 hk; obtain rfl := som hm; rfl)) (and_fix (fun hk => by (have hm := ifF h30 hk; obtain rfl := som hm; rfl)))) ?_
      obtain ⟨t31, h31, hm⟩ := bnd hm
      refine sx_asg (i := 9) (vi := 9) (φ := (dat ((eO (eT PyData.int)) t31))) B T rfl rfl (ex_call (a := (t3.1, t28.1)) (b := t31) (gi := 13) (rest := (q_pot_here, ol (List.map PyData.int t27.2)) :: (q_places20, ol (List.map PyData.int t28.2)) :: os) B rfl c_p_power_walk (by decide) h31 (ax_cons (ex_v (i := 1) (j := 1) B rfl rfl rfl) (ax_cons (ex_v (i := 7) (j := 7) B rfl rfl rfl) ax_nil))) ?_
      obtain ⟨t32, h32, hm⟩ := bnd hm
      refine sx_if (tx_not (tx_val (ex_call (a := (t4, t3.1.1, t31, t28.1, t30)) (b := t32) (gi := 14) (rest := (q_pot_here, ol (List.map PyData.int t27.2)) :: (q_places20, ol (List.map PyData.int t28.2)) :: os) B rfl c_l_walk_right (by decide) h32 (ax_cons (ex_v (i := 2) (j := 2) B rfl rfl rfl) (ax_cons (ex_ixT rdt_dat (by rfl) (ex_v (i := 1) (j := 1) B rfl rfl rfl) ex_int) (ax_cons (ex_v (i := 9) (j := 9) B rfl rfl rfl) (ax_cons (ex_v (i := 7) (j := 7) B rfl rfl rfl) (ax_cons (ex_v (i := 8) (j := 8) B rfl rfl rfl) ax_nil)))))) (by intro _; rfl))) (fun hk => ?_) (fun hk => ?_)
      · have hm := ifT hm hk
        exact sx_ret ex_bool (fun F H v e o c => ⟨_, (som hm).symm, F, (e25.trans e), ((o.perm (perm_at (k := 1) rfl)).drop), c⟩)
      · have hm := ifF hm hk
        refine sx_fall ?_ rfl
        obtain ⟨t33, h33, hm⟩ := bnd hm
        obtain ⟨t34, h34, hm⟩ := bnd hm
        refine sx_if (tx_not (tx_val (ex_call (a := (t4, t3.1.1, t33, t28.1, t30)) (b := t34) (gi := 14) (rest := (q_pot_here, ol (List.map PyData.int t27.2)) :: (q_places20, ol (List.map PyData.int t28.2)) :: os) B rfl c_l_walk_right (by decide) h34 (ax_cons (ex_v (i := 2) (j := 2) B rfl rfl rfl) (ax_cons (ex_ixT rdt_dat (by rfl) (ex_v (i := 1) (j := 1) B rfl rfl rfl) ex_int) (ax_cons (ex_callk0 (a := (t3.1, t28.1)) (b := t33) (gi := 13) (rest := (q_pot_here, ol (List.map PyData.int t27.2)) :: (q_places20, ol (List.map PyData.int t28.2)) :: os) B rfl c_p_power_walk (by decide) kw_power_walk_0_times_web (by decide) h33 (kx_cons (ex_v (i := 7) (j := 7) B rfl rfl rfl) (kx_cons (ex_v (i := 1) (j := 1) B rfl rfl rfl) kx_nil)) rfl) (ax_cons (ex_v (i := 7) (j := 7) B rfl rfl rfl) (ax_cons (ex_v (i := 8) (j := 8) B rfl rfl rfl) ax_nil)))))) (by intro _; rfl))) (fun hk => ?_) (fun hk => ?_)
        · have hm := ifT hm hk
          exact sx_ret ex_bool (fun F H v e o c => ⟨_, (som hm).symm, F, (e25.trans e), ((o.perm (perm_at (k := 1) rfl)).drop), c⟩)
        · have hm := ifF hm hk
          refine sx_fall ?_ rfl
          exact sx_nil fun σ H a => ⟨_, (), (som hm).symm, ((a.perm (perm_at (k := 1) rfl)).weak ⟨.inl rfl, .inl rfl, .inl rfl, .inl rfl, .inl rfl, .inl rfl, .inr rfl, .inr rfl, .inr rfl, .inr rfl, trivial⟩)⟩
    · cases ho
      have hm := elimR hm
      obtain ⟨t36, h36, hm⟩ := bnd hm
      obtain ⟨t37, h37, hm⟩ := bnd hm
      obtain ⟨t40, h40, hm⟩ := bnd hm
      obtain rfl := som hm
      exact sx_ret (ex_and (l := t40) (os2 := (q_places20, ol (List.map PyData.int f24.1)) :: (q_pot_here, ol (List.map PyData.int f24.2)) :: os) (ex_call (a := (t36, (decide (t12 = 1)))) (b := t37) (gi := 10) (rest := (q_places20, ol (List.map PyData.int f24.1)) :: (q_pot_here, ol (List.map PyData.int f24.2)) :: os) B rfl c_l_truth (by decide) h37 (ax_cons (ex_callk0 (a := t3.1) (b := t36) (gi := 11) (rest := (q_places20, ol (List.map PyData.int f24.1)) :: (q_pot_here, ol (List.map PyData.int f24.2)) :: os) B rfl c_p_is_rooted (by decide) kw_is_rooted_0_web (by decide) h36 (kx_cons (ex_v (i := 1) (j := 1) B rfl rfl rfl) kx_nil) rfl) (ax_cons (ex_cmp op_eq r2_eqI (nomark _) (ex_v (i := 4) (j := 4) B rfl rfl rfl) ex_int) ax_nil))) (fun hk => by (have hm := ifT h40 hk; obtain ⟨t38, h38, hm⟩ := bnd hm; obtain ⟨t39, h39, hm⟩ := bnd hm; obtain rfl := som hm; exact (ex_one (ex_call (a := (t38, t12)) (b := t39) (gi := 8) (rest := (q_places20, ol (List.map PyData.int f24.1)) :: (q_pot_here, ol (List.map PyData.int f24.2)) :: os) B rfl c_l_is_integer (by decide) h39 (ax_cons (ex_callk0 (a := t3.1) (b := t38) (gi := 9) (rest := (q_places20, ol (List.map PyData.int f24.1)) :: (q_pot_here, ol (List.map PyData.int f24.2)) :: os) B rfl c_p_greatest_power (by decide) kw_greatest_power_0_web (by decide) h38 (kx_cons (ex_v (i := 1) (j := 1) B rfl rfl rfl) kx_nil) rfl) (ax_cons (ex_v (i := 4) (j := 4) B rfl rfl rfl) ax_nil)))))) (fun hk => by (have hm := ifF h40 hk; obtain rfl := som hm; rfl)) (and_fix (fun hk => by (have hm := ifF h40 hk; obtain rfl := som hm; rfl)))) (fun F H v e o c => R.rt F H v e (o.drop) c)
    · cases ho
      have hm := elimL hm
      obtain rfl := som hm
      obtain ⟨F, e, o, c⟩ := hr
      exact R.rt F H v e o c
theorem cal_l_right {P : Program} {w : World} {K : PySem.W.Frag} {mg : Str → Option Value} {base : Heap} {f : Addr} {fd : FuncData} (Fn : Fun K "_law_right" "_law_right" s_l_right f fd) (hmg : mg "_law_right" = some (.ref f)) (hb : Binds K fd ["_law_pot_here"] []) (c_l_drawn : Cal P w K mg base 3 "_law_drawn" s_l_drawn ["_law_pot_here", "_law_most", "_law_top"] (sp_l_drawn K)) (c_l_draw : Cal P w K mg base 1 "_law_draw" s_l_draw ["_law_pot_here", "_law_many"] (sp_l_draw K)) (c_l_doors : Cal P w K mg base 1 "_law_doors" s_l_doors ["_law_web_here"] (sp_l_doors K)) (c_l_rounds : Cal P w K mg base 1 "_law_rounds" s_l_rounds ["_law_tables_here", "_law_count"] (sp_l_rounds K)) (c_l_all_tables : Cal P w K mg base 2 "_law_all_tables" s_l_all_tables ["_law_doors_here", "_law_letters"] (sp_l_all_tables K)) (g_len : mg "len" = none) (g_max : mg "max" = none) (g_range : mg "range" = none) (c_l_is_integer : Cal P w K mg base 1 "_law_is_integer" s_l_is_integer ["_law_found", "_law_due"] (sp_l_is_integer K)) (c_p_greatest_power : Cal P w K mg base 5 "greatest_power" s_p_greatest_power ["web"] (sp_p_greatest_power K)) (c_l_truth : Cal P w K mg base 1 "_law_truth" s_l_truth ["_law_found", "_law_due"] (sp_l_truth K)) (c_p_is_rooted : Cal P w K mg base 6 "is_rooted" s_p_is_rooted ["web"] (sp_p_is_rooted K)) (g_list : mg "list" = none) (c_p_power_walk : Cal P w K mg base 5 "power_walk" s_p_power_walk ["web", "times"] (sp_p_power_walk K)) (c_l_walk_right : Cal P w K mg base 3 "_law_walk_right" s_l_walk_right ["_law_doors_here", "_law_letters", "_law_found", "_law_times", "_law_due"] (sp_l_walk_right K)) : Cal P w K mg base 7 "_law_right" s_l_right ["_law_pot_here"] (sp_l_right K) := by
  obtain ⟨sts_, hst_⟩ : ∃ z_, defBody s_l_right = z_ := ⟨_, rfl⟩
  exact cal_ZQ (V := V_l_right) (Gs := G_l_right) (nl := 9) hst_ Fn sc_l_right (by decide +kernel) (by decide +kernel) hmg hb (fun _ => rfl) rfl fun _ _ _ _ _ _ _ a b F0 os D B T hm R => body_l_right rfl hst_ B T c_l_drawn c_l_draw c_l_doors c_l_rounds c_l_all_tables g_len g_max g_range c_l_is_integer c_p_greatest_power c_l_truth c_p_is_rooted g_list c_p_power_walk c_l_walk_right a.1 a.2 b F0 os D hm R
abbrev s_l_law : Stmt := top 49
def N_l_law : List Str := ["_law_script", "_law_k"]
def V_l_law : List Str := ["_law_script", "_law_k"]
def G_l_law : List Str := ["range", "max", "min", "len", "_law_right", "_law_pot"]
theorem sc_l_law : FnScope N_l_law ["_law_script"] (defScope s_l_law) := ⟨rfl, rfl, rfl, by decide +kernel, rfl, by decide +kernel, by decide +kernel⟩
abbrev sp_l_law (K : PySem.W.Frag) : Sp := spZ (α := (List Int)) (β := Bool) (fun a => [(scr K a)]) (fun a => []) (fun a => m_l_law a) (fun a b => (dat (PyData.bool b))) (fun a b => [])
set_option maxHeartbeats 4000000 in
theorem body_l_law {X : Cx} (hsc : X.env.scope = defScope s_l_law) {sts_ : List Stmt} (hst_ : defBody s_l_law = sts_) (B : Bd X N_l_law V_l_law G_l_law 7) (T : Bt X V_l_law) (g_range : X.mg "range" = none) (g_max : X.mg "max" = none) (g_min : X.mg "min" = none) (g_len : X.mg "len" = none) (c_l_right : Cal X.prog X.w X.K X.mg X.base 7 "_law_right" s_l_right ["_law_pot_here"] (sp_l_right X.K)) (c_l_pot : Cal X.prog X.w X.K X.mg X.base 1 "_law_pot" s_l_pot ["_law_script", "_law_k"] (sp_l_pot X.K)) (script : (List Int)) (b : Bool) (F0 : Hp) (os : Os) (D : Ends) (hm : m_l_law script = some b) (R : RetZ F0 (os) (dat (PyData.bool b)) D) :
    SX X [sl (scr X.K script), un] (os) F0 sts_ D := by
  subst hst_
  unfold m_l_law at hm
  obtain ⟨t1, h1, hm⟩ := bnd hm
  obtain ⟨f4o, h9, hm⟩ := bnd hm
  refine sx_forR (c := anyOs) _ (fun (s2 : Unit) (_ : Unit) => [sl (scr X.K script), un]) (fun (s2 : Unit) (_ : Unit) => os) (fun (r : Bool) v H => ∃ F, Same F0 F ∧ Ow F (os) H ∧ Cl (dat (PyData.bool r)) F v) B T (fun k_3 => gx_name (i := 1) (vi := 1) (φ := (dat (PyData.int k_3))) B T rfl rfl) () () f4o h9 (ix_rng1 (gi := 0) B rfl g_range h1 (ex_fn (j := 1) B rfl g_max (by decide +kernel) (call_max2 B.calm) rc_max (ax_cons ex_int (ax_cons (ex_fn (j := 2) B rfl g_min (by decide +kernel) (call_min2 B.calm) rc_min (ax_cons ex_int (ax_cons (EX.to (ex_fn (j := 3) B rfl g_len (by decide +kernel) call_len_seq (rc_lenL (ds := List.map PyData.int script) rdl_scr) (ax_cons (ex_v (i := 0) (j := 0) B rfl rfl rfl) ax_nil)) (by rw [List.length_map])) ax_nil))) ax_nil)))) ⟨.inl rfl, .inl rfl, trivial⟩ (fun _ _ => trivial) (fun F6 e5 s2 _ k_3 z11 hx hm2 => ?_) (fun f4 _ ho => ?_) (fun r10 v H ho hr => ?_)
  · clear hm h9
    have hm := hm2
    obtain ⟨t7, h7, hm⟩ := bnd hm
    obtain ⟨t8, h8, hm⟩ := bnd hm
    refine sx_if (tx_not (tx_val (ex_calln (a := fun q => (q, t7)) (b := t8) (gi := 4) (rest := os) B rfl c_l_right (by decide) (fun _ => h8) (en_call (a := (script, k_3)) (b := t7) (gi := 5) (rest := os) B rfl c_l_pot (by decide) h7 (ax_cons (ex_v (i := 0) (j := 0) B rfl rfl rfl) (ax_cons (ex_v (i := 1) (j := 1) B rfl rfl rfl) ax_nil))) (fun _ => rfl) (fun _ => rfl) (fun _ => rfl)) (by intro _; rfl))) (fun hk => ?_) (fun hk => ?_)
    · have hm := ifT hm hk
      exact sx_ret ex_bool (fun F H v e o c => ⟨_, (som hm).symm, F, (e5.trans e), o, c⟩)
    · have hm := ifF hm hk
      refine sx_fall ?_ rfl
      exact sx_nil fun σ H a => ⟨_, (), (som hm).symm, (a.weak ⟨.inl rfl, .inr rfl, trivial⟩)⟩
  · cases ho
    have hm := elimR hm
    obtain rfl := som hm
    exact sx_ret ex_bool (fun F H v e o c => R.rt F H v e o c)
  · cases ho
    have hm := elimL hm
    obtain rfl := som hm
    obtain ⟨F, e, o, c⟩ := hr
    exact R.rt F H v e o c
theorem cal_l_law {P : Program} {w : World} {K : PySem.W.Frag} {mg : Str → Option Value} {base : Heap} {f : Addr} {fd : FuncData} (Fn : Fun K "law" "law" s_l_law f fd) (hmg : mg "law" = some (.ref f)) (hb : Binds K fd ["_law_script"] []) (g_range : mg "range" = none) (g_max : mg "max" = none) (g_min : mg "min" = none) (g_len : mg "len" = none) (c_l_right : Cal P w K mg base 7 "_law_right" s_l_right ["_law_pot_here"] (sp_l_right K)) (c_l_pot : Cal P w K mg base 1 "_law_pot" s_l_pot ["_law_script", "_law_k"] (sp_l_pot K)) : Cal P w K mg base 8 "law" s_l_law ["_law_script"] (sp_l_law K) := by
  obtain ⟨sts_, hst_⟩ : ∃ z_, defBody s_l_law = z_ := ⟨_, rfl⟩
  exact cal_ZQ (V := V_l_law) (Gs := G_l_law) (nl := 1) hst_ Fn sc_l_law (by decide +kernel) (by decide +kernel) hmg hb (fun _ => rfl) rfl fun _ _ _ _ _ _ _ a b F0 os D B T hm R => body_l_law rfl hst_ B T g_range g_max g_min g_len c_l_right c_l_pot a b F0 os D hm R
end L25
namespace Z
open PySem PySem.Spec L2
theorem log2_small {n k : Nat} (h : n < 2 ^ k) (hk : 0 < k) : n.log2 < k := by
  by_cases h0 : n = 0
  · subst h0
    simpa using hk
  · exact (Nat.log2_lt h0).mpr h
theorem log2_int {i : Int} {k : Nat} (h0 : 0 ≤ i) (h : i < 2 ^ k) (hk : 0 < k) : i.natAbs.log2 < k := by
  refine log2_small ?_ hk
  have e : ((2 ^ k : Nat) : Int) = (2 : Int) ^ k := by norm_cast
  omega
theorem idx_of {α : Type} {xs : List α} {i : Int} {v : α} (h0 : 0 ≤ i) (h : xs[i.toNat]? = some v) : idx xs i = some v := by
  have hl := (List.getElem?_eq_some_iff.mp h).1
  unfold idx atI ixN
  rw [if_pos h0, if_pos (by omega)]
  exact h
theorem idx_last {α : Type} {xs : List α} {v : α} (h : xs[xs.length - 1]? = some v) : idx xs (-1) = some v := by
  have hl := (List.getElem?_eq_some_iff.mp h).1
  unfold idx atI ixN
  rw [if_neg (by omega), if_pos (by omega)]
  have e : ((-1 : Int) + (xs.length : Int)).toNat = xs.length - 1 := by omega
  show xs[((-1 : Int) + (xs.length : Int)).toNat]? = _
  rw [e]
  exact h
theorem rngO_ok {a b : Int} (h : -(2 ^ 62) ≤ a ∧ a < 2 ^ 62 ∧ -(2 ^ 62) ≤ b ∧ b < 2 ^ 62) : rngO a b = some (range' a b) := if_pos h
theorem mem_rng {a b x : Int} (h : x ∈ range' a b) : a ≤ x ∧ x < b := by
  unfold range' at h
  obtain ⟨i, hi, rfl⟩ := List.mem_map.mp h
  have := List.mem_range.mp hi
  omega
theorem lpR_go {α R S : Type} {f : S → α → Option (Step R S)} (P : S → Prop) : ∀ {xs : List α}, (∀ x ∈ xs, ∀ s, P s → ∃ s', f s x = some (.go s') ∧ P s') → ∀ {s0 : S}, P s0 → ∃ s', lpR f xs s0 = some (.inr s') ∧ P s'
  | [], _, s0, h0 => ⟨s0, rfl, h0⟩
  | x :: xs, h, s0, h0 => by
    obtain ⟨s1, e, h1⟩ := h x List.mem_cons_self s0 h0
    obtain ⟨s2, e2, h2⟩ := lpR_go P (fun y hy => h y (List.mem_cons_of_mem _ hy)) h1
    refine ⟨s2, ?_, h2⟩
    unfold lpR
    rw [e]
    exact e2
theorem lpR_goN {α R S : Type} {f : S → α → Option (Step R S)} : ∀ {xs : List α} (P : Nat → S → Prop), (∀ (i : Nat) (x : α) (s : S), xs[i]? = some x → P i s → ∃ s', f s x = some (.go s') ∧ P (i + 1) s') → ∀ {s0 : S}, P 0 s0 → ∃ s', lpR f xs s0 = some (.inr s') ∧ P xs.length s'
  | [], P, _, s0, h0 => ⟨s0, rfl, h0⟩
  | x :: xs, P, h, s0, h0 => by
    obtain ⟨s1, e, h1⟩ := h 0 x s0 rfl h0
    obtain ⟨s2, e2, h2⟩ := lpR_goN (xs := xs) (fun i => P (i + 1)) (fun i y s hy hs => h (i + 1) y s (by simpa using hy) hs) h1
    refine ⟨s2, ?_, h2⟩
    unfold lpR
    rw [e]
    exact e2
theorem lp_goN {α S : Type} {f : S → α → Option S} : ∀ {xs : List α} (P : Nat → S → Prop), (∀ (i : Nat) (x : α) (s : S), xs[i]? = some x → P i s → ∃ s', f s x = some s' ∧ P (i + 1) s') → ∀ {s0 : S}, P 0 s0 → ∃ s', lp f xs s0 = some s' ∧ P xs.length s'
  | [], P, _, s0, h0 => ⟨s0, rfl, h0⟩
  | x :: xs, P, h, s0, h0 => by
    obtain ⟨s1, e, h1⟩ := h 0 x s0 rfl h0
    obtain ⟨s2, e2, h2⟩ := lp_goN (xs := xs) (fun i => P (i + 1)) (fun i y s hy hs => h (i + 1) y s (by simpa using hy) hs) h1
    refine ⟨s2, ?_, h2⟩
    unfold lp
    rw [e]
    exact e2
/-- three cells, of which so many draws were made at most -/
def SpOk (n : Nat) (w : List Int) : Prop := ∃ a b c : Int, w = [a, b, c] ∧ 0 ≤ a ∧ 0 ≤ b ∧ b < 2 ^ 101 ∧ 0 ≤ c ∧ c ≤ n
theorem SpOk.mono {n m : Nat} {w : List Int} (h : SpOk n w) (hm : n ≤ m) : SpOk m w := by
  obtain ⟨a, b, c, e, h1, h2, h3, h4, h5⟩ := h
  exact ⟨a, b, c, e, h1, h2, h3, h4, by omega⟩
end Z
namespace Z
open PySem PySem.Spec L2
/-- a step put on a pile -/
def psh : List Int → Int → List Int
  | [], x => [x]
  | y :: t, x => if y = -x then t else x :: y :: t
/-- no two opposite steps beside one another -/
def Gd : List Int → Prop
  | x :: y :: t => y ≠ -x ∧ Gd (y :: t)
  | _ => True
theorem gd_nil : Gd [] := trivial
def fl (s w : List Int) : List Int := w.foldl psh s
def red (w : List Int) : List Int := (fl [] w).reverse
def iv (w : List Int) : List Int := w.reverse.map fun x => -x
theorem gd_tail {x : Int} : ∀ {t : List Int}, Gd (x :: t) → Gd t
  | [], _ => trivial
  | _ :: _, h => h.2
theorem psh_gd {s : List Int} {x : Int} (h : Gd s) : Gd (psh s x) := by
  cases s with
  | nil => trivial
  | cons y t =>
    by_cases hy : y = -x
    · rw [show psh (y :: t) x = t from if_pos hy]
      exact gd_tail h
    · rw [show psh (y :: t) x = x :: y :: t from if_neg hy]
      exact ⟨hy, h⟩
theorem fl_gd : ∀ {w s : List Int}, Gd s → Gd (fl s w)
  | [], _, h => h
  | _ :: w, _, h => fl_gd (w := w) (psh_gd h)
theorem gd_suf : ∀ {a b : List Int}, Gd (a ++ b) → Gd b
  | [], _, h => h
  | _ :: a, _, h => gd_suf (a := a) (gd_tail h)
theorem gd_join {x y : Int} {t : List Int} (hxy : x ≠ -y) (h2 : Gd (x :: t)) : ∀ {a : List Int}, Gd (a ++ [y]) → Gd (a ++ y :: x :: t)
  | [], _ => ⟨hxy, h2⟩
  | [_], h => ⟨h.1, hxy, h2⟩
  | _ :: b :: a, h => ⟨h.1, gd_join (a := b :: a) hxy h2 h.2⟩
theorem gd_rev : ∀ {w : List Int}, Gd w → Gd w.reverse
  | [], _ => trivial
  | [_], _ => trivial
  | x :: y :: t, h => by
    have ih := gd_rev (w := y :: t) h.2
    rw [List.reverse_cons] at ih
    rw [List.reverse_cons, List.reverse_cons, List.append_assoc]
    have := h.1
    exact gd_join (t := []) (by omega) trivial ih
theorem fl_of_gd : ∀ {w s : List Int}, Gd (w.reverse ++ s) → fl s w = w.reverse ++ s
  | [], _, _ => rfl
  | x :: w, s, h => by
    rw [List.reverse_cons, List.append_assoc] at h
    have e : psh s x = x :: s := by
      have hs := gd_suf h
      cases s with
      | nil => rfl
      | cons y t => exact if_neg hs.1
    show fl (psh s x) w = _
    have h' : Gd (w.reverse ++ (x :: s)) := h
    rw [e, fl_of_gd (w := w) h', List.reverse_cons, List.append_assoc]
    rfl
theorem red_gd (w : List Int) : Gd (red w) := gd_rev (fl_gd gd_nil)
theorem red_of {w : List Int} (h : Gd w) : red w = w := by
  unfold red
  rw [fl_of_gd (s := []) (by rw [List.append_nil]; exact gd_rev h), List.append_nil, List.reverse_reverse]
theorem iv_cons (x : Int) (w : List Int) : iv (x :: w) = iv w ++ [-x] := by
  unfold iv
  rw [List.reverse_cons, List.map_append]
  rfl
theorem iv_iv (w : List Int) : iv (iv w) = w := by
  unfold iv
  rw [← List.map_reverse, List.reverse_reverse, List.map_map]
  have : ((fun x : Int => -x) ∘ fun x : Int => -x) = id := by
    funext x
    show -(-x) = x
    omega
  rw [this, List.map_id]
theorem psh_mem {P : Int → Prop} {s : List Int} {x : Int} (h : ∀ y ∈ s, P y) (hx : P x) : ∀ y ∈ psh s x, P y := by
  cases s with
  | nil =>
    intro y hy
    have : y = x := by simpa [psh] using hy
    exact this ▸ hx
  | cons z t =>
    by_cases hz : z = -x
    · rw [show psh (z :: t) x = t from if_pos hz]
      exact fun y hy => h y (List.mem_cons_of_mem _ hy)
    · rw [show psh (z :: t) x = x :: z :: t from if_neg hz]
      intro y hy
      rcases List.mem_cons.mp hy with rfl | hy
      · exact hx
      · exact h y hy
theorem fl_mem {P : Int → Prop} : ∀ {w s : List Int}, (∀ y ∈ s, P y) → (∀ y ∈ w, P y) → ∀ y ∈ fl s w, P y
  | [], _, h, _ => h
  | x :: w, _, h, h2 => fl_mem (w := w) (psh_mem h (h2 x List.mem_cons_self)) fun y hy => h2 y (List.mem_cons_of_mem _ hy)
theorem red_mem {P : Int → Prop} {w : List Int} (h : ∀ y ∈ w, P y) : ∀ y ∈ red w, P y := fun y hy =>
  fl_mem (s := []) (fun _ z => nomatch z) h y (List.mem_reverse.mp hy)
theorem psh_len (s : List Int) (x : Int) : (psh s x).length ≤ s.length + 1 := by
  cases s with
  | nil => exact Nat.le_refl _
  | cons y t =>
    by_cases hy : y = -x
    · rw [show psh (y :: t) x = t from if_pos hy, List.length_cons]
      omega
    · rw [show psh (y :: t) x = x :: y :: t from if_neg hy, List.length_cons, List.length_cons]
      exact Nat.le_refl _
theorem fl_len : ∀ (w s : List Int), (fl s w).length ≤ s.length + w.length
  | [], s => Nat.le_refl _
  | x :: w, s => by
    have h1 := fl_len w (psh s x)
    have h2 := psh_len s x
    show (fl (psh s x) w).length ≤ _
    rw [List.length_cons]
    omega
theorem red_len (w : List Int) : (red w).length ≤ w.length := by
  have := fl_len w []
  unfold red
  rw [List.length_reverse]
  simpa using this
theorem iv_len (w : List Int) : (iv w).length = w.length := by
  unfold iv
  rw [List.length_map, List.length_reverse]
theorem cut_to {α : Type} (xs : List α) {i : Int} (h : 0 ≤ i) : cut xs none (some i) = xs.take i.toNat := by
  obtain ⟨n, rfl⟩ := Int.eq_ofNat_of_zero_le h
  unfold cut
  show (xs.drop 0).take (HT.sIx xs.length xs.length (some (n : Int)) - 0) = _
  rw [HT.sIx_nat, Nat.sub_zero, List.drop_zero, Int.toNat_natCast]
  by_cases hn : n ≤ xs.length
  · rw [Nat.min_eq_left hn]
  · rw [Nat.min_eq_right (by omega), List.take_length, List.take_of_length_le (by omega)]
theorem cut_from {α : Type} (xs : List α) {i : Int} (h : 0 ≤ i) : cut xs (some i) none = xs.drop i.toNat := by
  obtain ⟨n, rfl⟩ := Int.eq_ofNat_of_zero_le h
  unfold cut
  show (xs.drop (HT.sIx xs.length 0 (some (n : Int)))).take (xs.length - HT.sIx xs.length 0 (some (n : Int))) = _
  rw [HT.sIx_nat, Int.toNat_natCast]
  by_cases hn : n ≤ xs.length
  · rw [Nat.min_eq_left hn, List.take_of_length_le (by rw [List.length_drop]; omega)]
  · rw [Nat.min_eq_right (by omega), List.drop_length, List.take_nil, List.drop_of_length_le (by omega)]
def straightM (walk : List Int) : Option (List Int) :=
  ((lp (fun (s1 : (List Int)) (step2 : Int) => ((if (decide (0 < (s1.length : Int))) = true then ((idx s1 (-1)).bind fun t6 => some (decide (t6 = (-step2)))) else some false).bind fun t7 => ((if t7 = true then ((popO s1).bind fun t8 => some t8.2) else ((appO s1 step2).bind fun t9 => some t9) : Option (List Int)).bind fun s10 => some s10))) walk ([])).bind fun f3 => some f3)
theorem last_rev {α : Type} (y : α) (t : List α) : idx (y :: t).reverse (-1) = some y := by
  refine idx_last ?_
  rw [List.length_reverse, List.reverse_cons, List.length_cons, Nat.add_sub_cancel, List.getElem?_append_right (by rw [List.length_reverse]; exact Nat.le_refl _), List.length_reverse, Nat.sub_self]
  rfl
theorem pop_rev {α : Type} (y : α) (t : List α) : popO (y :: t).reverse = some (y, t.reverse) := by
  unfold popO
  rw [List.reverse_cons, List.getLast?_append]
  simp
theorem app_ok {α : Type} {s : List α} {x : α} (h : s.length < sizeLine) : appO s x = some (s ++ [x]) := if_pos h
theorem straight_lp : ∀ (w t : List Int), t.length + w.length ≤ sizeLine → lp (fun (s1 : (List Int)) (step2 : Int) => ((if (decide (0 < (s1.length : Int))) = true then ((idx s1 (-1)).bind fun t6 => some (decide (t6 = (-step2)))) else some false).bind fun t7 => ((if t7 = true then ((popO s1).bind fun t8 => some t8.2) else ((appO s1 step2).bind fun t9 => some t9) : Option (List Int)).bind fun s10 => some s10))) w t.reverse = some (fl t w).reverse
  | [], _, _ => rfl
  | x :: w, t, h => by
    rw [List.length_cons] at h
    have h2 := psh_len t x
    have ih := straight_lp w (psh t x) (by omega)
    unfold lp
    refine Eq.trans (congrArg (fun z => Option.bind z _) (?_ : _ = some (psh t x).reverse)) ih
    cases t with
    | nil =>
      have : appO ([] : List Int) x = some [x] := app_ok (by decide)
      simp [this, psh]
    | cons y t =>
      have hpos : decide (0 < ((y :: t).reverse.length : Int)) = true := by
        rw [List.length_reverse, List.length_cons]
        exact decide_eq_true (by omega)
      rw [hpos, if_pos rfl, last_rev]
      by_cases hy : y = -x
      · have e : psh (y :: t) x = t := if_pos hy
        simp only [Option.bind_some, hy, decide_true, if_true]
        rw [← hy, pop_rev, e]
        rfl
      · have e : psh (y :: t) x = x :: y :: t := if_neg hy
        simp only [Option.bind_some, hy, decide_false, Bool.false_eq_true, if_false]
        rw [app_ok (by rw [List.length_reverse]; omega), e]
        simp
theorem straight_ok {w : List Int} (h : w.length ≤ sizeLine) : straightM w = some (red w) := by
  unfold straightM
  rw [show ([] : List Int) = ([] : List Int).reverse from rfl, straight_lp w [] (by simpa using h)]
  rfl
theorem lcT_some {α β : Type} (f : α → β) {xs : List α} (h : xs.length < sizeLine) : lcT f xs = some (xs.map f) := if_pos h
theorem mapO_some {α β : Type} {f : α → Option β} {g : α → β} : ∀ {xs : List α}, (∀ x ∈ xs, f x = some (g x)) → mapO f xs = some (xs.map g)
  | [], _ => rfl
  | x :: xs, h => by
    unfold mapO
    rw [h x List.mem_cons_self, mapO_some (xs := xs) fun y hy => h y (List.mem_cons_of_mem _ hy)]
    rfl
theorem lcO_some {α β : Type} {f : α → Option β} (g : α → β) {xs : List α} (hl : xs.length < sizeLine) (h : ∀ x ∈ xs, f x = some (g x)) : lcO f xs = some (xs.map g) := by
  unfold lcO
  rw [if_pos hl, mapO_some h]
theorem cat_ok {α : Type} {xs ys : List α} (h : xs.length + ys.length ≤ sizeLine) : catO xs ys = some (xs ++ ys) := if_pos h
def kk : List Int → List Int → Nat
  | x :: u, y :: v => if x = -y then kk u v + 1 else 0
  | _, _ => 0
end Z
namespace Z
open PySem PySem.Spec L2
/-- three cells, of which so many draws were made at most -/
def WeOk (n : Nat) (w : List Int) : Prop := ∃ a b c : Int, w = [a, b, c] ∧ 0 ≤ a ∧ 0 ≤ b ∧ b < 2 ^ 104 ∧ 0 ≤ c ∧ c ≤ n
theorem WeOk.mono {n m : Nat} {w : List Int} (h : WeOk n w) (hm : n ≤ m) : WeOk m w := by
  obtain ⟨a, b, c, e, h1, h2, h3, h4, h5⟩ := h
  exact ⟨a, b, c, e, h1, h2, h3, h4, by omega⟩
theorem lpR_mix {α R S : Type} {f : S → α → Option (Step R S)} (Rr : R → Prop) : ∀ {xs : List α} (P : Nat → S → Prop), (∀ (i : Nat) (x : α) (s : S), xs[i]? = some x → P i s → (∃ s', f s x = some (.go s') ∧ P (i + 1) s') ∨ ∃ r, f s x = some (.ret r) ∧ Rr r) → ∀ {s0 : S}, P 0 s0 →
    (∃ s', lpR f xs s0 = some (.inr s') ∧ P xs.length s') ∨ ∃ r, lpR f xs s0 = some (.inl r) ∧ Rr r
  | [], P, _, s0, h0 => .inl ⟨s0, rfl, h0⟩
  | x :: xs, P, h, s0, h0 => by
    rcases h 0 x s0 rfl h0 with ⟨s1, e, h1⟩ | ⟨r, e, hr⟩
    · rcases lpR_mix Rr (xs := xs) (fun i => P (i + 1)) (fun i y s hy hs => h (i + 1) y s (by simpa using hy) hs) h1 with ⟨s2, e2, h2⟩ | ⟨r, e2, hr⟩
      · exact .inl ⟨s2, by unfold lpR; rw [e]; exact e2, h2⟩
      · exact .inr ⟨r, by unfold lpR; rw [e]; exact e2, hr⟩
    · exact .inr ⟨r, by unfold lpR; rw [e]; rfl, hr⟩
theorem rng_len (a b : Int) : (range' a b).length = (b - a).toNat := by
  unfold range'
  rw [List.length_map, List.length_range]
def Sok (L x : Int) : Prop := x ≠ 0 ∧ -L ≤ x ∧ x ≤ L
theorem Sok.mono {L M x : Int} (h : Sok L x) (hm : L ≤ M) : Sok M x := ⟨h.1, by have := h.2.1; omega, by have := h.2.2; omega⟩
theorem Sok.neg {L x : Int} (h : Sok L x) : Sok L (-x) := ⟨by have := h.1; omega, by have := h.2.2; omega, by have := h.2.1; omega⟩
theorem flat_len {α : Type} (xs : List α) : ∀ m : Nat, (List.replicate m xs).flatten.length = m * xs.length
  | 0 => by simp
  | m + 1 => by
    rw [List.replicate_succ, List.flatten_cons, List.length_append, flat_len xs m, Nat.add_mul]
    omega
theorem flat_mem {α : Type} {xs : List α} {x : α} {m : Nat} (h : x ∈ (List.replicate m xs).flatten) : x ∈ xs := by
  obtain ⟨l, hl, hx⟩ := List.mem_flatten.mp h
  exact (List.mem_replicate.mp hl).2 ▸ hx
end Z
namespace Z
open PySem PySem.Spec L2
theorem bindS {α β : Type} {m : Option α} {k : α → Option β} {a : α} {r : Option β} (h : m = some a) (h2 : k a = r) : m.bind k = r := by
  rw [h]
  exact h2
/-- three cells, of which so many draws were made at most -/
def WeC (n : Nat) (w : List Int) : Prop := ∃ a b c : Int, w = [a, b, c] ∧ 0 ≤ a ∧ 0 ≤ b ∧ b < 2 ^ 140 ∧ 0 ≤ c ∧ c ≤ n
theorem WeC.mono {n m : Nat} {w : List Int} (h : WeC n w) (hm : n ≤ m) : WeC m w := by
  obtain ⟨a, b, c, e, h1, h2, h3, h4, h5⟩ := h
  exact ⟨a, b, c, e, h1, h2, h3, h4, by omega⟩
theorem enum_get {α : Type} {xs : List α} {i : Nat} {x : Int × α} (h : (enum xs)[i]? = some x) : x.1 = (i : Int) ∧ xs[i]? = some x.2 := by
  unfold enum at h
  rw [List.getElem?_map, List.getElem?_zipIdx] at h
  cases e : xs[i]? with
  | none => rw [e] at h; cases h
  | some y =>
    rw [e] at h
    simp only [Option.map_some, Option.some.injEq] at h
    subst h
    exact ⟨by simp, rfl⟩
theorem cell_ok {ns : List Int} {k d : Int} (h0 : 0 ≤ k) : ∃ s, (if (decide (k < (ns.length : Int))) = true then ((idx ns k).bind fun t1 => some t1) else some d : Option Int) = some s := by
  by_cases hk : k < (ns.length : Int)
  · rw [if_pos (decide_eq_true hk)]
    have hk2 : k.toNat < ns.length := by omega
    exact ⟨ns[k.toNat], by rw [idx_of h0 (List.getElem?_eq_getElem hk2)]; rfl⟩
  · rw [if_neg (by simpa using hk)]
    exact ⟨_, rfl⟩
theorem idx_mem {α : Type} {xs : List α} {i : Int} (h0 : 0 ≤ i) (h : i < xs.length) : ∃ x, idx xs i = some x ∧ x ∈ xs := by
  have hl : i.toNat < xs.length := by omega
  exact ⟨xs[i.toNat], idx_of h0 (List.getElem?_eq_getElem hl), List.getElem_mem hl⟩
/-- what a datum needs so that its text can be asked for: no deeper than k, no longer than n -/
def Txt (k n : Nat) (d : PyData) : Prop := d.showable = true ∧ d.hasDict = false ∧ d.depth ≤ k ∧ d.shown.length ≤ n
theorem Txt.mono {k n k' n' : Nat} {d : PyData} (h : Txt k n d) (hk : k ≤ k') (hn : n ≤ n') : Txt k' n' d := ⟨h.1, h.2.1, Nat.le_trans h.2.2.1 hk, Nat.le_trans h.2.2.2 hn⟩
end Z
namespace Z
open PySem PySem.Spec L2
def Q_steps_of (letters : Int) : Option (List Int) :=
  ((rngO 1 (letters + 1)).bind fun t1 => ((lp (fun (s2 : (List Int)) (letter3 : Int) => ((catO (α := Int) s2 ([letter3, (-letter3)])).bind fun t7 => some t7)) t1 ([] : (List Int))).bind fun f4 => some f4))
def Q_is_integer (value : Int) : Option Bool :=
  some (true && true)
def Q_is_letters (value : Int) : Option Bool :=
  ((Q_is_integer value).bind fun t1 => some (t1 && (decide (1 ≤ value) && decide (value ≤ 4))))
def Q_is_a_row (value : (List Int)) (letters : Int) (rooms : Int) : Option Bool :=
  (if (false || (!decide ((value.length : Int) = letters))) = true then some false else ((lcO (β := Bool) (fun (room1 : Int) => ((Q_is_integer room1).bind fun t3 => some (t3 && (decide ((-1) ≤ room1) && decide (room1 < rooms))))) value).bind fun t4 => some (t4.all id)))
def Q_doors_of (rows : (List (List Int))) : Option (List (List (Int × Int))) :=
  ((lenO rows).bind fun z2 => (mapO (fun (row1 : (List Int)) => (some ([] : (List (Int × Int))) : Option (List (Int × Int)))) rows).bind fun t4 => ((lp (fun (s6 : (List (List (Int × Int)))) (x7 : (Int × (List Int))) => ((lp (fun (s11 : (List (List (Int × Int)))) (x12 : (Int × Int)) => ((if (decide (0 ≤ x12.2)) = true then ((idx s11 x7.1).bind fun t16 => (dPutO t16 (x12.1 + 1) x12.2).bind fun t17 => ((idx (setI s11 x7.1 t17) x12.2).bind fun t18 => (dPutO t18 ((-x12.1) - 1) x7.1).bind fun t19 => some (setI (setI s11 x7.1 t17) x12.2 t19))) else some s11 : Option (List (List (Int × Int)))).bind fun s20 => some s20)) (enum x7.2) s6).bind fun f13 => some f13)) (enum rows) t4).bind fun f8 => some f8))
def Q_is_one_way (rows : (List (List Int))) (letters : Int) : Option Bool :=
  ((rngO 0 letters).bind fun t1 => ((lpR (fun (s2 : Unit) (at_3 : Int) => (((lcG (β := Int) (fun (row7 : (List Int)) => ((idx row7 at_3).bind fun t9 => if (decide (0 ≤ t9)) = true then ((idx row7 at_3).bind fun t10 => some (some t10)) else some none)) rows).bind fun t11 => ((lenSetO t11).bind fun t12 => (if (decide (t12 < (t11.length : Int))) = true then some (Step.ret false) else some (Step.go ())))) : Option (Step Bool Unit))) t1 ()).bind fun f4o => Sum.elim (fun r14 => some r14) (fun f4 => some true) f4o))
def Q_first_order (letters : Int) (doors : (List (List (Int × Int)))) (home : Int) : Option (List Int) :=
  ((wh (fun (s3 : (Int × (List (Int × Bool)) × (List Int))) => some (decide (s3.1 < (s3.2.2.length : Int)))) (fun (s3 : (Int × (List (Int × Bool)) × (List Int))) => (((Q_steps_of letters).bind fun t7 => ((lp (fun (s8 : ((List (Int × Bool)) × (List Int))) (step9 : Int) => ((idx s8.2 s3.1).bind fun t13 => (idx doors t13).bind fun t14 => (match (dGet t14 step9) with | none => (some (s8.1, s8.2)) | some goal15 => ((if (true && (!(dGet s8.1 goal15).isSome)) = true then ((dPutO s8.1 goal15 true).bind fun t16 => ((appO s8.2 goal15).bind fun t17 => some (t16, t17))) else some (s8.1, s8.2) : Option ((List (Int × Bool)) × (List Int))).bind fun s18 => some (s18.1, s18.2))))) t7 (s3.2.1, s3.2.2)).bind fun f10 => some (Step.go ((s3.1 + 1), f10.1, f10.2)))) : Option (Step (List Int) (Int × (List (Int × Bool)) × (List Int))))) 10000 (0, [(home, true)], [home])).bind fun f4o => Sum.elim (fun r21 => none) (fun f4 => some f4.2.2) f4o)
def Q_is_a_web (value : (Int × (List (List Int)))) : Option Bool :=
  ((if false = true then some true else ((if (!decide (2 = 2)) = true then some true else ((Q_is_letters value.1).bind fun t1 => some (!t1))).bind fun t2 => some t2)).bind fun t3 => (if t3 = true then some false else (if (false || (decide ((value.2.length : Int) = 0))) = true then some false else ((lcO (β := Bool) (fun (row4 : (List Int)) => ((Q_is_a_row row4 value.1 (value.2.length : Int)).bind fun t6 => some t6)) value.2).bind fun t7 => (if (!(t7.all id)) = true then some true else ((Q_is_one_way value.2 value.1).bind fun t8 => some (!t8))).bind fun t9 => (if t9 = true then some false else ((Q_doors_of value.2).bind fun t10 => ((lcT (fun (steps11 : (List (Int × Int))) => (decide ((steps11.length : Int) < 2))) (cut t10 (some 1) none)).bind fun t13 => (if (t13.any id) = true then some false else ((Q_first_order value.1 t10 0).bind fun t14 => (rgO 0 (value.2.length : Int)).bind fun t15 => some (decide (t14 = t15)))))))))))
def Q_need_web (web : (Int × (List (List Int)))) : Option Unit :=
  ((Q_is_a_web web).bind fun t1 => (if (!t1) = true then none else some ()))
def Q_need_number (number : Int) (low : Int) (high : Unit) : Option Unit :=
  (if ((decide (number < low)) || false) = true then none else some ())
def P_pot (script : (List Int)) (k_ : Int) : Option (List Int) :=
  ((if (decide (k_ < (script.length : Int))) = true then ((idx script k_).bind fun t1 => some t1) else some ((29 * k_) + 3) : Option Int).bind fun s2 => ((lp (fun (s3 : Int) (other4 : Int) => ((some (((s3 * 7919) + (other4 % 10000000000000000000009)) % 100000000000000000000000067)).bind fun total8 => some total8)) script (script.length : Int)).bind fun f5 => some [(maxI 0 (s2 - 1000000000000000000)), ((((((absI s2) * 9973) + (2 * f5)) + (if (decide (s2 < 0)) = true then 1 else 0)) + k_) % 10000000000000000000000000331), 0]))
def P_draw (w_pot_here : (List Int)) (many : Int) : Option (Int × (List Int)) :=
  ((idx w_pot_here 0).bind fun t1 => (if (decide (0 < t1)) = true then ((idx w_pot_here 0).bind fun t2 => (modO t2 many).bind fun t3 => ((idx w_pot_here 0).bind fun t4 => (fdivO t4 many).bind fun t5 => (setO w_pot_here 0 t5).bind fun t6 => some (t3, t6))) else ((idx w_pot_here 2).bind fun t7 => (setO w_pot_here 2 (t7 + 1)).bind fun t8 => ((idx t8 1).bind fun t9 => (idx t8 2).bind fun t10 => (some (((t9 * 524287) + (t10 * 1442695040888963407)) % 10000000000000000000000000331)).bind fun mixed11 => ((mulW mixed11 mixed11).bind fun t13 => (idx t8 2).bind fun t14 => (idx t8 1).bind fun t15 => (some (((t13 + (7046029254386353131 * t14)) + t15) % 100000000000000000000000000319)).bind fun mixed16 => ((mulW mixed16 mixed16).bind fun t18 => ((modO (((t18 + 5) % 1000000000000000000000000000057) / 9001) many).bind fun t19 => some (t19, t8))))))))
def P_steps (letters : Int) : Option (List Int) :=
  ((rngO 1 (letters + 1)).bind fun t1 => ((lp (fun (s2 : (List Int)) (letter3 : Int) => ((catO (α := Int) s2 ([letter3, (-letter3)])).bind fun t7 => some t7)) t1 ([] : (List Int))).bind fun f4 => some f4))
def P_web (letters : Int) (doors_here : (List (List (Int × Int)))) : Option (Int × (List (List Int))) :=
  ((lenO doors_here).bind fun z2 => (mapO (fun (steps_here1 : (List (Int × Int))) => (some steps_here1 : Option (List (Int × Int)))) doors_here).bind fun t4 => ((rngO 0 (t4.length : Int)).bind fun t6 => ((lp (fun (s7 : (List (List (Int × Int)))) (turn8 : Int) => ((rngO 1 (s7.length : Int)).bind fun t12 => ((lp (fun (s13 : (List (List (Int × Int)))) (room14 : Int) => ((idx s13 room14).bind fun t18 => ((if (decide ((t18.length : Int) = 1)) = true then ((idx s13 room14).bind fun t19 => (idx (List.map Prod.fst t19) 0).bind fun t20 => ((idx s13 room14).bind fun t21 => (dPopO t21 t20).bind fun t22 => ((idx (setI s13 room14 t22.2) t22.1).bind fun t23 => (dPopO t23 (-t20)).bind fun t24 => some (setI (setI s13 room14 t22.2) t22.1 t24.2)))) else some s13 : Option (List (List (Int × Int)))).bind fun s25 => some s25))) t12 s7).bind fun f15 => some f15))) t6 t4).bind fun f9 => ((wh (fun (s30 : (Int × (List Int))) => some (decide (s30.1 < (s30.2.length : Int)))) (fun (s30 : (Int × (List Int))) => (((P_steps letters).bind fun t34 => ((lp (fun (s35 : (List Int)) (step36 : Int) => ((idx s35 s30.1).bind fun t40 => (idx f9 t40).bind fun t41 => ((if ((decide (0 ≤ ((dGet t41 step36).getD (-1)))) && (!s35.contains ((dGet t41 step36).getD (-1)))) = true then ((appO s35 ((dGet t41 step36).getD (-1))).bind fun t42 => some t42) else some s35 : Option (List Int)).bind fun s43 => some s43))) t34 s30.2).bind fun f37 => some (Step.go ((s30.1 + 1), f37)))) : Option (Step (Int × (List (List Int))) (Int × (List Int))))) 10000 (0, [0])).bind fun f31o => Sum.elim (fun r64 => none) (fun f31 => ((lp (fun (s46 : (List (List Int))) (room47 : Int) => ((rngO 1 (letters + 1)).bind fun t51 => (lcO (β := Int) (fun (letter52 : Int) => ((idx f9 room47).bind fun t54 => some ((dGet t54 letter52).getD (-1)))) t51).bind fun t55 => ((lcO (β := Int) (fun (goal56 : Int) => ((if (decide (0 ≤ goal56)) = true then ((ixOf f31.2 goal56).bind fun t58 => some ((t58 : Nat) : Int)) else some (-1)).bind fun t59 => some t59)) t55).bind fun t60 => (appO s46 t60).bind fun t61 => some t61))) f31.2 ([] : (List (List Int)))).bind fun f48 => some (letters, f48))) f31o))))
def P_doors (web_here : (Int × (List (List Int)))) : Option (List (List (Int × Int))) :=
  ((lenO web_here.2).bind fun z2 => (mapO (fun (row1 : (List Int)) => (some ([] : (List (Int × Int))) : Option (List (Int × Int)))) web_here.2).bind fun t4 => ((rngO 0 (t4.length : Int)).bind fun t6 => ((lp (fun (s7 : (List (List (Int × Int)))) (room8 : Int) => ((rngO 0 web_here.1).bind fun t12 => ((lp (fun (s13 : (List (List (Int × Int)))) (at_14 : Int) => ((idx web_here.2 room8).bind fun t18 => (idx t18 at_14).bind fun t19 => ((if (decide (0 ≤ t19)) = true then ((idx s13 room8).bind fun t20 => (dPutO t20 (at_14 + 1) t19).bind fun t21 => ((idx (setI s13 room8 t21) t19).bind fun t22 => (dPutO t22 ((-at_14) - 1) room8).bind fun t23 => some (setI (setI s13 room8 t21) t19 t23))) else some s13 : Option (List (List (Int × Int)))).bind fun s24 => some s24))) t12 s7).bind fun f15 => some f15))) t6 t4).bind fun f9 => some f9)))
def P_straight (w_pot_here : (List Int)) (letters : Int) (size : Int) : Option ((List Int) × (List Int)) :=
  ((rngO 0 size).bind fun t1 => ((lp (fun (s2 : ((List Int) × (List Int))) (turn3 : Int) => ((P_steps letters).bind fun t7 => (lcG (β := Int) (fun (step8 : Int) => ((if (decide (s2.1 = ([] : (List Int)))) = true then some true else ((idx s2.1 (-1)).bind fun t10 => some (!decide (step8 = (-t10))))).bind fun t11 => if t11 = true then some (some step8) else some none)) t7).bind fun t12 => ((P_draw s2.2 (t12.length : Int)).bind fun t13 => (idx t12 t13.1).bind fun t14 => (appO s2.1 t14).bind fun t15 => some (t15, t13.2)))) t1 (([] : (List Int)), w_pot_here)).bind fun f4 => some (f4.1, f4.2)))
def P_tables (w_pot_here : (List Int)) (letters : Int) (count : Int) (gaps : Int) : Option ((List (List (Int × Int))) × (List Int)) :=
  ((rngO 0 count).bind fun t1 => (lenO t1).bind fun z3 => (mapO (fun (room2 : Int) => (some ([] : (List (Int × Int))) : Option (List (Int × Int)))) t1).bind fun t5 => ((rngO 1 (letters + 1)).bind fun t7 => ((lp (fun (s8 : ((List (List (Int × Int))) × (List Int))) (letter9 : Int) => ((rgO 0 count).bind fun t13 => ((rngO 0 count).bind fun t14 => ((lp (fun (s15 : ((List Int) × (List (List (Int × Int))) × (List Int))) (room16 : Int) => ((P_draw s15.2.2 (s15.1.length : Int)).bind fun t20 => (popI s15.1 t20.1).bind fun t21 => ((if (decide (gaps = 0)) = true then some (true, t20.2) else ((P_draw t20.2 gaps).bind fun t22 => some ((decide (0 < t22.1)), t22.2))).bind fun t23 => ((if t23.1 = true then ((idx s15.2.1 room16).bind fun t24 => (dPutO t24 letter9 t21.1).bind fun t25 => ((idx (setI s15.2.1 room16 t25) t21.1).bind fun t26 => (dPutO t26 (-letter9) room16).bind fun t27 => some (setI (setI s15.2.1 room16 t25) t21.1 t27))) else some s15.2.1 : Option (List (List (Int × Int)))).bind fun s28 => some (t21.2, s28, t23.2))))) t14 (t13, s8.1, s8.2)).bind fun f17 => some (f17.2.1, f17.2.2))))) t7 (t5, w_pot_here)).bind fun f10 => some (f10.1, f10.2))))
def P_rings (walks : (List (List Int))) : Option (List (List (Int × Int))) :=
  ((lp (fun (s2 : (Int × (List (Tri Int Int Int)))) (walk3 : (List Int)) => ((rngO 0 ((walk3.length : Int) - 1)).bind fun t7 => (lcT (fun (k_8 : Int) => (s2.1 + k_8)) t7).bind fun t10 => (catO (α := Int) ([0]) t10).bind fun t11 => (catO (α := Int) t11 ([0])).bind fun t12 => ((rngO 0 (walk3.length : Int)).bind fun t13 => ((lp (fun (s14 : (List (Tri Int Int Int))) (k_15 : Int) => ((idx t12 k_15).bind fun t19 => (idx walk3 k_15).bind fun t20 => (idx t12 (k_15 + 1)).bind fun t21 => (appO s14 (Tri.mk t19 t20 t21)).bind fun t22 => ((idx t12 (k_15 + 1)).bind fun t23 => (idx walk3 k_15).bind fun t24 => (idx t12 k_15).bind fun t25 => (appO t22 (Tri.mk t23 (-t24) t25)).bind fun t26 => some t26))) t13 s2.2).bind fun f16 => some (((s2.1 + (walk3.length : Int)) - 1), f16))))) walks (1, ([] : (List (Tri Int Int Int))))).bind fun f4 => ((rgO 0 f4.1).bind fun t30 => ((rngO 0 f4.1).bind fun t33 => ((lp (fun (s34 : ((List Int) × (List (List (Int × Int))))) (turn35 : Int) => ((rngO 0 f4.1).bind fun t39 => (lenO t39).bind fun z41 => (mapO (fun (room40 : Int) => (some ([] : (List (Int × Int))) : Option (List (Int × Int)))) t39).bind fun t43 => ((lp (fun (s45 : ((List Int) × (List (List (Int × Int))))) (x46 : (Tri Int Int Int)) => ((idx s45.1 x46.a).bind fun t50 => (idx s45.1 x46.c).bind fun t51 => ((idx s45.2 t50).bind fun t52 => (dSetO t52 x46.b t51).bind fun t53 => ((if (!decide (t53.1 = t51)) = true then ((lcT (fun (head54 : Int) => (if (decide (head54 = (maxI t53.1 t51))) = true then (minI t53.1 t51) else head54)) s45.1).bind fun t56 => some t56) else some s45.1 : Option (List Int)).bind fun s57 => some (s57, (setI s45.2 t50 t53.2)))))) f4.2 (s34.1, t43)).bind fun f47 => some (f47.1, f47.2)))) t33 (t30, ([] : (List (List (Int × Int)))))).bind fun f36 => some f36.2))))
def P_drawn (w_pot_here : (List Int)) (most : Int) (top : Int) : Option ((Int × (List (List Int))) × (List Int)) :=
  ((P_draw w_pot_here top).bind fun t1 => ((P_draw t1.2 9).bind fun t2 => (if (decide (t2.1 = 0)) = true then ((repT ([(-1)]) (1 + t1.1)).bind fun t3 => some (((1 + t1.1), [t3]), t2.2)) else (if (decide (t2.1 < 5)) = true then ((P_draw t2.2 3).bind fun t5 => (rngO 0 (1 + t5.1)).bind fun t6 => ((lp (fun (s7 : (Int × (List Int) × (List (List Int)))) (turn8 : Int) => ((if (decide (0 < s7.1)) = true then ((P_draw s7.2.1 s7.1).bind fun t12 => ((P_straight t12.2 (1 + t1.1) (1 + t12.1)).bind fun t13 => (appO s7.2.2 t13.1).bind fun t14 => some ((s7.1 - (1 + t12.1)), t13.2, t14))) else some (s7.1, s7.2.1, s7.2.2) : Option (Int × (List Int) × (List (List Int)))).bind fun s15 => some (s15.1, s15.2.1, s15.2.2))) t6 (most, t5.2, ([] : (List (List Int))))).bind fun f9 => ((P_rings f9.2.2).bind fun t17 => (P_web (1 + t1.1) t17).bind fun t18 => some (t18, f9.2.1)))) else ((P_draw t2.2 5).bind fun t20 => (idx ([0, 0, 2, 3, 6]) t20.1).bind fun t21 => ((P_draw t20.2 most).bind fun t22 => (P_tables t22.2 (1 + t1.1) (1 + t22.1) t21).bind fun t23 => (P_web (1 + t1.1) t23.1).bind fun t24 => some (t24, t23.2)))))))
theorem bndX {α β : Type} {m : Option α} {k : α → Option β} {a : α} {P : β → Prop} (h : m = some a) (h2 : ∃ r, k a = some r ∧ P r) : ∃ r, m.bind k = some r ∧ P r := by
  rw [h]
  exact h2
theorem sizeL : sizeLine = 16777216 := by decide
/-- three cells, of which so many draws were made at most -/
def Pot (n : Nat) (w : List Int) : Prop := ∃ a b c : Int, w = [a, b, c] ∧ 0 ≤ a ∧ 0 ≤ b ∧ b < 2 ^ 100 ∧ 0 ≤ c ∧ c ≤ n
theorem Pot.mono {n m : Nat} {w : List Int} (h : Pot n w) (hm : n ≤ m) : Pot m w := by
  obtain ⟨a, b, c, e, h1, h2, h3, h4, h5⟩ := h
  exact ⟨a, b, c, e, h1, h2, h3, h4, by omega⟩
theorem pot_ok {ns : List Int} {k : Int} (h0 : 0 ≤ k) : ∃ w, P_pot ns k = some w ∧ Pot 0 w := by
  unfold P_pot
  obtain ⟨s, e⟩ := cell_ok (ns := ns) (d := (29 * k) + 3) h0
  obtain ⟨f, e2, _⟩ := lp_goN (f := fun (s3 : Int) (other4 : Int) => ((some (((s3 * 7919) + (other4 % 10000000000000000000009)) % 100000000000000000000000067)).bind fun total8 => some total8)) (xs := ns) (fun _ _ => True) (fun i x s _ _ => ⟨_, rfl, trivial⟩) (s0 := (ns.length : Int)) trivial
  refine ⟨_, bindS e (bindS e2 rfl), _, _, _, rfl, ?_, Int.emod_nonneg _ (by decide), ?_, Int.le_refl 0, Int.le_refl 0⟩
  · unfold maxI
    split <;> omega
  · exact Int.lt_trans (Int.emod_lt_of_pos _ (by decide)) (by decide)
theorem mulW_sq {x y : Int} (h0 : 0 ≤ x) (h1 : x < 2 ^ 110) (k0 : 0 ≤ y) (k1 : y < 2 ^ 110) : mulW x y = some (x * y) := by
  refine if_pos (.inr (.inr ?_))
  have e1 : x.natAbs.log2 < 110 := log2_int h0 (by omega) (by decide)
  have e2 : y.natAbs.log2 < 110 := log2_int k0 (by omega) (by decide)
  omega
theorem draw_big {n : Nat} {w : List Int} (h : Pot n w) {many : Int} (h0 : 0 < many) (hbl : many.natAbs.log2 < 9000) : ∃ v w', P_draw w many = some (v, w') ∧ 0 ≤ v ∧ v < many ∧ Pot (n + 1) w' := by
  obtain ⟨a, b, c, rfl, ha, hb0, hb1, hc0, hc1⟩ := h
  unfold P_draw
  have i0 : idx [a, b, c] 0 = some a := rfl
  have i2 : idx [a, b, c] 2 = some c := rfl
  have j1 : idx [a, b, c + 1] 1 = some b := rfl
  have j2 : idx [a, b, c + 1] 2 = some (c + 1) := rfl
  have m0 : setO [a, b, c] 2 (c + 1) = some [a, b, c + 1] := rfl
  have m1 : modO a many = some (a % many) := if_pos h0
  have m2 : fdivO a many = some (a / many) := if_pos ⟨h0, hbl⟩
  have m3 : setO [a, b, c] 0 (a / many) = some [a / many, b, c] := rfl
  by_cases hp : 0 < a
  · exact ⟨a % many, [a / many, b, c], bindS i0 ((if_pos (decide_eq_true hp)).trans (bindS i0 (bindS m1 (bindS i0 (bindS m2 (bindS m3 rfl)))))), Int.emod_nonneg _ (by omega), Int.emod_lt_of_pos _ h0, _, _, _, rfl, Int.ediv_nonneg ha (by omega), hb0, hb1, hc0, by omega⟩
  · refine ⟨_, [a, b, c + 1], bindS i0 ((if_neg (by simpa using hp)).trans (bindS i2 (bindS m0 (bindS j1 (bindS j2 (bindS rfl (bindS (mulW_sq ?_ ?_ ?_ ?_) (bindS j2 (bindS j1 (bindS rfl (bindS (mulW_sq ?_ ?_ ?_ ?_) (bindS (if_pos h0) rfl)))))))))))), Int.emod_nonneg _ (by omega), Int.emod_lt_of_pos _ h0, _, _, _, rfl, ha, hb0, hb1, by omega, by omega⟩
    all_goals first | exact Int.emod_nonneg _ (by decide) | exact Int.lt_trans (Int.emod_lt_of_pos _ (by decide)) (by decide)
theorem draw_ok {n : Nat} {w : List Int} (h : Pot n w) {many : Int} (h0 : 0 < many) (hb : many < 2 ^ 64) : ∃ v w', P_draw w many = some (v, w') ∧ 0 ≤ v ∧ v < many ∧ Pot (n + 1) w' :=
  draw_big h h0 (Nat.lt_trans (log2_int (by omega) hb (by decide)) (by decide))
def stL (L : Int) : List Int := (range' 1 (L + 1)).flatMap fun l => [l, -l]
theorem four {P : Int → Prop} {L : Int} (h1 : 1 ≤ L) (h4 : L ≤ 4) (a : P 1) (b : P 2) (c : P 3) (d : P 4) : P L := by
  have : L = 1 ∨ L = 2 ∨ L = 3 ∨ L = 4 := by omega
  rcases this with rfl | rfl | rfl | rfl <;> assumption
theorem steps_ok' {L : Int} (h1 : 1 ≤ L) (h4 : L ≤ 4) : P_steps L = some (stL L) := four (P := fun L => P_steps L = some (stL L)) h1 h4 (by decide) (by decide) (by decide) (by decide)
theorem steps_of_ok {L : Int} (h1 : 1 ≤ L) (h4 : L ≤ 4) : Q_steps_of L = some (stL L) := steps_ok' h1 h4
theorem mem_stL {L s : Int} : s ∈ stL L ↔ Sok L s := by
  unfold stL Sok
  rw [List.mem_flatMap]
  constructor
  · rintro ⟨l, hl, hs⟩
    have := mem_rng hl
    simp only [List.mem_cons, List.not_mem_nil, or_false] at hs
    omega
  · intro h
    refine ⟨(s.natAbs : Int), ?_, ?_⟩
    · unfold range'
      refine List.mem_map.mpr ⟨s.natAbs - 1, List.mem_range.mpr (by omega), by omega⟩
    · simp only [List.mem_cons, List.not_mem_nil, or_false]
      omega
theorem stL_len {L : Int} (h1 : 1 ≤ L) (h4 : L ≤ 4) : (stL L).length ≤ 8 := four (P := fun L => (stL L).length ≤ 8) h1 h4 (by decide) (by decide) (by decide) (by decide)
theorem nodup_le {α : Type} [DecidableEq α] : ∀ (l k : List α), l.Nodup → (∀ x ∈ l, x ∈ k) → l.length ≤ k.length
  | [], _, _, _ => Nat.zero_le _
  | x :: l, k, h, hs => by
    have hx := hs x List.mem_cons_self
    have h2 := List.nodup_cons.mp h
    have := nodup_le l (k.erase x) h2.2 (fun y hy => (List.mem_erase_of_ne (fun e => h2.1 (by rw [← e]; exact hy))).mpr (hs y (List.mem_cons_of_mem _ hy)))
    rw [List.length_erase_of_mem hx] at this
    have := List.length_pos_of_mem hx
    rw [List.length_cons]
    omega
section
variable {κ β : Type} [DecidableEq κ]
theorem dGet_nil (k : κ) : dGet ([] : List (κ × β)) k = none := rfl
theorem dGet_cons (p : κ × β) (d : List (κ × β)) (k : κ) : dGet (p :: d) k = if p.1 = k then some p.2 else dGet d k := by
  unfold dGet
  rw [List.find?_cons]
  by_cases h : p.1 = k
  · simp [h]
  · simp [h]
theorem dGet_mem : ∀ {d : List (κ × β)} {k : κ} {v : β}, dGet d k = some v → (k, v) ∈ d
  | [], _, _, h => by cases h
  | p :: d, k, v, h => by
    rw [dGet_cons] at h
    by_cases e : p.1 = k
    · rw [if_pos e] at h
      cases h
      subst e
      exact List.mem_cons_self
    · rw [if_neg e] at h
      exact List.mem_cons_of_mem _ (dGet_mem h)
theorem mem_dGet : ∀ {d : List (κ × β)} {k : κ} {v : β}, (d.map Prod.fst).Nodup → (k, v) ∈ d → dGet d k = some v
  | [], _, _, _, h => by cases h
  | p :: d, k, v, hn, h => by
    rw [dGet_cons]
    rw [List.map_cons, List.nodup_cons] at hn
    rcases List.mem_cons.mp h with h | h
    · subst h
      rw [if_pos rfl]
    · rw [if_neg (fun e => hn.1 (by rw [e]; exact List.mem_map.mpr ⟨_, h, rfl⟩))]
      exact mem_dGet hn.2 h
theorem dGet_key_mem {d : List (κ × β)} {k : κ} : (dGet d k).isSome = true ↔ k ∈ d.map Prod.fst := by
  constructor
  · intro h
    obtain ⟨v, hv⟩ := Option.isSome_iff_exists.mp h
    exact List.mem_map.mpr ⟨_, dGet_mem hv, rfl⟩
  · intro h
    induction d with
    | nil => cases h
    | cons p d ih =>
      rw [dGet_cons]
      by_cases e : p.1 = k
      · rw [if_pos e]; rfl
      · rw [if_neg e]
        rw [List.map_cons] at h
        rcases List.mem_cons.mp h with h | h
        · exact absurd h.symm e
        · exact ih h
theorem dGet_set (k : κ) (v : β) (k' : κ) : ∀ d : List (κ × β), dGet (d.map fun kv => if kv.1 = k then (kv.1, v) else kv) k' = if k = k' then (dGet d k).map (fun _ => v) else dGet d k'
  | [] => by by_cases h : k = k' <;> simp [h, dGet_nil]
  | p :: d => by
    rw [List.map_cons, dGet_cons, dGet_set k v k' d, dGet_cons, dGet_cons]
    by_cases h1 : p.1 = k
    · by_cases h2 : k = k'
      · subst h2; simp [h1]
      · have h3 : ¬ p.1 = k' := fun e => h2 (h1.symm.trans e)
        simp [h1, h2]
    · by_cases h2 : k = k'
      · subst h2; simp [h1]
      · simp [h1, h2]
theorem dGet_snoc (k : κ) (v : β) (k' : κ) : ∀ d : List (κ × β), dGet (d ++ [(k, v)]) k' = (dGet d k').or (if k = k' then some v else none)
  | [] => by rw [List.nil_append, dGet_cons]; rfl
  | p :: d => by
    rw [List.cons_append, dGet_cons, dGet_cons, dGet_snoc k v k' d]
    by_cases h : p.1 = k' <;> simp [h]
theorem any_key (d : List (κ × β)) (k : κ) : (d.any fun kv => decide (kv.1 = k)) = (dGet d k).isSome := by
  induction d with
  | nil => rfl
  | cons p d ih =>
    rw [List.any_cons, dGet_cons, ih]
    by_cases h : p.1 = k <;> simp [h]
theorem dGet_put (d : List (κ × β)) (k : κ) (v : β) (k' : κ) : dGet (dPut d k v) k' = if k = k' then some v else dGet d k' := by
  unfold dPut
  rw [any_key]
  by_cases h : (dGet d k).isSome = true
  · rw [if_pos h, dGet_set]
    obtain ⟨w, hw⟩ := Option.isSome_iff_exists.mp h
    rw [hw]
    rfl
  · rw [if_neg h, dGet_snoc]
    by_cases e : k = k'
    · subst e
      have : dGet d k = none := by simpa using h
      simp [this]
    · simp [e]
theorem dPut_keys (d : List (κ × β)) (k : κ) (v : β) : (dPut d k v).map Prod.fst = if (dGet d k).isSome = true then d.map Prod.fst else d.map Prod.fst ++ [k] := by
  unfold dPut
  rw [any_key]
  by_cases h : (dGet d k).isSome = true
  · rw [if_pos h, if_pos h, List.map_map]
    refine List.map_congr_left fun p _ => ?_
    show (if p.1 = k then (p.1, v) else p).1 = p.1
    split <;> rfl
  · rw [if_neg h, if_neg h, List.map_append]
    rfl
theorem dPut_nd {d : List (κ × β)} (h : (d.map Prod.fst).Nodup) (k : κ) (v : β) : ((dPut d k v).map Prod.fst).Nodup := by
  rw [dPut_keys]
  split
  · exact h
  · rename_i hn
    rw [List.nodup_append]
    refine ⟨h, by simp, fun a ha b hb => ?_⟩
    rw [List.mem_singleton.mp hb]
    exact fun e => hn (dGet_key_mem.mpr (e ▸ ha))
theorem dDel_nd {d : List (κ × β)} (h : (d.map Prod.fst).Nodup) (k : κ) : ((dDel d k).map Prod.fst).Nodup := by
  unfold dDel
  exact h.sublist (List.Sublist.map _ List.filter_sublist)
theorem dGet_del (k k' : κ) : ∀ d : List (κ × β), dGet (dDel d k) k' = if k = k' then none else dGet d k'
  | [] => by by_cases h : k = k' <;> simp [h, dDel, dGet_nil]
  | p :: d => by
    have ih := dGet_del k k' d
    unfold dDel at ih ⊢
    rw [List.filter_cons]
    by_cases h : p.1 = k
    · simp only [h, ne_eq, not_true_eq_false, decide_false, Bool.false_eq_true, if_false]
      rw [ih, dGet_cons, h]
      by_cases e : k = k' <;> simp [e]
    · have : decide (p.1 ≠ k) = true := by simp [h]
      rw [if_pos this, dGet_cons, ih, dGet_cons]
      by_cases e : k = k'
      · subst e; simp [h]
      · simp [e]
theorem putO_ok {d : List (κ × β)} {k : κ} {v : β} (h : d.length < sizeLine) : dPutO d k v = some (dPut d k v) := if_pos h
end
abbrev Dd := List (List (Int × Int))
def row (D : Dd) (a : Int) : List (Int × Int) := D.getD a.toNat []
def go (D : Dd) (a s : Int) : Option Int := dGet (row D a) s
theorem getD_set' {α : Type} (l : List α) (i j : Nat) (x d : α) (h : i < l.length) : (l.set i x).getD j d = if i = j then x else l.getD j d := by
  rw [List.getD_eq_getElem?_getD, List.getElem?_set, List.getD_eq_getElem?_getD]
  by_cases e : i = j
  · rw [if_pos e, if_pos e, if_pos h]; rfl
  · rw [if_neg e, if_neg e]
theorem setI_nn {α : Type} {xs : List α} {a : Int} (h0 : 0 ≤ a) (h : a < xs.length) (x : α) : setI xs a x = xs.set a.toNat x := by
  unfold setI ixD ixN
  rw [if_pos h0, if_pos (by omega)]
  rfl
theorem idx_row {D : Dd} {a : Int} (h0 : 0 ≤ a) (h : a < D.length) : idx D a = some (row D a) := by
  have hl : a.toNat < D.length := by omega
  refine idx_of h0 ?_
  unfold row
  rw [List.getD_eq_getElem?_getD, List.getElem?_eq_getElem hl]
  rfl
theorem row_set {D : Dd} {a b : Int} (h0 : 0 ≤ a) (h : a < D.length) (hb : 0 ≤ b) (d : List (Int × Int)) : row (setI D a d) b = if a = b then d else row D b := by
  unfold row
  rw [setI_nn h0 h, getD_set' _ _ _ _ _ (by omega)]
  by_cases e : a = b
  · rw [if_pos e, if_pos (by omega)]
  · rw [if_neg e, if_neg (by omega)]
theorem row_mem {D : Dd} {a : Int} (h0 : 0 ≤ a) (h : a < D.length) : row D a ∈ D := by
  have hl : a.toNat < D.length := by omega
  unfold row
  rw [List.getD_eq_getElem?_getD, List.getElem?_eq_getElem hl]
  exact List.getElem_mem hl
theorem go_lt {D : Dd} {a s b : Int} (h0 : 0 ≤ a) (h : go D a s = some b) : a < D.length := by
  refine Int.not_le.mp fun hn => ?_
  unfold go row at h
  rw [List.getD_eq_getElem?_getD, List.getElem?_eq_none_iff.mpr (by omega)] at h
  cases h
def putD (D : Dd) (a s b : Int) : Dd := setI (setI D a (dPut (row D a) s b)) b (dPut (row (setI D a (dPut (row D a) s b)) b) (-s) a)
def delD (D : Dd) (a s b : Int) : Dd := setI (setI D a (dDel (row D a) s)) b (dDel (row (setI D a (dDel (row D a) s)) b) (-s))
theorem putD_len (D : Dd) (a s b : Int) : (putD D a s b).length = D.length := by unfold putD; rw [setI_len, setI_len]
theorem delD_len (D : Dd) (a s b : Int) : (delD D a s b).length = D.length := by unfold delD; rw [setI_len, setI_len]
section
variable {D : Dd} {a b s : Int} (a0 : 0 ≤ a) (a1 : a < D.length) (b0 : 0 ≤ b) (b1 : b < D.length) (hs : s ≠ 0)
include a0 a1 b0 b1 hs
theorem go_put {x : Int} (hx : 0 ≤ x) (t : Int) : go (putD D a s b) x t = if x = b ∧ t = -s then some a else if x = a ∧ t = s then some b else go D x t := by
  unfold go putD
  rw [row_set b0 (by rw [setI_len]; exact b1) hx]
  by_cases hb : b = x
  · subst hb
    rw [if_pos rfl, dGet_put]
    by_cases ht : -s = t
    · rw [if_pos ht, if_pos ⟨rfl, ht.symm⟩]
    · rw [if_neg ht, if_neg (fun z => ht z.2.symm), row_set a0 a1 b0]
      by_cases ha : a = b
      · subst ha
        rw [if_pos rfl, dGet_put]
        by_cases e : s = t
        · rw [if_pos e, if_pos ⟨rfl, e.symm⟩]
        · rw [if_neg e, if_neg (fun z => e z.2.symm)]
      · rw [if_neg ha, if_neg (fun z => ha z.1.symm)]
  · rw [if_neg hb, if_neg (fun z => hb z.1.symm), row_set a0 a1 hx]
    by_cases ha : a = x
    · subst ha
      rw [if_pos rfl, dGet_put]
      by_cases e : s = t
      · rw [if_pos e, if_pos ⟨rfl, e.symm⟩]
      · rw [if_neg e, if_neg (fun z => e z.2.symm)]
    · rw [if_neg ha, if_neg (fun z => ha z.1.symm)]
theorem go_del {x : Int} (hx : 0 ≤ x) (t : Int) : go (delD D a s b) x t = if (x = b ∧ t = -s) ∨ (x = a ∧ t = s) then none else go D x t := by
  unfold go delD
  rw [row_set b0 (by rw [setI_len]; exact b1) hx]
  by_cases hb : b = x
  · subst hb
    rw [if_pos rfl, dGet_del]
    by_cases ht : -s = t
    · rw [if_pos ht, if_pos (.inl ⟨rfl, ht.symm⟩)]
    · rw [if_neg ht, row_set a0 a1 b0]
      by_cases ha : a = b
      · subst ha
        rw [if_pos rfl, dGet_del]
        by_cases e : s = t
        · rw [if_pos e, if_pos (.inr ⟨rfl, e.symm⟩)]
        · rw [if_neg e, if_neg (by rintro (z | z); exact ht z.2.symm; exact e z.2.symm)]
      · rw [if_neg ha, if_neg (by rintro (z | z); exact ht z.2.symm; exact ha z.1.symm)]
  · rw [if_neg hb, row_set a0 a1 hx]
    by_cases ha : a = x
    · subst ha
      rw [if_pos rfl, dGet_del]
      by_cases e : s = t
      · rw [if_pos e, if_pos (.inr ⟨rfl, e.symm⟩)]
      · rw [if_neg e, if_neg (by rintro (z | z); exact hb z.1.symm; exact e z.2.symm)]
    · rw [if_neg ha, if_neg (by rintro (z | z); exact hb z.1.symm; exact ha z.1.symm)]
end
/-- doors that lead there and back -/
structure Dr (L : Int) (n : Nat) (D : Dd) : Prop where
  len : D.length = n
  nd : ∀ d ∈ D, (d.map Prod.fst).Nodup
  ok : ∀ a s b, 0 ≤ a → go D a s = some b → 0 ≤ b ∧ b < n ∧ Sok L s ∧ go D b (-s) = some a
theorem Dr.nil (L : Int) (n : Nat) {D : Dd} (h : D = List.replicate n []) : Dr L n D := by
  subst h
  refine ⟨List.length_replicate, fun d hd => ?_, fun a s b h0 h => ?_⟩
  · rw [(List.mem_replicate.mp hd).2]
    simp
  · have hr : row (List.replicate n []) a = [] := by
      unfold row
      rw [List.getD_eq_getElem?_getD, List.getElem?_replicate]
      split <;> rfl
    unfold go at h
    rw [hr] at h
    cases h
theorem Dr.put {L : Int} {n : Nat} {D : Dd} (h : Dr L n D) {a s b : Int} (a0 : 0 ≤ a) (a1 : a < n) (b0 : 0 ≤ b) (b1 : b < n) (hs : Sok L s) (f1 : go D a s = none) (f2 : go D b (-s) = none) : Dr L n (putD D a s b) := by
  have a1' : a < D.length := by rw [h.len]; exact a1
  have b1' : b < D.length := by rw [h.len]; exact b1
  have hz := hs.1
  refine ⟨by rw [putD_len]; exact h.len, fun d hd => ?_, fun x t y hx hy => ?_⟩
  · unfold putD at hd
    rcases List.mem_or_eq_of_mem_set hd with hd | rfl
    · rcases List.mem_or_eq_of_mem_set hd with hd | rfl
      · exact h.nd d hd
      · exact dPut_nd (h.nd _ (row_mem a0 a1')) _ _
    · refine dPut_nd ?_ _ _
      rw [row_set a0 a1' b0]
      split
      · exact dPut_nd (h.nd _ (row_mem a0 a1')) _ _
      · exact h.nd _ (row_mem b0 b1')
  · rw [go_put a0 a1' b0 b1' hz hx] at hy
    by_cases e1 : x = b ∧ t = -s
    · rw [if_pos e1] at hy
      cases hy
      refine ⟨a0, a1, by rw [e1.2]; exact hs.neg, ?_⟩
      rw [go_put a0 a1' b0 b1' hz a0, if_neg (fun z => by omega), if_pos ⟨rfl, by omega⟩, e1.1]
    · rw [if_neg e1] at hy
      by_cases e2 : x = a ∧ t = s
      · rw [if_pos e2] at hy
        cases hy
        refine ⟨b0, b1, by rw [e2.2]; exact hs, ?_⟩
        rw [go_put a0 a1' b0 b1' hz b0, if_pos ⟨rfl, by omega⟩, e2.1]
      · rw [if_neg e2] at hy
        obtain ⟨y0, y1, ht, hb⟩ := h.ok x t y hx hy
        refine ⟨y0, y1, ht, ?_⟩
        rw [go_put a0 a1' b0 b1' hz y0, if_neg, if_neg]
        · exact hb
        · rintro ⟨rfl, e⟩
          rw [e, f1] at hb
          cases hb
        · rintro ⟨rfl, e⟩
          rw [e, f2] at hb
          cases hb
theorem Dr.del {L : Int} {n : Nat} {D : Dd} (h : Dr L n D) {a s b : Int} (a0 : 0 ≤ a) (f : go D a s = some b) : Dr L n (delD D a s b) := by
  obtain ⟨b0, b1, hs, g⟩ := h.ok a s b a0 f
  have a1' : a < D.length := go_lt a0 f
  have b1' : b < D.length := by rw [h.len]; exact b1
  have hz := hs.1
  refine ⟨by rw [delD_len]; exact h.len, fun d hd => ?_, fun x t y hx hy => ?_⟩
  · unfold delD at hd
    rcases List.mem_or_eq_of_mem_set hd with hd | rfl
    · rcases List.mem_or_eq_of_mem_set hd with hd | rfl
      · exact h.nd d hd
      · exact dDel_nd (h.nd _ (row_mem a0 a1')) _
    · refine dDel_nd ?_ _
      rw [row_set a0 a1' b0]
      split
      · exact dDel_nd (h.nd _ (row_mem a0 a1')) _
      · exact h.nd _ (row_mem b0 b1')
  · rw [go_del a0 a1' b0 b1' hz hx] at hy
    split at hy
    · cases hy
    · rename_i hn
      obtain ⟨y0, y1, ht, hb⟩ := h.ok x t y hx hy
      refine ⟨y0, y1, ht, ?_⟩
      rw [go_del a0 a1' b0 b1' hz y0, if_neg]
      · exact hb
      · rintro (⟨rfl, e⟩ | ⟨rfl, e⟩)
        · have e' : t = s := by omega
          subst e'
          rw [g] at hb
          cases hb
          exact hn (.inr ⟨rfl, rfl⟩)
        · have e' : t = -s := by omega
          subst e'
          rw [e, f] at hb
          cases hb
          exact hn (.inl ⟨rfl, rfl⟩)
theorem eightL : ∀ s : Int, Sok 4 s → s ∈ [1, -1, 2, -2, 3, -3, 4, (-4 : Int)] := fun s h => by
  obtain ⟨h1, h2, h3⟩ := h
  simp only [List.mem_cons, List.not_mem_nil, or_false]
  omega
theorem Dr.small {L : Int} {n : Nat} {D : Dd} (h : Dr L n D) (h4 : L ≤ 4) {a : Int} (a0 : 0 ≤ a) : (row D a).length ≤ 8 := by
  by_cases ha : a < D.length
  · have hn := h.nd _ (row_mem a0 ha)
    have := nodup_le ((row D a).map Prod.fst) [1, -1, 2, -2, 3, -3, 4, (-4 : Int)] hn fun k hk => by
      obtain ⟨p, hp, rfl⟩ := List.mem_map.mp hk
      obtain ⟨k, v⟩ := p
      have hg : go D a k = some v := mem_dGet hn hp
      exact eightL _ ((h.ok a k v a0 hg).2.2.1.mono h4)
    rw [List.length_map] at this
    exact this
  · unfold row
    rw [List.getD_eq_getElem?_getD, List.getElem?_eq_none_iff.mpr (by omega)]
    exact Nat.zero_le _
theorem Dr.rowok {L : Int} {n : Nat} {D : Dd} (h : Dr L n D) {a : Int} (a0 : 0 ≤ a) : ((row D a).map Prod.fst).Nodup := by
  by_cases ha : a < D.length
  · exact h.nd _ (row_mem a0 ha)
  · unfold row
    rw [List.getD_eq_getElem?_getD, List.getElem?_eq_none_iff.mpr (by omega)]
    exact List.nodup_nil
/-- both ends of a way are laid -/
theorem put_run {L : Int} {n : Nat} {D : Dd} (h : Dr L n D) (h4 : L ≤ 4) {a b k k2 : Int} (a0 : 0 ≤ a) (a1 : a < n) (b0 : 0 ≤ b) (b1 : b < n) (hk : k2 = -k) :
    ((idx D a).bind fun t16 => (dPutO t16 k b).bind fun t17 => ((idx (setI D a t17) b).bind fun t18 => (dPutO t18 k2 a).bind fun t19 => some (setI (setI D a t17) b t19))) = some (putD D a k b) := by
  subst hk
  have a1' : a < D.length := by rw [h.len]; exact a1
  have b1' : b < D.length := by rw [h.len]; exact b1
  have s1 := h.small h4 a0
  have s2 := h.small h4 b0
  have s3 := dput_len (row D a) k b
  refine bindS (idx_row a0 a1') (bindS (putO_ok (by rw [sizeL]; omega)) (bindS (idx_row b0 (by rw [setI_len]; exact b1')) (bindS (putO_ok ?_) rfl)))
  rw [row_set a0 a1' b0, sizeL]
  split <;> omega
end Z
namespace Z
open PySem PySem.Spec L2
theorem lpX {α S β : Type} {f : S → α → Option S} {xs : List α} {s0 : S} {k : S → Option β} {Q : β → Prop} (P : Nat → S → Prop) (h0 : P 0 s0) (step : ∀ (i : Nat) (x : α) (s : S), xs[i]? = some x → P i s → ∃ s', f s x = some s' ∧ P (i + 1) s') (hk : ∀ s, P xs.length s → ∃ r, k s = some r ∧ Q r) : ∃ r, (lp f xs s0).bind k = some r ∧ Q r := by
  obtain ⟨s, e, h⟩ := lp_goN P step h0
  rw [e]
  exact hk s h
theorem lpRX {α R S β : Type} {f : S → α → Option (Step R S)} {xs : List α} {s0 : S} {k : Sum R S → Option β} {Q : β → Prop} (P : Nat → S → Prop) (h0 : P 0 s0) (step : ∀ (i : Nat) (x : α) (s : S), xs[i]? = some x → P i s → ∃ s', f s x = some (.go s') ∧ P (i + 1) s') (hk : ∀ s, P xs.length s → ∃ r, k (.inr s) = some r ∧ Q r) : ∃ r, (lpR f xs s0).bind k = some r ∧ Q r := by
  obtain ⟨s, e, h⟩ := lpR_goN P step h0
  rw [e]
  exact hk s h
theorem whX {R S β : Type} {c : S → Option Bool} {f : S → Option (Step R S)} {k : Sum R S → Option β} {Q : β → Prop} (P : S → Prop) (μ : S → Nat) {n : Nat} {s0 : S} (h0 : P s0) (hn : μ s0 < n) (step : ∀ s, P s → c s = some false ∨ (c s = some true ∧ ∃ s', f s = some (.go s') ∧ P s' ∧ μ s' < μ s)) (hk : ∀ s, P s → c s = some false → ∃ r, k (.inr s) = some r ∧ Q r) : ∃ r, (wh c f n s0).bind k = some r ∧ Q r := by
  have : ∃ s, wh c f n s0 = some (.inr s) ∧ P s ∧ c s = some false := by
    induction n generalizing s0 with
    | zero => exact absurd hn (Nat.not_lt_zero _)
    | succ n ih =>
      unfold wh
      rcases step s0 h0 with e | ⟨e, s', e2, h2, h3⟩
      · exact ⟨s0, bindS e (if_neg (by simp)), h0, e⟩
      · obtain ⟨s, h4, h5⟩ := ih h2 (by omega)
        exact ⟨s, bindS e ((if_pos rfl).trans (bindS e2 h4)), h5⟩
  obtain ⟨s, e, h, h2⟩ := this
  rw [e]
  exact hk s h h2
/-- a loop that comes to rest -/
theorem settle {α S : Type} {f : S → α → Option S} (P : Nat → S → Prop) (Q : S → Prop) (step : ∀ k s, P k s → ∃ s', (∀ x, f s x = some s') ∧ (((∀ x, f s' x = some s') ∧ Q s') ∨ ∃ k', k' < k ∧ P k' s')) : ∀ (xs : List α) (k : Nat) (s : S), P k s → k < xs.length → ∃ s', lp f xs s = some s' ∧ Q s'
  | [], k, _, _, h => absurd h (Nat.not_lt_zero _)
  | x :: xs, k, s, hp, h => by
    obtain ⟨s', e, h2⟩ := step k s hp
    unfold lp
    rw [e x]
    show ∃ s'', lp f xs s' = some s'' ∧ _
    rcases h2 with ⟨h3, h4⟩ | ⟨k', h3, h4⟩
    · have stay : ∀ ys : List α, lp f ys s' = some s' := fun ys => by
        induction ys with
        | nil => rfl
        | cons y ys ih =>
          unfold lp
          rw [h3 y]
          exact ih
      exact ⟨s', stay xs, h4⟩
    · exact settle P Q step xs k' s' h4 (by rw [List.length_cons] at h; omega)
theorem mapG_some {α β : Type} {f : α → Option (Option β)} {g : α → Option β} : ∀ {xs : List α}, (∀ x ∈ xs, f x = some (g x)) → mapG f xs = some (xs.filterMap g)
  | [], _ => rfl
  | x :: xs, h => by
    unfold mapG
    rw [h x List.mem_cons_self, mapG_some fun y hy => h y (List.mem_cons_of_mem _ hy)]
    cases hg : g x <;> simp [hg]
theorem lcG_some {α β : Type} {f : α → Option (Option β)} (g : α → Option β) {xs : List α} (hl : xs.length < sizeLine) (h : ∀ x ∈ xs, f x = some (g x)) : lcG f xs = some (xs.filterMap g) := by
  unfold lcG
  rw [if_pos hl]
  exact mapG_some h
theorem gd_snoc {w : List Int} {x : Int} (h : Gd w) (hx : ∀ y, w.getLast? = some y → x ≠ -y) : Gd (w ++ [x]) := by
  rcases List.eq_nil_or_concat w with rfl | ⟨v, y, rfl⟩
  · exact trivial
  · rw [List.concat_eq_append] at h hx ⊢
    rw [List.append_assoc]
    exact gd_join (t := []) (hx y (by simp)) trivial h
theorem rngAt {a b x : Int} {i : Nat} (h : (range' a b)[i]? = some x) : x = a + i ∧ i < (b - a).toNat := by
  unfold range' at h
  rw [List.getElem?_map] at h
  cases e : (List.range (b - a).toNat)[i]? with
  | none => rw [e] at h; cases h
  | some y =>
    rw [e] at h
    obtain ⟨h1, h2⟩ := List.getElem?_eq_some_iff.mp e
    rw [List.getElem_range] at h2
    rw [List.length_range] at h1
    subst h2
    cases h
    exact ⟨rfl, h1⟩
theorem idx_get {α : Type} {xs : List α} {v : Int} (h0 : 0 ≤ v) (h : v < xs.length) : ∃ x, idx xs v = some x ∧ xs[v.toNat]? = some x := by
  have hl : v.toNat < xs.length := by omega
  exact ⟨xs[v.toNat], idx_of h0 (List.getElem?_eq_getElem hl), List.getElem?_eq_getElem hl⟩
theorem straightP_ok {n : Nat} {L size : Int} {w : List Int} (h : Pot n w) (h1 : 1 ≤ L) (h4 : L ≤ 4) (s0 : 0 ≤ size) (s1 : size ≤ 1000) : ∃ r, P_straight w L size = some r ∧ (r.1.length = size.toNat ∧ (∀ x ∈ r.1, Sok L x) ∧ Gd r.1 ∧ Pot (n + size.toNat) r.2) := by
  unfold P_straight
  refine bndX (rngO_ok (by omega)) ?_
  have hlr : (range' 0 size).length = size.toNat := by rw [rng_len, Int.sub_zero]
  have l8 := stL_len h1 h4
  refine lpX (fun i s => s.1.length = i ∧ (∀ x ∈ s.1, Sok L x) ∧ Gd s.1 ∧ Pot (n + i) s.2) ⟨rfl, (fun _ z => nomatch z), trivial, h⟩ (fun i x s hx hs => ?_) (fun s hs => ⟨_, rfl, by rw [hlr] at hs; exact hs⟩)
  have hi : i < size.toNat := by
    have := (List.getElem?_eq_some_iff.mp hx).1
    omega
  obtain ⟨found, pot⟩ := s
  obtain ⟨g1, g2, g3, g4⟩ := hs
  have g1 : found.length = i := g1
  have g2 : ∀ x ∈ found, Sok L x := g2
  have g3 : Gd found := g3
  have g4 : Pot (n + i) pot := g4
  have menu : ∃ m : List Int, lcG (β := Int) (fun (step8 : Int) => ((if (decide (found = ([] : (List Int)))) = true then some true else ((idx found (-1)).bind fun t10 => some (!decide (step8 = (-t10))))).bind fun t11 => if t11 = true then some (some step8) else some none)) (stL L) = some m ∧ m ≠ [] ∧ m.length ≤ 8 ∧ ∀ x ∈ m, Sok L x ∧ ∀ y, found.getLast? = some y → x ≠ -y := by
    rcases List.eq_nil_or_concat found with rfl | ⟨v, y, hv⟩
    · refine ⟨_, lcG_some (fun x => some x) (by rw [sizeL]; omega) (fun x hx => rfl), ?_, ?_, ?_⟩
      · rw [List.filterMap_some]
        exact fun z => by
          have : (1 : Int) ∈ stL L := mem_stL.mpr ⟨by decide, by omega, by omega⟩
          rw [z] at this
          cases this
      · rw [List.filterMap_some]; exact l8
      · rw [List.filterMap_some]
        exact fun x hx => ⟨mem_stL.mp hx, fun y hy => by cases hy⟩
    · rw [List.concat_eq_append] at hv
      have hy : Sok L y := g2 y (by rw [hv]; simp)
      have hlast : idx found (-1) = some y := idx_last (by rw [hv]; simp)
      have hne : found ≠ [] := by rw [hv]; simp
      refine ⟨_, lcG_some (fun x => if x = -y then none else some x) (by rw [sizeL]; omega) (fun x hx => ?_), ?_, ?_, ?_⟩
      · rw [if_neg (by simpa using hne)]
        refine bindS (bindS hlast rfl) ?_
        by_cases e : x = -y
        · rw [if_pos e, if_neg (by simp [e])]
        · rw [if_neg e, if_pos (by simp [e])]
      · intro z
        have : y ∈ (stL L).filterMap fun x => if x = -y then none else some x := List.mem_filterMap.mpr ⟨y, mem_stL.mpr hy, if_neg (by have := hy.1; omega)⟩
        rw [z] at this
        cases this
      · exact Nat.le_trans (List.length_filterMap_le _ _) l8
      · intro x hx
        obtain ⟨a, ha, hb⟩ := List.mem_filterMap.mp hx
        split at hb
        · cases hb
        · rename_i hne2
          cases hb
          refine ⟨mem_stL.mp ha, fun z hz => ?_⟩
          rw [hv] at hz
          simp at hz
          rw [← hz]
          exact hne2
  obtain ⟨m, em, m1, m2, m3⟩ := menu
  have mp := List.length_pos_iff.mpr m1
  obtain ⟨v, p', ev, v0, v1, kv⟩ := draw_ok g4 (many := (m.length : Int)) (by omega) (by omega)
  obtain ⟨y, ey, my⟩ := idx_mem v0 v1
  refine ⟨(found ++ [y], p'), bindS (steps_ok' h1 h4) (bindS em (bindS ev (bindS ey (bindS (app_ok (by rw [g1, sizeL]; omega)) rfl)))), by show (found ++ [y]).length = _; rw [List.length_append, g1]; rfl, fun z hz => ?_, gd_snoc g3 (m3 y my).2, kv⟩
  rcases List.mem_append.mp hz with hz | hz
  · exact g2 z hz
  · exact List.mem_singleton.mp hz ▸ (m3 y my).1
theorem erase_out {α : Type} {l : List α} {v : Nat} {g : α} (hn : l.Nodup) (h : l[v]? = some g) : g ∉ l.eraseIdx v ∧ (l.eraseIdx v).Nodup ∧ (∀ x ∈ l.eraseIdx v, x ∈ l) ∧ (l.eraseIdx v).length + 1 = l.length := by
  have hv := (List.getElem?_eq_some_iff.mp h).1
  have e : l = l.take v ++ g :: l.drop (v + 1) := by
    have := (List.getElem?_eq_some_iff.mp h).2
    rw [← this, List.getElem_cons_drop, List.take_append_drop]
  have e2 : l.eraseIdx v = l.take v ++ l.drop (v + 1) := List.eraseIdx_eq_take_drop_succ _ _
  refine ⟨?_, hn.sublist (List.eraseIdx_sublist _ _), fun x hx => (List.eraseIdx_sublist _ _).subset hx, ?_⟩
  · rw [e2]
    rw [e, List.nodup_append] at hn
    obtain ⟨_, h2, h3⟩ := hn
    rw [List.nodup_cons] at h2
    intro hm
    rcases List.mem_append.mp hm with hm | hm
    · exact h3 g hm g List.mem_cons_self rfl
    · exact h2.1 hm
  · rw [List.length_eraseIdx_of_lt hv]; omega
theorem popI_ok {α : Type} {xs : List α} {v : Int} (h0 : 0 ≤ v) (h : v < xs.length) (hb : v < 2 ^ 63) : ∃ g, popI xs v = some (g, xs.eraseIdx v.toNat) ∧ xs[v.toNat]? = some g := by
  have hl : v.toNat < xs.length := by omega
  refine ⟨xs[v.toNat], ?_, List.getElem?_eq_getElem hl⟩
  unfold popI
  rw [if_pos (by omega)]
  have : seqIndex? v xs.length = some v.toNat := by
    unfold seqIndex?
    simp
    omega
  rw [this]
  show (xs[v.toNat]?).map _ = _
  rw [List.getElem?_eq_getElem hl]
  rfl
theorem empties {α : Type} {xs : List α} (h : xs.length < sizeLine) : ((lenO xs).bind fun (z : Unit) => mapO (fun (_ : α) => (some ([] : List (Int × Int)) : Option (List (Int × Int)))) xs) = some (List.replicate xs.length []) := by
  refine bindS (a := ()) (if_pos h) ?_
  rw [mapO_some (g := fun _ => ([] : List (Int × Int))) (fun _ _ => rfl), List.map_const']
theorem tables_ok {n : Nat} {L count gaps : Int} {w : List Int} (h : Pot n w) (h1 : 1 ≤ L) (h4 : L ≤ 4) (c0 : 0 ≤ count) (c1 : count ≤ 60) (p0 : 0 ≤ gaps) (p1 : gaps ≤ 100) : ∃ r, P_tables w L count gaps = some r ∧ (Dr L count.toNat r.1 ∧ Pot (n + 1000) r.2) := by
  have hlc : (range' 0 count).length = count.toNat := by rw [rng_len, Int.sub_zero]
  unfold P_tables
  refine bndX (rngO_ok (by omega)) ?_
  have he := empties (xs := range' 0 count) (by rw [hlc, sizeL]; omega)
  rw [hlc] at he
  obtain ⟨_, e1, he⟩ := Option.bind_eq_some_iff.mp he
  refine bndX e1 (bndX he (bndX (rngO_ok (by omega)) ?_))
  have hll : (range' 1 (L + 1)).length = L.toNat := by rw [rng_len]; omega
  refine lpX (fun i s => Dr L count.toNat s.1 ∧ (∀ a t b, 0 ≤ a → go s.1 a t = some b → t.natAbs ≤ i) ∧ Pot (n + 120 * i) s.2) ⟨Dr.nil _ _ rfl, fun a t b _ hg => ?_, h⟩ (fun i x s hx hs => ?_) (fun s hs => ?_)
  · obtain ⟨_, _, _, g⟩ := (Dr.nil L count.toNat (D := List.replicate count.toNat []) rfl).ok a t b (by assumption) hg
    have hr : row (List.replicate count.toNat []) a = [] := by
      unfold row
      rw [List.getD_eq_getElem?_getD, List.getElem?_replicate]
      split <;> rfl
    unfold go at hg
    rw [hr] at hg
    cases hg
  · obtain ⟨D, pot⟩ := s
    obtain ⟨g1, g2, g3⟩ := hs
    have g1 : Dr L count.toNat D := g1
    have g2 : ∀ a t b, 0 ≤ a → go D a t = some b → t.natAbs ≤ i := g2
    have g3 : Pot (n + 120 * i) pot := g3
    obtain ⟨rfl, hi⟩ := rngAt hx
    have hi4 : i < 4 := by omega
    refine bndX (if_pos ⟨by omega, by omega, by omega, by omega, by omega⟩) (bndX (rngO_ok (by omega)) ?_)
    refine lpX (fun r s => Dr L count.toNat s.2.1 ∧ (∀ a t b, 0 ≤ a → go s.2.1 a t = some b → t.natAbs ≤ i + 1) ∧ (∀ a b, 0 ≤ a → go s.2.1 a (1 + i) = some b → a < r ∧ b ∉ s.1) ∧ s.1.Nodup ∧ (∀ x ∈ s.1, 0 ≤ x ∧ x < count) ∧ s.1.length + r = count.toNat ∧ Pot (n + 120 * i + 2 * r) s.2.2)
      ⟨g1, fun a t b ha hg => Nat.le_succ_of_le (g2 a t b ha hg), fun a b ha hg => ?_, ?_, fun x hx => mem_rng hx, hlc, g3⟩ (fun r x s hx hs => ?_) (fun s hs => ⟨_, rfl, hs.1, hs.2.1, ?_⟩)
    · have := g2 a _ b ha hg
      omega
    · unfold range'
      refine List.Pairwise.map _ (fun a b hab => ?_) List.nodup_range
      show 0 + (a : Int) ≠ 0 + (b : Int)
      omega
    · obtain ⟨left, E, q⟩ := s
      obtain ⟨k1, k2, k3, k4, k5, k6, k7⟩ := hs
      have k1 : Dr L count.toNat E := k1
      have k2 : ∀ a t b, 0 ≤ a → go E a t = some b → t.natAbs ≤ i + 1 := k2
      have k3 : ∀ a b, 0 ≤ a → go E a (1 + i) = some b → a < r ∧ b ∉ left := k3
      have k4 : left.Nodup := k4
      have k5 : ∀ x ∈ left, 0 ≤ x ∧ x < count := k5
      have k6 : left.length + r = count.toNat := k6
      have k7 : Pot (n + 120 * i + 2 * r) q := k7
      obtain ⟨rfl, hr⟩ := rngAt hx
      have hr' : r < count.toNat := by omega
      have er : (0 : Int) + (r : Int) = (r : Int) := Int.zero_add _
      rw [er]
      obtain ⟨v, q2, e2, v0, v1, kq⟩ := draw_ok k7 (many := (left.length : Int)) (by omega) (by omega)
      obtain ⟨g, e3, hg⟩ := popI_ok v0 v1 (by omega)
      obtain ⟨o1, o2, o3, o4⟩ := erase_out k4 hg
      have gm : g ∈ left := List.mem_of_getElem? hg
      have gb := k5 g gm
      generalize left.eraseIdx v.toNat = left2 at e3 o1 o2 o3 o4
      obtain ⟨b, q3, e4, kq3⟩ : ∃ b q3, (if (decide (gaps = 0)) = true then some (true, q2) else ((P_draw q2 gaps).bind fun t22 => some ((decide (0 < t22.1)), t22.2)) : Option (Bool × List Int)) = some (b, q3) ∧ Pot (n + 120 * i + 2 * (r + 1)) q3 := by
        by_cases hz : gaps = 0
        · exact ⟨true, q2, if_pos (decide_eq_true hz), kq.mono (by omega)⟩
        · obtain ⟨u, q3, e5, _, _, kq3⟩ := draw_ok kq (many := gaps) (by omega) (by omega)
          exact ⟨_, q3, (if_neg (by simpa using hz)).trans (bindS e5 rfl), kq3.mono (by omega)⟩
      have f1 : go E r (1 + i) = none := by
        cases hgo : go E r (1 + i) with
        | none => rfl
        | some y => exact absurd (k3 r y (by omega) hgo).1 (by omega)
      have f2 : go E g (-(1 + (i : Int))) = none := by
        cases hgo : go E g (-(1 + (i : Int))) with
        | none => rfl
        | some y =>
          obtain ⟨y0, y1, _, hb⟩ := k1.ok g _ y gb.1 hgo
          rw [Int.neg_neg] at hb
          exact absurd gm (k3 y g y0 hb).2
      have hs : Sok L (1 + (i : Int)) := ⟨by omega, by omega, by omega⟩
      have hbr : ∃ E2, (if b = true then ((idx E (r : Int)).bind fun t24 => (dPutO t24 (1 + (i : Int)) g).bind fun t25 => ((idx (setI E (r : Int) t25) g).bind fun t26 => (dPutO t26 (-(1 + (i : Int))) (r : Int)).bind fun t27 => some (setI (setI E (r : Int) t25) g t27))) else some E : Option Dd) = some E2 ∧ Dr L count.toNat E2 ∧ (∀ a t b, 0 ≤ a → go E2 a t = some b → t.natAbs ≤ i + 1) ∧ (∀ a b, 0 ≤ a → go E2 a (1 + i) = some b → a < (r : Int) + 1 ∧ b ∉ left2) := by
        cases b with
        | false =>
          refine ⟨E, if_neg (by simp), k1, k2, fun a b ha hgo => ?_⟩
          obtain ⟨z1, z2⟩ := k3 a b ha hgo
          exact ⟨by omega, fun z => z2 (o3 b z)⟩
        | true =>
          have a1' : (r : Int) < E.length := by rw [k1.len]; omega
          have b1' : g < E.length := by rw [k1.len]; omega
          refine ⟨_, (if_pos rfl).trans (put_run k1 h4 (by omega) (by omega) gb.1 (by omega) rfl), k1.put (by omega) (by omega) gb.1 (by omega) hs f1 f2, fun a t b ha hgo => ?_, fun a b ha hgo => ?_⟩
          · rw [go_put (by omega) a1' gb.1 b1' hs.1 ha] at hgo
            split at hgo
            · rename_i z; rw [z.2]; omega
            · split at hgo
              · rename_i z; rw [z.2]; omega
              · exact k2 a t b ha hgo
          · rw [go_put (by omega) a1' gb.1 b1' hs.1 ha] at hgo
            split at hgo
            · rename_i z; omega
            · split at hgo
              · rename_i z
                cases hgo
                exact ⟨by omega, o1⟩
              · obtain ⟨z1, z2⟩ := k3 a b ha hgo
                exact ⟨by omega, fun z => z2 (o3 b z)⟩
      obtain ⟨E2, e5, j1, j2, j3⟩ := hbr
      refine ⟨(left2, E2, q3), bindS e2 (bindS e3 (bindS e4 (bindS e5 rfl))), j1, j2, fun a b ha hgo => ?_, o2, fun x hx => k5 x (o3 x hx), by show left2.length + (r + 1) = _; omega, kq3⟩
      obtain ⟨z1, z2⟩ := j3 a b ha hgo
      exact ⟨by omega, z2⟩
    · have := hs.2.2.2.2.2.2
      rw [hlc] at this
      exact this.mono (by omega)
  · refine ⟨_, rfl, hs.1, ?_⟩
    have := hs.2.2
    rw [hll] at this
    exact this.mono (by omega)
end Z
namespace Z
open PySem PySem.Spec L2
theorem small_of {d : List (Int × Int)} (hn : (d.map Prod.fst).Nodup) (h : ∀ k v, dGet d k = some v → Sok 4 k) : d.length ≤ 8 := by
  have := nodup_le (d.map Prod.fst) [1, -1, 2, -2, 3, -3, 4, (-4 : Int)] hn fun k hk => by
    obtain ⟨v, hv⟩ := Option.isSome_iff_exists.mp (dGet_key_mem.mpr hk)
    exact eightL _ (h k v hv)
  rw [List.length_map] at this
  exact this
theorem go_set {D : Dd} {a x t : Int} {d : List (Int × Int)} (a0 : 0 ≤ a) (a1 : a < D.length) (hx : 0 ≤ x) : go (setI D a d) x t = if a = x then dGet d t else go D x t := by
  unfold go
  rw [row_set a0 a1 hx]
  split <;> rfl
/-- ways laid there and back -/
def WyR (L c : Int) (W : List (Tri Int Int Int)) : Prop := ∀ t ∈ W, 0 ≤ t.a ∧ t.a < c ∧ 0 ≤ t.c ∧ t.c < c ∧ Sok L t.b ∧ Tri.mk t.c (-t.b) t.a ∈ W
theorem WyR.mono {L c d : Int} {W : List (Tri Int Int Int)} (h : WyR L c W) (hc : c ≤ d) : WyR L d W := fun t ht => by
  obtain ⟨a, b, e, f, g, i⟩ := h t ht
  exact ⟨a, by omega, e, by omega, g, i⟩
theorem WyR.app {L c : Int} {W : List (Tri Int Int Int)} (h : WyR L c W) {a s b : Int} (a0 : 0 ≤ a) (a1 : a < c) (b0 : 0 ≤ b) (b1 : b < c) (hs : Sok L s) : WyR L c (W ++ [Tri.mk a s b] ++ [Tri.mk b (-s) a]) := fun t ht => by
  rcases List.mem_append.mp ht with ht | ht
  · rcases List.mem_append.mp ht with ht | ht
    · obtain ⟨h1, h2, h3, h4, h5, h6⟩ := h t ht
      exact ⟨h1, h2, h3, h4, h5, List.mem_append_left _ (List.mem_append_left _ h6)⟩
    · rw [List.mem_singleton.mp ht]
      exact ⟨a0, a1, b0, b1, hs, List.mem_append_right _ (List.mem_singleton.mpr rfl)⟩
  · rw [List.mem_singleton.mp ht]
    refine ⟨b0, b1, a0, a1, hs.neg, List.mem_append_left _ (List.mem_append_right _ ?_)⟩
    show Tri.mk a (- -s) b ∈ _
    rw [Int.neg_neg]
    exact List.mem_singleton.mpr rfl
def waysP (walks : List (List Int)) : Option (Int × List (Tri Int Int Int)) :=
  (lp (fun (s2 : (Int × (List (Tri Int Int Int)))) (walk3 : (List Int)) => ((rngO 0 ((walk3.length : Int) - 1)).bind fun t7 => (lcT (fun (k_8 : Int) => (s2.1 + k_8)) t7).bind fun t10 => (catO (α := Int) ([0]) t10).bind fun t11 => (catO (α := Int) t11 ([0])).bind fun t12 => ((rngO 0 (walk3.length : Int)).bind fun t13 => ((lp (fun (s14 : (List (Tri Int Int Int))) (k_15 : Int) => ((idx t12 k_15).bind fun t19 => (idx walk3 k_15).bind fun t20 => (idx t12 (k_15 + 1)).bind fun t21 => (appO s14 (Tri.mk t19 t20 t21)).bind fun t22 => ((idx t12 (k_15 + 1)).bind fun t23 => (idx walk3 k_15).bind fun t24 => (idx t12 k_15).bind fun t25 => (appO t22 (Tri.mk t23 (-t24) t25)).bind fun t26 => some t26))) t13 s2.2).bind fun f16 => some (((s2.1 + (walk3.length : Int)) - 1), f16))))) walks (1, ([] : (List (Tri Int Int Int)))))
theorem waysP_ok {L : Int} {walks : List (List Int)} (hw : ∀ u ∈ walks, 1 ≤ u.length ∧ u.length ≤ 60 ∧ ∀ x ∈ u, Sok L x) (hn : walks.length ≤ 20) : ∃ r, waysP walks = some r ∧ (WyR L r.1 r.2 ∧ 1 ≤ r.1 ∧ r.1 ≤ 1 + 60 * walks.length ∧ r.2.length ≤ 120 * walks.length ∧ r.1 + (walks.length : Int) = 1 + ((walks.map List.length).sum : Nat)) := by
  unfold waysP
  have := lp_goN (xs := walks) (f := (fun (s2 : (Int × (List (Tri Int Int Int)))) (walk3 : (List Int)) => ((rngO 0 ((walk3.length : Int) - 1)).bind fun t7 => (lcT (fun (k_8 : Int) => (s2.1 + k_8)) t7).bind fun t10 => (catO (α := Int) ([0]) t10).bind fun t11 => (catO (α := Int) t11 ([0])).bind fun t12 => ((rngO 0 (walk3.length : Int)).bind fun t13 => ((lp (fun (s14 : (List (Tri Int Int Int))) (k_15 : Int) => ((idx t12 k_15).bind fun t19 => (idx walk3 k_15).bind fun t20 => (idx t12 (k_15 + 1)).bind fun t21 => (appO s14 (Tri.mk t19 t20 t21)).bind fun t22 => ((idx t12 (k_15 + 1)).bind fun t23 => (idx walk3 k_15).bind fun t24 => (idx t12 k_15).bind fun t25 => (appO t22 (Tri.mk t23 (-t24) t25)).bind fun t26 => some t26))) t13 s2.2).bind fun f16 => some (((s2.1 + (walk3.length : Int)) - 1), f16))))))
    (fun i s => WyR L s.1 s.2 ∧ 1 ≤ s.1 ∧ s.1 ≤ 1 + 60 * (i : Int) ∧ s.2.length ≤ 120 * i ∧ s.1 + (i : Int) = 1 + (((walks.take i).map List.length).sum : Nat)) (fun i u s hx hs => by
      have hi : i < walks.length := (List.getElem?_eq_some_iff.mp hx).1
      obtain ⟨c, W⟩ := s
      obtain ⟨g1, g2, g3, g4, g5⟩ := hs
      have g5 : c + (i : Int) = 1 + (((walks.take i).map List.length).sum : Nat) := g5
      have g1 : WyR L c W := g1
      have g2 : 1 ≤ c := g2
      have g3 : c ≤ 1 + 60 * (i : Int) := g3
      have g4 : W.length ≤ 120 * i := g4
      obtain ⟨u1, u2, u3⟩ := hw u (List.mem_of_getElem? hx)
      have hlr : (range' 0 ((u.length : Int) - 1)).length = u.length - 1 := by rw [rng_len]; omega
      generalize hR : [0] ++ (range' 0 ((u.length : Int) - 1)).map (fun k => c + k) ++ [(0 : Int)] = R
      have Rl : R.length = u.length + 1 := by
        rw [← hR, List.length_append, List.length_append, List.length_map, hlr]
        show 1 + (u.length - 1) + 1 = _
        omega
      have Rm : ∀ x ∈ R, 0 ≤ x ∧ x < c + u.length - 1 := fun x hx => by
        rw [← hR] at hx
        rcases List.mem_append.mp hx with hx | hx
        · rcases List.mem_append.mp hx with hx | hx
          · rw [List.mem_singleton.mp hx]; omega
          · obtain ⟨k, hk, rfl⟩ := List.mem_map.mp hx
            have := mem_rng hk
            omega
        · rw [List.mem_singleton.mp hx]; omega
      refine bndX (rngO_ok (by omega)) (bndX (lcT_some _ (by rw [hlr, sizeL]; omega)) (bndX (cat_ok (by rw [List.length_map, hlr, sizeL]; show 1 + _ ≤ _; omega)) (bndX (cat_ok (by rw [List.length_append, List.length_map, hlr, sizeL]; show 1 + _ + 1 ≤ _; omega)) (bndX (rngO_ok (by omega)) ?_))))
      rw [hR]
      have hlu : (range' 0 (u.length : Int)).length = u.length := by rw [rng_len]; omega
      refine lpX (fun k (W' : List (Tri Int Int Int)) => WyR L (c + u.length - 1) W' ∧ W'.length = W.length + 2 * k) ⟨g1.mono (by omega), rfl⟩ (fun k x W' hx hs => ?_) (fun W' hs => ⟨_, rfl, ?_⟩)
      · obtain ⟨rfl, hk⟩ := rngAt hx
        have ek : (0 : Int) + (k : Int) = (k : Int) := Int.zero_add _
        rw [ek]
        have hk' : k < u.length := by omega
        obtain ⟨x1, e1, m1⟩ := idx_mem (xs := R) (i := (k : Int)) (by omega) (by omega)
        obtain ⟨x2, e2, m2⟩ := idx_mem (xs := R) (i := (k : Int) + 1) (by omega) (by omega)
        obtain ⟨t, e3, m3⟩ := idx_mem (xs := u) (i := (k : Int)) (by omega) (by omega)
        have b1 := Rm x1 m1
        have b2 := Rm x2 m2
        refine ⟨_, bindS e1 (bindS e3 (bindS e2 (bindS (app_ok (by rw [hs.2, sizeL]; omega)) (bindS e2 (bindS e3 (bindS e1 (bindS (app_ok (by rw [List.length_append, hs.2, sizeL]; show _ + 1 < _; omega)) rfl))))))), hs.1.app b1.1 b1.2 b2.1 b2.2 (u3 t m3), ?_⟩
        rw [List.length_append, List.length_append, hs.2]
        show W.length + 2 * k + 1 + 1 = _
        omega
      · obtain ⟨h1, h2⟩ := hs
        rw [hlu] at h2
        refine ⟨h1, ?_, ?_, ?_, ?_⟩
        · show 1 ≤ c + (u.length : Int) - 1
          omega
        · show c + (u.length : Int) - 1 ≤ 1 + 60 * ((i + 1 : Nat) : Int)
          omega
        · show W'.length ≤ 120 * (i + 1)
          omega
        · have ht : (walks.take (i + 1)).map List.length = (walks.take i).map List.length ++ [u.length] := by
            rw [List.take_add_one, hx, List.map_append]
            rfl
          show c + (u.length : Int) - 1 + ((i + 1 : Nat) : Int) = _
          rw [ht, List.sum_append]
          show _ = 1 + ((((walks.take i).map List.length).sum + (u.length + 0) : Nat) : Int)
          omega) (s0 := (1, [])) ⟨(fun _ z => nomatch z), by decide, by decide, by decide, rfl⟩
  obtain ⟨s, e, h1, h2, h3, h4, h5⟩ := this
  rw [List.take_length] at h5
  exact ⟨s, e, h1, h2, h3, h4, h5⟩
def turnP (c : Int) (W : List (Tri Int Int Int)) (h : List Int) : Option (List Int × Dd) :=
  ((rngO 0 c).bind fun t39 => (lenO t39).bind fun z41 => (mapO (fun (room40 : Int) => (some ([] : (List (Int × Int))) : Option (List (Int × Int)))) t39).bind fun t43 => ((lp (fun (s45 : ((List Int) × (List (List (Int × Int))))) (x46 : (Tri Int Int Int)) => ((idx s45.1 x46.a).bind fun t50 => (idx s45.1 x46.c).bind fun t51 => ((idx s45.2 t50).bind fun t52 => (dSetO t52 x46.b t51).bind fun t53 => ((if (!decide (t53.1 = t51)) = true then ((lcT (fun (head54 : Int) => (if (decide (head54 = (maxI t53.1 t51))) = true then (minI t53.1 t51) else head54)) s45.1).bind fun t56 => some t56) else some s45.1 : Option (List Int)).bind fun s57 => some (s57, (setI s45.2 t50 t53.2)))))) W (h, t43)).bind fun f47 => some (f47.1, f47.2)))
theorem mm {z y : Int} : (maxI z y = z ∧ minI z y = y ∧ y ≤ z) ∨ (maxI z y = y ∧ minI z y = z ∧ z ≤ y) := by
  unfold maxI minI
  by_cases h : z < y
  · right
    refine ⟨?_, ?_, by omega⟩ <;> (repeat' split) <;> omega
  · left
    refine ⟨?_, ?_, by omega⟩ <;> (repeat' split) <;> omega
/-- what is so within a turn -/
structure TurnI (L : Int) (m k : Nat) (W : List (Tri Int Int Int)) (h0 : List Int) (i : Nat) (s : List Int × Dd) : Prop where
  hl : s.1.length = m
  hb : ∀ x ∈ s.1, 0 ≤ x ∧ x < m
  dl : s.2.length = m
  nd : ∀ d ∈ s.2, (d.map Prod.fst).Nodup
  go : ∀ a t b, 0 ≤ a → go s.2 a t = some b → 0 ≤ b ∧ b < m ∧ Sok L t
  st : (s.1 = h0 ∧ ∀ x t y, 0 ≤ x → (Z.go s.2 x t = some y ↔ ∃ j w, j < i ∧ W[j]? = some w ∧ w.b = t ∧ h0[w.a.toNat]? = some x ∧ h0[w.c.toNat]? = some y)) ∨ ∃ S : List Int, S.length ≤ k ∧ ∀ x ∈ s.1, x ∈ S
theorem turn_step {L : Int} {m k : Nat} {W : List (Tri Int Int Int)} {h0 : List Int} (h4 : L ≤ 4) (hm : m ≤ 2000) (hW : WyR L m W) (hS : ∃ S : List Int, S.length ≤ k + 1 ∧ ∀ x ∈ h0, x ∈ S) {i : Nat} {w : Tri Int Int Int} {h : List Int} {D : Dd} (hw : W[i]? = some w) (I : TurnI L m k W h0 i (h, D)) :
    ∃ s', ((idx h w.a).bind fun t50 => (idx h w.c).bind fun t51 => ((idx D t50).bind fun t52 => (dSetO t52 w.b t51).bind fun t53 => ((if (!decide (t53.1 = t51)) = true then ((lcT (fun (head54 : Int) => (if (decide (head54 = (maxI t53.1 t51))) = true then (minI t53.1 t51) else head54)) h).bind fun t56 => some t56) else some h : Option (List Int)).bind fun s57 => some (s57, (setI D t50 t53.2))))) = some s' ∧ TurnI L m k W h0 (i + 1) s' := by
  obtain ⟨a0, a1, c0, c1, hs, _⟩ := hW w (List.mem_of_getElem? hw)
  have hl : h.length = m := I.hl
  have dl : D.length = m := I.dl
  obtain ⟨x, ex, gx⟩ := idx_get (xs := h) a0 (by omega)
  obtain ⟨y, ey, gy⟩ := idx_get (xs := h) c0 (by omega)
  have bx := I.hb x (List.mem_of_getElem? gx)
  have my : y ∈ h := List.mem_of_getElem? gy
  have by' := I.hb y my
  have x1 : x < D.length := by rw [dl]; exact bx.2
  have er := idx_row bx.1 x1
  have rnd : ((row D x).map Prod.fst).Nodup := I.nd _ (row_mem bx.1 x1)
  have rsm : (row D x).length ≤ 8 := small_of rnd fun t v hv => ((I.go x t v bx.1 hv).2.2).mono h4
  cases hg : dGet (row D x) w.b with
  | none =>
    have ed : dSetO (row D x) w.b y = some (y, dPut (row D x) w.b y) := by
      unfold dSetO
      rw [if_pos (by rw [sizeL]; omega), hg]
    refine ⟨(h, setI D x (dPut (row D x) w.b y)), bindS ex (bindS ey (bindS er (bindS ed (bindS (a := h) (if_neg (by simp)) rfl)))), ?_⟩
    have gs : ∀ X t, 0 ≤ X → go (setI D x (dPut (row D x) w.b y)) X t = if X = x ∧ t = w.b then some y else go D X t := fun X t hX => by
      rw [go_set bx.1 x1 hX]
      by_cases e : x = X
      · subst e
        rw [if_pos rfl, dGet_put]
        by_cases e2 : w.b = t
        · rw [if_pos e2, if_pos ⟨rfl, e2.symm⟩]
        · rw [if_neg e2, if_neg (fun z => e2 z.2.symm)]
          rfl
      · rw [if_neg e, if_neg (fun z => e z.1.symm)]
    refine ⟨hl, I.hb, by show (setI _ _ _).length = m; rw [setI_len]; exact dl, fun d hd => ?_, fun a t b ha hgo => ?_, ?_⟩
    · rcases List.mem_or_eq_of_mem_set hd with hd | rfl
      · exact I.nd d hd
      · exact dPut_nd rnd _ _
    · have hgo : go (setI D x (dPut (row D x) w.b y)) a t = some b := hgo
      rw [gs a t ha] at hgo
      split at hgo
      · rename_i z
        cases hgo
        exact ⟨by'.1, by'.2, by rw [z.2]; exact hs⟩
      · exact I.go a t b ha hgo
    · rcases I.st with ⟨q1, q2⟩ | q
      · have q1 : h = h0 := q1
        subst q1
        refine .inl ⟨rfl, fun X t Y hX => ?_⟩
        show go (setI D x (dPut (row D x) w.b y)) X t = some Y ↔ _
        rw [gs X t hX]
        constructor
        · intro hgo
          split at hgo
          · rename_i z
            cases hgo
            exact ⟨i, w, Nat.lt_succ_self i, hw, z.2.symm, by rw [z.1]; exact gx, gy⟩
          · obtain ⟨j, v, hj, r⟩ := (q2 X t Y hX).mp hgo
            exact ⟨j, v, by omega, r⟩
        · rintro ⟨j, v, hj, hv, r1, r2, r3⟩
          by_cases e : j = i
          · subst e
            rw [hw] at hv
            cases hv
            rw [gx] at r2
            rw [gy] at r3
            cases r2
            cases r3
            rw [if_pos ⟨rfl, r1.symm⟩]
          · have := (q2 X t Y hX).mpr ⟨j, v, by omega, hv, r1, r2, r3⟩
            have this : go D X t = some Y := this
            rw [if_neg, this]
            rintro ⟨rfl, rfl⟩
            unfold go at this
            rw [hg] at this
            cases this
      · exact .inr q
  | some z =>
    have hgo : go D x w.b = some z := hg
    have ed : dSetO (row D x) w.b y = some (z, row D x) := by
      unfold dSetO
      rw [if_pos (by rw [sizeL]; omega), hg]
    have gs : ∀ X t, 0 ≤ X → go (setI D x (row D x)) X t = go D X t := fun X t hX => by
      rw [go_set bx.1 x1 hX]
      by_cases e : x = X
      · subst e; rw [if_pos rfl]; rfl
      · rw [if_neg e]
    have nd2 : ∀ d ∈ setI D x (row D x), (d.map Prod.fst).Nodup := fun d hd => by
      rcases List.mem_or_eq_of_mem_set hd with hd | rfl
      · exact I.nd d hd
      · exact rnd
    have dl2 : (setI D x (row D x)).length = m := by rw [setI_len]; exact dl
    have go2 : ∀ a t b, 0 ≤ a → go (setI D x (row D x)) a t = some b → 0 ≤ b ∧ b < m ∧ Sok L t := fun a t b ha hh => I.go a t b ha (by rw [gs a t ha] at hh; exact hh)
    have bz := I.go x _ z bx.1 hgo
    by_cases hzy : z = y
    · subst hzy
      refine ⟨(h, setI D x (row D x)), bindS ex (bindS ey (bindS er (bindS ed (bindS (a := h) (if_neg (by simp)) rfl)))), hl, I.hb, dl2, nd2, go2, ?_⟩
      rcases I.st with ⟨q1, q2⟩ | q
      · have q1 : h = h0 := q1
        subst q1
        refine .inl ⟨rfl, fun X t Y hX => ?_⟩
        show go (setI D x (row D x)) X t = some Y ↔ _
        rw [gs X t hX]
        constructor
        · intro hh
          obtain ⟨j, v, hj, r⟩ := (q2 X t Y hX).mp hh
          exact ⟨j, v, by omega, r⟩
        · rintro ⟨j, v, hj, hv, r1, r2, r3⟩
          by_cases e : j = i
          · subst e
            rw [hw] at hv
            cases hv
            rw [gx] at r2
            rw [gy] at r3
            cases r2
            cases r3
            rw [← r1]
            exact hgo
          · exact (q2 X t Y hX).mpr ⟨j, v, by omega, hv, r1, r2, r3⟩
      · exact .inr q
    · have hlo : 0 ≤ minI z y ∧ minI z y < m := by
        rcases mm (z := z) (y := y) with ⟨_, e, _⟩ | ⟨_, e, _⟩ <;> rw [e]
        · exact by'
        · exact ⟨bz.1, bz.2.1⟩
      refine ⟨(h.map (fun (head54 : Int) => (if (decide (head54 = (maxI z y))) = true then (minI z y) else head54)), setI D x (row D x)), bindS ex (bindS ey (bindS er (bindS ed (bindS ((if_pos (by simp [hzy])).trans (bindS (lcT_some _ (by rw [hl, sizeL]; omega)) rfl)) rfl)))), ?_, ?_, dl2, nd2, go2, .inr ?_⟩
      · show (h.map _).length = m
        rw [List.length_map]; exact hl
      · intro v hv
        obtain ⟨u, hu, rfl⟩ := List.mem_map.mp hv
        by_cases e : u = maxI z y
        · rw [if_pos (decide_eq_true e)]; exact hlo
        · rw [if_neg (by simpa using e)]; exact I.hb u hu
      · rcases I.st with ⟨q1, q2⟩ | ⟨S, q1, q2⟩
        · have q1 : h = h0 := q1
          subst q1
          obtain ⟨j, v, _, _, _, _, r3⟩ := (q2 x _ z bx.1).mp hgo
          have mz : z ∈ h := List.mem_of_getElem? r3
          obtain ⟨S, s1, s2⟩ := hS
          have mhi : maxI z y ∈ S := by
            rcases mm (z := z) (y := y) with ⟨e, _, _⟩ | ⟨e, _, _⟩ <;> rw [e]
            · exact s2 z mz
            · exact s2 y my
          have mlo : minI z y ∈ S := by
            rcases mm (z := z) (y := y) with ⟨_, e, _⟩ | ⟨_, e, _⟩ <;> rw [e]
            · exact s2 y my
            · exact s2 z mz
          have hne : minI z y ≠ maxI z y := by
            rcases mm (z := z) (y := y) with ⟨e1, e2, _⟩ | ⟨e1, e2, _⟩ <;> rw [e1, e2]
            · exact fun e => hzy e.symm
            · exact hzy
          refine ⟨S.erase (maxI z y), ?_, fun v hv => ?_⟩
          · rw [List.length_erase_of_mem mhi]
            omega
          · obtain ⟨u, hu, rfl⟩ := List.mem_map.mp hv
            by_cases e : u = maxI z y
            · rw [if_pos (decide_eq_true e)]; exact (List.mem_erase_of_ne hne).mpr mlo
            · rw [if_neg (by simpa using e)]; exact (List.mem_erase_of_ne e).mpr (s2 u hu)
        · refine ⟨S.map (fun (head54 : Int) => (if (decide (head54 = (maxI z y))) = true then (minI z y) else head54)), by rw [List.length_map]; exact q1, fun v hv => ?_⟩
          obtain ⟨u, hu, rfl⟩ := List.mem_map.mp hv
          exact List.mem_map.mpr ⟨u, q2 u hu, rfl⟩
theorem turn_ok {L : Int} {m k : Nat} {W : List (Tri Int Int Int)} {h0 : List Int} (h4 : L ≤ 4) (hm : m ≤ 2000) (hm0 : 0 < m) (hW : WyR L m W) (hl : h0.length = m) (hb : ∀ x ∈ h0, 0 ≤ x ∧ x < m) (hS : ∃ S : List Int, S.length ≤ k + 1 ∧ ∀ x ∈ h0, x ∈ S) :
    ∃ s', turnP m W h0 = some s' ∧ ((s'.1 = h0 ∧ Dr L m s'.2) ∨ (s'.1.length = m ∧ (∀ x ∈ s'.1, 0 ≤ x ∧ x < m) ∧ ∃ S : List Int, S.length ≤ k ∧ ∀ x ∈ s'.1, x ∈ S)) := by
  unfold turnP
  have hlc : (range' 0 (m : Int)).length = m := by rw [rng_len]; omega
  have he := empties (xs := range' 0 (m : Int)) (by rw [hlc, sizeL]; omega)
  rw [hlc] at he
  obtain ⟨_, e1, he⟩ := Option.bind_eq_some_iff.mp he
  refine bndX (rngO_ok (by omega)) (bndX e1 (bndX he ?_))
  have D0 := Dr.nil L m (D := List.replicate m []) rfl
  have z0 : ∀ a t, go (List.replicate m []) a t = none := fun a t => by
    unfold go row
    rw [List.getD_eq_getElem?_getD, List.getElem?_replicate]
    split <;> rfl
  refine lpX (fun i s => TurnI L m k W h0 i s) ⟨hl, hb, D0.len, D0.nd, fun a t b _ hg => ?_, .inl ⟨rfl, fun x t y _ => ?_⟩⟩ (fun i w s hw I => turn_step h4 hm hW hS hw I) (fun s I => ⟨_, rfl, ?_⟩)
  · have hg : go (List.replicate m []) a t = some b := hg
    rw [z0] at hg
    cases hg
  · show go (List.replicate m []) x t = some y ↔ _
    rw [z0]
    constructor
    · intro h; cases h
    · rintro ⟨j, _, hj, _⟩
      exact absurd hj (Nat.not_lt_zero _)
  · obtain ⟨h, D⟩ := s
    rcases I.st with ⟨q1, q2⟩ | q
    · refine .inl ⟨q1, I.dl, I.nd, fun a t b ha hgo => ?_⟩
      obtain ⟨b0, b1, hs⟩ := I.go a t b ha hgo
      refine ⟨b0, b1, hs, ?_⟩
      obtain ⟨j, w, _, hw, r1, r2, r3⟩ := (q2 a t b ha).mp hgo
      obtain ⟨_, _, _, _, _, hr⟩ := hW w (List.mem_of_getElem? hw)
      obtain ⟨j', hj'⟩ := List.mem_iff_getElem?.mp hr
      exact (q2 b (-t) a b0).mpr ⟨j', _, (List.getElem?_eq_some_iff.mp hj').1, hj', by rw [← r1], r3, r2⟩
    · exact .inr ⟨I.hl, I.hb, q⟩
theorem rings_ok {L : Int} {walks : List (List Int)} (h4 : L ≤ 4) (hw : ∀ u ∈ walks, 1 ≤ u.length ∧ u.length ≤ 60 ∧ ∀ x ∈ u, Sok L x) (hn : walks.length ≤ 20) : ∃ r, P_rings walks = some r ∧ ∃ m, 1 ≤ m ∧ m ≤ 1 + 60 * walks.length ∧ Dr L m r ∧ m + walks.length = 1 + (walks.map List.length).sum := by
  obtain ⟨⟨c, W⟩, e1, w1, w2, w3, w4, w5⟩ := waysP_ok hw hn
  have w5 : c + (walks.length : Int) = 1 + ((walks.map List.length).sum : Nat) := w5
  have w1 : WyR L c W := w1
  have w2 : 1 ≤ c := w2
  have w3 : c ≤ 1 + 60 * (walks.length : Int) := w3
  obtain ⟨m, rfl⟩ : ∃ m : Nat, c = m := ⟨c.toNat, by omega⟩
  have hm : 1 ≤ m ∧ m ≤ 1 + 60 * walks.length := by omega
  unfold P_rings
  refine bndX e1 (bndX (a := range' 0 (m : Int)) (if_pos ⟨by omega, by omega, by omega, by omega, by omega⟩) (bndX (rngO_ok (by omega)) ?_))
  have hlc : (range' 0 (m : Int)).length = m := by rw [rng_len]; omega
  obtain ⟨s, e2, q⟩ := settle (f := fun (s : List Int × Dd) (_ : Int) => turnP m W s.1) (fun k s => s.1.length = m ∧ (∀ x ∈ s.1, 0 ≤ x ∧ x < m) ∧ ∃ S : List Int, S.length ≤ k + 1 ∧ ∀ x ∈ s.1, x ∈ S) (fun s => Dr L m s.2) (fun k s hp => by
    obtain ⟨p1, p2, p3⟩ := hp
    obtain ⟨s', e, h⟩ := turn_ok h4 (by omega) hm.1 w1 p1 p2 p3
    refine ⟨s', fun _ => e, ?_⟩
    rcases h with ⟨h1, h2⟩ | ⟨h1, h2, S, h3, h5⟩
    · exact .inl ⟨fun _ => by rw [h1]; exact e, h2⟩
    · refine .inr ?_
      cases hk : k with
      | zero =>
        rw [hk] at h3
        have hz : S = [] := List.eq_nil_of_length_eq_zero (by omega)
        have hlen : 0 < s'.1.length := by rw [h1]; exact hm.1
        have := h5 _ (List.getElem_mem hlen)
        rw [hz] at this
        cases this
      | succ k' =>
        rw [hk] at h3
        exact ⟨k', Nat.lt_succ_self _, h1, h2, S, h3, h5⟩) (range' 0 (m : Int)) (m - 1) (range' 0 (m : Int), []) ⟨hlc, fun x hx => mem_rng hx, range' 0 (m : Int), by rw [hlc]; omega, fun x hx => hx⟩ (by rw [hlc]; omega)
  exact bndX e2 ⟨_, rfl, m, hm.1, hm.2, q, by omega⟩
end Z
namespace Z
open PySem PySem.Spec L2
def vis (o : List Int) (g : Int) : List Int := if g ∈ o then o else o ++ [g]
def visA (o gs : List Int) : List Int := gs.foldl vis o
def ord (nb : Int → List Int) : Nat → List Int
  | 0 => [0]
  | i + 1 => match (ord nb i)[i]? with
    | some a => visA (ord nb i) (nb a)
    | none => ord nb i
def nbr (L : Int) (D : Dd) (a : Int) : List Int := (stL L).filterMap (go D a)
theorem visA_cons (o : List Int) (g : Int) (gs : List Int) : visA o (g :: gs) = visA (vis o g) gs := rfl
theorem vis_ext (o : List Int) (g : Int) : ∃ t, vis o g = o ++ t := by
  unfold vis
  split
  · exact ⟨[], (List.append_nil _).symm⟩
  · exact ⟨_, rfl⟩
theorem visA_ext : ∀ (gs o : List Int), ∃ t, visA o gs = o ++ t
  | [], o => ⟨[], (List.append_nil _).symm⟩
  | g :: gs, o => by
    obtain ⟨t1, e1⟩ := vis_ext o g
    obtain ⟨t2, e2⟩ := visA_ext gs (vis o g)
    exact ⟨t1 ++ t2, by rw [visA_cons, e2, e1, List.append_assoc]⟩
theorem vis_mem {o : List Int} {g x : Int} : x ∈ vis o g ↔ x ∈ o ∨ x = g := by
  unfold vis
  split
  · rename_i h
    exact ⟨.inl, fun z => z.elim id fun e => e ▸ h⟩
  · rw [List.mem_append, List.mem_singleton]
theorem visA_mem {x : Int} : ∀ {gs o : List Int}, x ∈ visA o gs ↔ x ∈ o ∨ x ∈ gs
  | [], o => by show x ∈ o ↔ _; simp
  | g :: gs, o => by
    rw [visA_cons, visA_mem, vis_mem, List.mem_cons]
    constructor
    · rintro ((h | h) | h)
      · exact .inl h
      · exact .inr (.inl h)
      · exact .inr (.inr h)
    · rintro (h | h | h)
      · exact .inl (.inl h)
      · exact .inl (.inr h)
      · exact .inr h
theorem vis_nd {o : List Int} (h : o.Nodup) (g : Int) : (vis o g).Nodup := by
  unfold vis
  split
  · exact h
  · rename_i hg
    rw [List.nodup_append]
    refine ⟨h, by simp, fun a ha b hb => ?_⟩
    rw [List.mem_singleton.mp hb]
    exact fun e => hg (e ▸ ha)
theorem visA_nd : ∀ {gs o : List Int}, o.Nodup → (visA o gs).Nodup
  | [], _, h => h
  | g :: gs, _, h => visA_nd (gs := gs) (vis_nd h g)
section
variable {nb : Int → List Int} {n : Nat} (hn : 1 ≤ n) (hb : ∀ a : Int, 0 ≤ a → a < n → ∀ g ∈ nb a, 0 ≤ g ∧ g < n)
include hn hb
theorem ord_in : ∀ i, (∀ x ∈ ord nb i, 0 ≤ x ∧ x < n) ∧ (ord nb i).Nodup
  | 0 => ⟨fun x hx => by rw [List.mem_singleton.mp hx]; omega, by simp [ord]⟩
  | i + 1 => by
    obtain ⟨h1, h2⟩ := ord_in i
    unfold ord
    cases e : (ord nb i)[i]? with
    | none => exact ⟨h1, h2⟩
    | some a =>
      refine ⟨fun x hx => ?_, visA_nd h2⟩
      rcases visA_mem.mp hx with hx | hx
      · exact h1 x hx
      · obtain ⟨a0, a1⟩ := h1 a (List.mem_of_getElem? e)
        exact hb a a0 a1 x hx
theorem ord_len (i : Nat) : (ord nb i).length ≤ n := by
  obtain ⟨h1, h2⟩ := ord_in hn hb i
  have := nodup_le (ord nb i) (range' 0 (n : Int)) h2 fun x hx => by
    have := h1 x hx
    unfold range'
    exact List.mem_map.mpr ⟨x.toNat, List.mem_range.mpr (by omega), by omega⟩
  rw [rng_len] at this
  omega
end
theorem ord_ext (nb : Int → List Int) (i : Nat) : ∃ t, ord nb (i + 1) = ord nb i ++ t := by
  show ∃ t, (match (ord nb i)[i]? with | some a => visA (ord nb i) (nb a) | none => ord nb i) = ord nb i ++ t
  cases (ord nb i)[i]? with
  | none => exact ⟨[], (List.append_nil _).symm⟩
  | some a => exact visA_ext _ _
theorem ord_pre (nb : Int → List Int) (i : Nat) : ∀ d, ∃ t, ord nb (i + d) = ord nb i ++ t
  | 0 => ⟨[], (List.append_nil _).symm⟩
  | d + 1 => by
    obtain ⟨t1, e1⟩ := ord_pre nb i d
    obtain ⟨t2, e2⟩ := ord_ext nb (i + d)
    exact ⟨t1 ++ t2, by rw [← Nat.add_assoc, e2, e1, List.append_assoc]⟩
theorem ord_done {nb : Int → List Int} {i : Nat} (h : (ord nb i).length ≤ i) : ∀ d, ord nb (i + d) = ord nb i
  | 0 => rfl
  | d + 1 => by
    have ih := ord_done h d
    show (match (ord nb (i + d))[i + d]? with | some a => visA (ord nb (i + d)) (nb a) | none => ord nb (i + d)) = _
    rw [ih, List.getElem?_eq_none_iff.mpr (by omega)]
section
variable {nb : Int → List Int} {n : Nat} (hn : 1 ≤ n) (hb : ∀ a : Int, 0 ≤ a → a < n → ∀ g ∈ nb a, 0 ≤ g ∧ g < n)
include hn hb
theorem ord_end {i : Nat} (hi : i ≤ n) (h : (ord nb i).length ≤ i) : ord nb i = ord nb n := by
  have := ord_done h (n - i)
  rw [show i + (n - i) = n by omega] at this
  exact this.symm
theorem ord_more (d : Nat) : ord nb (n + d) = ord nb n := ord_done (ord_len hn hb n) d
/-- what is at the place i was there when it was come to -/
theorem ord_at {i : Nat} {a : Int} (h : (ord nb n)[i]? = some a) : i < n ∧ (ord nb i)[i]? = some a ∧ ∀ g ∈ nb a, g ∈ ord nb n := by
  have hi := (List.getElem?_eq_some_iff.mp h).1
  have hl := ord_len hn hb n
  have hin : i < n := by omega
  obtain ⟨t, e⟩ := ord_pre nb i (n - i)
  rw [show i + (n - i) = n by omega] at e
  have h2 : (ord nb i)[i]? = some a := by
    by_cases hl2 : i < (ord nb i).length
    · rw [e, List.getElem?_append_left hl2] at h
      exact h
    · have := ord_end hn hb (Nat.le_of_lt hin) (Nat.not_lt.mp hl2)
      rw [← this] at hi
      exact absurd hi hl2
  refine ⟨hin, h2, fun g hg => ?_⟩
  obtain ⟨t, e⟩ := ord_pre nb (i + 1) (n - (i + 1))
  rw [show i + 1 + (n - (i + 1)) = n by omega] at e
  rw [e]
  refine List.mem_append_left _ ?_
  show g ∈ (match (ord nb i)[i]? with | some a => visA (ord nb i) (nb a) | none => ord nb i)
  rw [h2]
  exact visA_mem.mpr (.inr hg)
end
theorem ord_from (nb : Int → List Int) : ∀ i, ∀ x ∈ ord nb i, x = 0 ∨ ∃ a ∈ ord nb i, x ∈ nb a
  | 0, x, hx => .inl (List.mem_singleton.mp hx)
  | i + 1, x, hx => by
    have ih := ord_from nb i
    obtain ⟨t, e⟩ := ord_ext nb i
    have old : x ∈ ord nb i → x = 0 ∨ ∃ a ∈ ord nb (i + 1), x ∈ nb a := fun h => (ih x h).imp id fun ⟨a, ha, hx⟩ => ⟨a, by rw [e]; exact List.mem_append_left _ ha, hx⟩
    have hx' : x ∈ (match (ord nb i)[i]? with | some a => visA (ord nb i) (nb a) | none => ord nb i) := hx
    cases ha : (ord nb i)[i]? with
    | none =>
      rw [ha] at hx'
      exact old hx'
    | some a =>
      rw [ha] at hx'
      rcases visA_mem.mp hx' with h | h
      · exact old h
      · exact .inr ⟨a, by rw [e]; exact List.mem_append_left _ (List.mem_of_getElem? ha), h⟩
theorem ord_head (nb : Int → List Int) : ∀ i, (ord nb i)[0]? = some 0
  | 0 => rfl
  | i + 1 => by
    obtain ⟨t, e⟩ := ord_ext nb i
    have ih := ord_head nb i
    have hl := (List.getElem?_eq_some_iff.mp ih).1
    rw [e, List.getElem?_append_left hl]
    exact ih
section
variable {φ : Int → Int} {m : Nat} (inj : ∀ x y : Int, 0 ≤ x → x < m → 0 ≤ y → y < m → φ x = φ y → x = y)
include inj
theorem vis_map {o : List Int} {g : Int} (ho : ∀ x ∈ o, 0 ≤ x ∧ x < m) (hg : 0 ≤ g ∧ g < m) : vis (o.map φ) (φ g) = (vis o g).map φ := by
  unfold vis
  by_cases h : g ∈ o
  · rw [if_pos h, if_pos (List.mem_map.mpr ⟨g, h, rfl⟩)]
  · rw [if_neg h, if_neg, List.map_append]
    · rfl
    · intro hm
      obtain ⟨y, hy, e⟩ := List.mem_map.mp hm
      have := ho y hy
      exact h (inj y g this.1 this.2 hg.1 hg.2 e ▸ hy)
theorem visA_map : ∀ {gs o : List Int}, (∀ x ∈ o, 0 ≤ x ∧ x < m) → (∀ x ∈ gs, 0 ≤ x ∧ x < m) → visA (o.map φ) (gs.map φ) = (visA o gs).map φ
  | [], _, _, _ => rfl
  | g :: gs, o, ho, hg => by
    rw [List.map_cons, visA_cons, visA_cons, vis_map inj ho (hg g List.mem_cons_self)]
    exact visA_map (fun x hx => (vis_mem.mp hx).elim (ho x) fun e => e ▸ hg g List.mem_cons_self) fun x hx => hg x (List.mem_cons_of_mem _ hx)
theorem ord_map {nb nb' : Int → List Int} (hm : 1 ≤ m) (hb : ∀ a : Int, 0 ≤ a → a < m → ∀ g ∈ nb' a, 0 ≤ g ∧ g < m) (h0 : φ 0 = 0) (hh : ∀ a : Int, 0 ≤ a → a < m → nb (φ a) = (nb' a).map φ) : ∀ i, ord nb i = (ord nb' i).map φ
  | 0 => by show [(0 : Int)] = [φ 0]; rw [h0]
  | i + 1 => by
    have ih := ord_map hm hb h0 hh i
    obtain ⟨h1, _⟩ := ord_in hm hb i
    unfold ord
    rw [ih, List.getElem?_map]
    cases e : (ord nb' i)[i]? with
    | none => rfl
    | some a =>
      obtain ⟨a0, a1⟩ := h1 a (List.mem_of_getElem? e)
      show visA ((ord nb' i).map φ) (nb (φ a)) = _
      rw [hh a a0 a1]
      exact visA_map inj h1 (hb a a0 a1)
theorem map_inj : ∀ {u v : List Int}, (∀ x ∈ u, 0 ≤ x ∧ x < m) → (∀ x ∈ v, 0 ≤ x ∧ x < m) → u.map φ = v.map φ → u = v
  | [], [], _, _, _ => rfl
  | [], _ :: _, _, _, h => by cases h
  | _ :: _, [], _, _, h => by cases h
  | x :: u, y :: v, hu, hv, h => by
    rw [List.map_cons, List.map_cons] at h
    obtain ⟨h1, h2⟩ := List.cons.inj h
    have a := hu x List.mem_cons_self
    have b := hv y List.mem_cons_self
    rw [inj x y a.1 a.2 b.1 b.2 h1, map_inj (fun z hz => hu z (List.mem_cons_of_mem _ hz)) (fun z hz => hv z (List.mem_cons_of_mem _ hz)) h2]
end
theorem row_nil {D : Dd} {a : Int} (h : ∀ t, go D a t = none) : row D a = [] := by
  cases e : row D a with
  | nil => rfl
  | cons p d =>
    have := h p.1
    unfold go at this
    rw [e, dGet_cons, if_pos rfl] at this
    cases this
theorem row_some {D : Dd} {a : Int} (h : row D a ≠ []) : ∃ t b, go D a t = some b := by
  cases e : row D a with
  | nil => exact absurd e h
  | cons p d => exact ⟨p.1, p.2, by unfold go; rw [e, dGet_cons, if_pos rfl]⟩
def trimP (D : Dd) : Option Dd :=
  ((rngO 1 (D.length : Int)).bind fun t12 => ((lp (fun (s13 : (List (List (Int × Int)))) (room14 : Int) => ((idx s13 room14).bind fun t18 => ((if (decide ((t18.length : Int) = 1)) = true then ((idx s13 room14).bind fun t19 => (idx (List.map Prod.fst t19) 0).bind fun t20 => ((idx s13 room14).bind fun t21 => (dPopO t21 t20).bind fun t22 => ((idx (setI s13 room14 t22.2) t22.1).bind fun t23 => (dPopO t23 (-t20)).bind fun t24 => some (setI (setI s13 room14 t22.2) t22.1 t24.2)))) else some s13 : Option (List (List (Int × Int)))).bind fun s25 => some s25))) t12 D).bind fun f15 => some f15))
theorem pop_run {L : Int} {n : Nat} {D : Dd} (h : Dr L n D) {a k b : Int} (a0 : 0 ≤ a) (a1 : a < n) (hr : row D a = [(k, b)]) :
    ((idx D a).bind fun t19 => (idx (List.map Prod.fst t19) 0).bind fun t20 => ((idx D a).bind fun t21 => (dPopO t21 t20).bind fun t22 => ((idx (setI D a t22.2) t22.1).bind fun t23 => (dPopO t23 (-t20)).bind fun t24 => some (setI (setI D a t22.2) t22.1 t24.2)))) = some (delD D a k b) ∧ go D a k = some b ∧ ∀ t, t ≠ k → go D a t = none := by
  have a1' : a < D.length := by rw [h.len]; exact a1
  have g1 : go D a k = some b := by unfold go; rw [hr, dGet_cons, if_pos rfl]
  have g2 : ∀ t, t ≠ k → go D a t = none := fun t ht => by unfold go; rw [hr, dGet_cons, if_neg (fun e => ht e.symm)]; rfl
  obtain ⟨b0, b1, hs, g3⟩ := h.ok a k b a0 g1
  have b1' : b < D.length := by rw [h.len]; exact b1
  refine ⟨?_, g1, g2⟩
  have ei := idx_row a0 a1'
  refine bindS ei (bindS (a := k) (by rw [hr]; rfl) (bindS ei (bindS (a := (b, dDel (row D a) k)) ?_ (bindS (idx_row b0 (by rw [setI_len]; exact b1')) (bindS (a := (a, dDel (row (setI D a (dDel (row D a) k)) b) (-k))) ?_ rfl)))))
  · unfold dPopO
    rw [show dGet (row D a) k = some b from g1]
    rfl
  · unfold dPopO
    have : dGet (row (setI D a (dDel (row D a) k)) b) (-k) = some a := by
      rw [row_set a0 a1' b0]
      by_cases e : a = b
      · subst e
        rw [if_pos rfl, dGet_del, if_neg (by have := hs.1; omega)]
        exact g3
      · rw [if_neg e]
        exact g3
    rw [this]
    rfl
theorem trim_ok {L : Int} {n k : Nat} {D : Dd} (hn : n ≤ 100000) (h : Dr L n D) (hS : ∃ S : List Int, S.length ≤ k ∧ ∀ a : Int, 1 ≤ a → a < n → row D a ≠ [] → a ∈ S) :
    ∃ D', trimP D = some D' ∧ ((D' = D ∧ ∀ a : Int, 1 ≤ a → a < n → (row D a).length ≠ 1) ∨ (Dr L n D' ∧ ∃ S : List Int, S.length + 1 ≤ k ∧ ∀ a : Int, 1 ≤ a → a < n → row D' a ≠ [] → a ∈ S)) := by
  unfold trimP
  rw [h.len]
  have hlr : (range' 1 (n : Int)).length = n - 1 := by rw [rng_len]; omega
  refine bndX (rngO_ok (by omega)) ?_
  refine lpX (fun i E => Dr L n E ∧ ((E = D ∧ ∀ a : Int, 1 ≤ a → a < 1 + (i : Int) → (row D a).length ≠ 1) ∨ ∃ S : List Int, S.length + 1 ≤ k ∧ ∀ a : Int, 1 ≤ a → a < n → row E a ≠ [] → a ∈ S)) ⟨h, .inl ⟨rfl, fun a h1 h2 => by omega⟩⟩ (fun i x E hx hE => ?_) (fun E hE => ⟨E, rfl, ?_⟩)
  · obtain ⟨rfl, hi⟩ := rngAt hx
    obtain ⟨d1, d2⟩ := hE
    have a0 : (0 : Int) ≤ 1 + (i : Int) := by omega
    have a1 : 1 + (i : Int) < n := by omega
    have ei := idx_row (D := E) a0 (by rw [d1.len]; exact a1)
    by_cases hl : (row E (1 + (i : Int))).length = 1
    · obtain ⟨⟨kk, b⟩, hr⟩ := List.length_eq_one_iff.mp hl
      obtain ⟨e1, g1, g2⟩ := pop_run d1 a0 a1 hr
      have d3 := d1.del a0 g1
      obtain ⟨b0, b1, hs, _⟩ := d1.ok _ _ _ a0 g1
      have gd := fun {x : Int} (hx : 0 ≤ x) (t : Int) => go_del a0 (by rw [d1.len]; exact a1) b0 (by rw [d1.len]; exact b1) hs.1 (x := x) hx t
      have shrink : ∀ x, 0 ≤ x → row (delD E (1 + (i : Int)) kk b) x ≠ [] → row E x ≠ [] := fun x hx hne => by
        obtain ⟨t, y, hg⟩ := row_some hne
        rw [gd hx] at hg
        split at hg
        · cases hg
        · intro z
          unfold go at hg
          rw [z] at hg
          cases hg
      have gone : row (delD E (1 + (i : Int)) kk b) (1 + (i : Int)) = [] := row_nil fun t => by
        rw [gd a0]
        by_cases e : t = kk
        · rw [if_pos (.inr ⟨rfl, e⟩)]
        · split
          · rfl
          · exact g2 t e
      refine ⟨_, bindS ei (bindS ((if_pos (decide_eq_true (by omega))).trans e1) rfl), d3, .inr ?_⟩
      rcases d2 with ⟨q1, q2⟩ | ⟨S, s1, s2⟩
      · subst q1
        obtain ⟨S, s1, s2⟩ := hS
        have hm : (1 + (i : Int)) ∈ S := s2 _ (by omega) a1 (by rw [hr]; exact List.cons_ne_nil _ _)
        have hp := List.length_pos_of_mem hm
        refine ⟨S.erase (1 + (i : Int)), by rw [List.length_erase_of_mem hm]; omega, fun a b1 b2 hne => ?_⟩
        have : a ≠ 1 + (i : Int) := fun e => hne (by rw [e]; exact gone)
        exact (List.mem_erase_of_ne this).mpr (s2 a b1 b2 (shrink a (by omega) hne))
      · exact ⟨S, s1, fun a b1 b2 hne => s2 a b1 b2 (shrink a (by omega) hne)⟩
    · refine ⟨E, bindS ei (bindS (if_neg (by simp only [decide_eq_true_eq]; omega)) rfl), d1, ?_⟩
      rcases d2 with ⟨q1, q2⟩ | q
      · subst q1
        refine .inl ⟨rfl, fun a b1 b2 => ?_⟩
        by_cases e : a = 1 + (i : Int)
        · rw [e]; exact hl
        · exact q2 a b1 (by omega)
      · exact .inr q
  · obtain ⟨d1, d2⟩ := hE
    rcases d2 with ⟨q1, q2⟩ | q
    · refine .inl ⟨q1, fun a b1 b2 => q2 a b1 ?_⟩
      rw [hlr]
      omega
    · exact .inr ⟨d1, q⟩
theorem trims_ok {L : Int} {n : Nat} {D : Dd} (hn : 1 ≤ n) (hn2 : n ≤ 100000) (h : Dr L n D) : ∃ D', lp (fun (s7 : Dd) (_ : Int) => trimP s7) (range' 0 (n : Int)) D = some D' ∧ Dr L n D' ∧ ∀ a : Int, 1 ≤ a → a < n → (row D' a).length ≠ 1 := by
  refine settle (fun k E => Dr L n E ∧ ∃ S : List Int, S.length ≤ k ∧ ∀ a : Int, 1 ≤ a → a < n → row E a ≠ [] → a ∈ S) (fun E => Dr L n E ∧ ∀ a : Int, 1 ≤ a → a < n → (row E a).length ≠ 1) (fun k E hE => ?_) (range' 0 (n : Int)) (n - 1) D ⟨h, range' 1 (n : Int), by rw [rng_len]; omega, fun a h1 h2 _ => ?_⟩ (by rw [rng_len]; omega)
  · obtain ⟨h1, h2⟩ := hE
    obtain ⟨E', e, q⟩ := trim_ok hn2 h1 h2
    refine ⟨E', fun _ => e, ?_⟩
    rcases q with ⟨rfl, q⟩ | ⟨q1, S, q2, q3⟩
    · exact .inl ⟨fun _ => e, h1, q⟩
    · exact .inr ⟨k - 1, by omega, q1, S, by omega, q3⟩
  · unfold range'
    exact List.mem_map.mpr ⟨(a - 1).toNat, List.mem_range.mpr (by omega), by omega⟩
end Z
namespace Z
open PySem PySem.Spec L2
def cell (rows : List (List Int)) (a l : Int) : Int := (rows.getD a.toNat []).getD l.toNat (-1)
theorem cell_idx {rows : List (List Int)} {r : List Int} {a l : Int} (a0 : 0 ≤ a) (hr : rows[a.toNat]? = some r) (l0 : 0 ≤ l) (h : l < r.length) : idx r l = some (cell rows a l) := by
  refine idx_of l0 ?_
  unfold cell
  rw [List.getD_eq_getElem?_getD (l := rows), hr]
  show r[l.toNat]? = some (r.getD l.toNat (-1))
  rw [List.getD_eq_getElem?_getD, List.getElem?_eq_getElem (by omega)]
  rfl
theorem cell_out {rows : List (List Int)} {a l : Int} (h : rows.length ≤ a.toNat ∨ ∀ r, rows[a.toNat]? = some r → r.length ≤ l.toNat) : cell rows a l = -1 := by
  unfold cell
  rw [List.getD_eq_getElem?_getD, List.getD_eq_getElem?_getD]
  rcases h with h | h
  · rw [List.getElem?_eq_none_iff.mpr h]
    rfl
  · cases e : rows[a.toNat]? with
    | none => rfl
    | some r =>
      show (r[l.toNat]?).getD (-1) = -1
      rw [List.getElem?_eq_none_iff.mpr (h r e)]
      rfl
/-- rows in their bounds -/
structure Reg (L : Int) (rows : List (List Int)) : Prop where
  l1 : 1 ≤ L
  l4 : L ≤ 4
  rl : ∀ r ∈ rows, r.length = L.toNat
  rb : ∀ r ∈ rows, ∀ x ∈ r, -1 ≤ x ∧ x < rows.length
  one : ∀ a b l k : Int, 0 ≤ a → 0 ≤ b → 0 ≤ k → cell rows a l = k → cell rows b l = k → a = b
theorem Reg.bd {L : Int} {rows : List (List Int)} (h : Reg L rows) (a l : Int) : cell rows a l < rows.length ∨ cell rows a l = -1 := by
  cases e : rows[a.toNat]? with
  | none => exact .inr (cell_out (.inl (List.getElem?_eq_none_iff.mp e)))
  | some r =>
    by_cases hl : l.toNat < r.length
    · refine .inl ?_
      have hm := List.mem_of_getElem? e
      have : cell rows a l = r[l.toNat] := by
        unfold cell
        rw [List.getD_eq_getElem?_getD (l := rows), e]
        show r.getD l.toNat (-1) = _
        rw [List.getD_eq_getElem?_getD, List.getElem?_eq_getElem hl]
        rfl
      rw [this]
      exact (h.rb r hm _ (List.getElem_mem hl)).2
    · exact .inr (cell_out (.inr fun r' hr' => by rw [e] at hr'; cases hr'; omega))
structure Lay (L : Int) (rows : List (List Int)) (r c : Nat) (D : Dd) : Prop where
  dr : Dr L rows.length D
  rep : ∀ x l y, 0 ≤ x → 0 < l → (go D x l = some y ↔ 0 ≤ y ∧ cell rows x (l - 1) = y ∧ (x < r ∨ (x = r ∧ l - 1 < c)))
theorem Lay.step {L : Int} {rows : List (List Int)} (R : Reg L rows) {r c : Nat} {D : Dd} (h : Lay L rows r c D) (hr : r < rows.length) (hc : c < L.toNat) {a k k2 g : Int} (ea : a = r) (ek : k = (c : Int) + 1) (ek2 : k2 = -k) (eg : g = cell rows r c) :
    ∃ D', (if (decide (0 ≤ g)) = true then ((idx D a).bind fun t16 => (dPutO t16 k g).bind fun t17 => ((idx (setI D a t17) g).bind fun t18 => (dPutO t18 k2 a).bind fun t19 => some (setI (setI D a t17) g t19))) else some D : Option Dd) = some D' ∧ Lay L rows r (c + 1) D' := by
  subst ea ek
  by_cases hg : 0 ≤ g
  · have g1 : g < rows.length := by
      rcases R.bd (r : Int) (c : Int) with h | h
      · rw [eg]; exact h
      · omega
    have a1 : (r : Int) < rows.length := by omega
    have hs : Sok L ((c : Int) + 1) := ⟨by omega, by omega, by omega⟩
    have f1 : go D r ((c : Int) + 1) = none := by
      cases e : go D r ((c : Int) + 1) with
      | none => rfl
      | some y =>
        have := (h.rep r _ y (by omega) (by omega)).mp e
        omega
    have f2 : go D g (-((c : Int) + 1)) = none := by
      cases e : go D g (-((c : Int) + 1)) with
      | none => rfl
      | some y =>
        obtain ⟨y0, _, _, hb⟩ := h.dr.ok g _ y hg e
        rw [Int.neg_neg] at hb
        obtain ⟨_, h2, h3⟩ := (h.rep y _ g y0 (by omega)).mp hb
        have h2' : cell rows y (c : Int) = g := by rw [← h2]; congr 1; omega
        have := R.one y r c g y0 (by omega) hg h2' eg.symm
        omega
    refine ⟨_, (if_pos (decide_eq_true hg)).trans (put_run h.dr R.l4 (by omega) a1 hg g1 ek2), h.dr.put (by omega) a1 hg g1 hs f1 f2, fun x l y hx hl => ?_⟩
    rw [go_put (by omega) (by rw [h.dr.len]; exact a1) hg (by rw [h.dr.len]; exact g1) hs.1 hx, if_neg (fun z => by omega)]
    by_cases e : x = (r : Int) ∧ l = (c : Int) + 1
    · rw [if_pos e]
      obtain ⟨rfl, rfl⟩ := e
      have ec : (c : Int) + 1 - 1 = c := by omega
      rw [ec, ← eg]
      constructor
      · intro z; cases z; exact ⟨hg, rfl, by omega⟩
      · rintro ⟨_, z, _⟩; rw [z]
    · rw [if_neg e, h.rep x l y hx hl]
      constructor
      · rintro ⟨z1, z2, z3⟩; exact ⟨z1, z2, by omega⟩
      · rintro ⟨z1, z2, z3⟩; exact ⟨z1, z2, by omega⟩
  · refine ⟨D, if_neg (by simpa using hg), h.dr, fun x l y hx hl => ?_⟩
    rw [h.rep x l y hx hl]
    constructor
    · rintro ⟨z1, z2, z3⟩; exact ⟨z1, z2, by omega⟩
    · rintro ⟨z1, z2, z3⟩
      refine ⟨z1, z2, ?_⟩
      by_cases e : x = (r : Int) ∧ l - 1 = c
      · rw [e.1, e.2, ← eg] at z2
        omega
      · omega
theorem Lay.row {L : Int} {rows : List (List Int)} (R : Reg L rows) {r : Nat} {D : Dd} (h : Lay L rows r L.toNat D) : Lay L rows (r + 1) 0 D := by
  refine ⟨h.dr, fun x l y hx hl => ?_⟩
  rw [h.rep x l y hx hl]
  constructor
  · rintro ⟨z1, z2, z3⟩; exact ⟨z1, z2, by omega⟩
  · rintro ⟨z1, z2, z3⟩
    refine ⟨z1, z2, ?_⟩
    by_cases e : l - 1 < L.toNat
    · omega
    · have : cell rows x (l - 1) = -1 := cell_out (.inr fun r' hr' => by rw [R.rl r' (List.mem_of_getElem? hr')]; omega)
      omega
theorem Lay.all {L : Int} {rows : List (List Int)} {D : Dd} (h : Lay L rows rows.length 0 D) (x l y : Int) (hx : 0 ≤ x) (hl : 0 < l) : go D x l = some y ↔ 0 ≤ y ∧ cell rows x (l - 1) = y := by
  rw [h.rep x l y hx hl]
  constructor
  · rintro ⟨z1, z2, _⟩; exact ⟨z1, z2⟩
  · rintro ⟨z1, z2⟩
    refine ⟨z1, z2, ?_⟩
    by_cases e : x < rows.length
    · exact .inl e
    · have : cell rows x (l - 1) = -1 := cell_out (.inl (by omega))
      omega
theorem Lay.nil {L : Int} {rows : List (List Int)} : Lay L rows 0 0 (List.replicate rows.length []) := by
  have hd := Dr.nil L rows.length (D := List.replicate rows.length []) rfl
  refine ⟨hd, fun x l y hx hl => ?_⟩
  have hr : Z.row (List.replicate rows.length []) x = [] := by
    unfold Z.row
    rw [List.getD_eq_getElem?_getD, List.getElem?_replicate]
    split <;> rfl
  unfold go
  rw [hr]
  constructor
  · intro z; cases z
  · rintro ⟨_, _, z⟩; omega
/-- what doors_of and the law's doors have of rows -/
def Rep (L : Int) (rows : List (List Int)) (D : Dd) : Prop := Dr L rows.length D ∧ ∀ x l y : Int, 0 ≤ x → 0 < l → (go D x l = some y ↔ 0 ≤ y ∧ cell rows x (l - 1) = y)
theorem doors_of_ok {L : Int} {rows : List (List Int)} (R : Reg L rows) (hn : rows.length ≤ 100000) : ∃ D, Q_doors_of rows = some D ∧ Rep L rows D := by
  unfold Q_doors_of
  have he := empties (xs := rows) (by rw [sizeL]; omega)
  obtain ⟨_, e1, he⟩ := Option.bind_eq_some_iff.mp he
  refine bndX e1 (bndX he ?_)
  have hl : (enum rows).length = rows.length := by unfold enum; rw [List.length_map, List.length_zipIdx]
  refine lpX (fun i D => Lay L rows i 0 D) Lay.nil (fun i x D hx hD => ?_) (fun D hD => ⟨D, rfl, ?_, ?_⟩)
  · obtain ⟨h1, h2⟩ := enum_get hx
    have hi := (List.getElem?_eq_some_iff.mp h2).1
    have hrl := R.rl x.2 (List.mem_of_getElem? h2)
    have hl2 : (enum x.2).length = L.toNat := by unfold enum; rw [List.length_map, List.length_zipIdx, hrl]
    obtain ⟨D', e, q⟩ := lp_goN (xs := enum x.2) (f := (fun (s11 : (List (List (Int × Int)))) (x12 : (Int × Int)) => ((if (decide (0 ≤ x12.2)) = true then ((idx s11 x.1).bind fun t16 => (dPutO t16 (x12.1 + 1) x12.2).bind fun t17 => ((idx (setI s11 x.1 t17) x12.2).bind fun t18 => (dPutO t18 ((-x12.1) - 1) x.1).bind fun t19 => some (setI (setI s11 x.1 t17) x12.2 t19))) else some s11 : Option (List (List (Int × Int)))).bind fun s20 => some s20))) (fun c D => Lay L rows i c D) (fun c y E hy hE => by
      obtain ⟨k1, k2⟩ := enum_get hy
      have hc := (List.getElem?_eq_some_iff.mp k2).1
      have eg : y.2 = cell rows (i : Int) (c : Int) := by
        have := cell_idx (rows := rows) (a := (i : Int)) (l := (c : Int)) (by omega) (by rw [Int.toNat_natCast]; exact h2) (by omega) (by omega)
        rw [idx_of (by omega) (by rw [Int.toNat_natCast]; exact k2)] at this
        exact Option.some.inj this
      obtain ⟨E', e, hE'⟩ := hE.step R hi (by omega) (a := x.1) (k := y.1 + 1) (k2 := (-y.1) - 1) (g := y.2) h1 (by rw [k1]) (by omega) eg
      exact ⟨E', bindS e rfl, hE'⟩) (s0 := D) hD
    rw [hl2] at q
    exact ⟨D', bindS e rfl, q.row R⟩
  · exact hD.dr
  · rw [hl] at hD
    exact hD.all
theorem doorsP_ok {L : Int} {rows : List (List Int)} (R : Reg L rows) (hn : rows.length ≤ 100000) : ∃ D, P_doors (L, rows) = some D ∧ Rep L rows D := by
  unfold P_doors
  have l1 := R.l1
  have l4 := R.l4
  have he := empties (xs := rows) (by rw [sizeL]; omega)
  obtain ⟨_, e1, he⟩ := Option.bind_eq_some_iff.mp he
  refine bndX e1 (bndX he (bndX (rngO_ok (by rw [List.length_replicate]; omega)) ?_))
  have hl : (range' 0 ((List.replicate rows.length ([] : List (Int × Int))).length : Int)).length = rows.length := by rw [rng_len, List.length_replicate]; omega
  refine lpX (fun i D => Lay L rows i 0 D) Lay.nil (fun i x D hx hD => ?_) (fun D hD => ⟨D, rfl, ?_, ?_⟩)
  · obtain ⟨rfl, hi⟩ := rngAt hx
    rw [List.length_replicate] at hi
    have hi' : i < rows.length := by omega
    have ei : (0 : Int) + (i : Int) = i := Int.zero_add _
    rw [ei]
    refine bndX (rngO_ok (by omega)) ?_
    have hl2 : (range' 0 L).length = L.toNat := by rw [rng_len]; omega
    refine lpX (fun c D => Lay L rows i c D) hD (fun c y E hy hE => ?_) (fun E hE => ⟨E, rfl, ?_⟩)
    · obtain ⟨rfl, hc⟩ := rngAt hy
      have ec : (0 : Int) + (c : Int) = c := Int.zero_add _
      rw [ec]
      have hr : rows[(i : Int).toNat]? = some rows[i] := by rw [Int.toNat_natCast]; exact List.getElem?_eq_getElem hi'
      have eg := cell_idx (rows := rows) (a := (i : Int)) (l := (c : Int)) (by omega) hr (by omega) (by rw [R.rl _ (List.getElem_mem hi')]; omega)
      obtain ⟨E', e, hE'⟩ := hE.step R hi' (by omega) (a := (i : Int)) (k := (c : Int) + 1) (k2 := (-(c : Int)) - 1) (g := cell rows i c) rfl rfl (by omega) rfl
      exact ⟨E', bindS (idx_of (by omega) hr) (bindS eg (bindS e rfl)), hE'⟩
    · rw [hl2] at hE
      exact hE.row R
  · exact hD.dr
  · rw [hl] at hD
    exact hD.all
structure Web (L : Int) (rows : List (List Int)) (D : Dd) : Prop where
  reg : Reg L rows
  n1 : 1 ≤ rows.length
  n9 : rows.length ≤ 4000
  dof : Q_doors_of rows = some D
  rep : Rep L rows D
  deg : ∀ a : Int, 1 ≤ a → a < rows.length → ∃ s t, s ≠ t ∧ (go D a s).isSome = true ∧ (go D a t).isSome = true
  bfs : ord (nbr L D) rows.length = range' 0 (rows.length : Int)
theorem Dr.nbr {L : Int} {n : Nat} {D : Dd} (h : Dr L n D) : ∀ a : Int, 0 ≤ a → a < n → ∀ g ∈ Z.nbr L D a, 0 ≤ g ∧ g < n := fun a a0 _ g hg => by
  obtain ⟨t, _, e⟩ := List.mem_filterMap.mp hg
  obtain ⟨b0, b1, _⟩ := h.ok a t g a0 e
  exact ⟨b0, b1⟩
theorem two_keys {d : List (Int × Int)} (hn : (d.map Prod.fst).Nodup) {s t : Int} (hst : s ≠ t) (h1 : (dGet d s).isSome = true) (h2 : (dGet d t).isSome = true) : 2 ≤ d.length := by
  have := nodup_le [s, t] (d.map Prod.fst) (by simp [hst]) fun x hx => by
    rcases List.mem_cons.mp hx with rfl | hx
    · exact dGet_key_mem.mp h1
    · rw [List.mem_singleton.mp hx]
      exact dGet_key_mem.mp h2
  rw [List.length_map] at this
  exact this
theorem keys_two {d : List (Int × Int)} (hn : (d.map Prod.fst).Nodup) (h : 2 ≤ d.length) : ∃ s t, s ≠ t ∧ (dGet d s).isSome = true ∧ (dGet d t).isSome = true := by
  match d, h with
  | p :: q :: d, _ =>
    rw [List.map_cons, List.map_cons, List.nodup_cons] at hn
    refine ⟨p.1, q.1, fun e => hn.1 (by rw [e]; exact List.mem_cons_self), ?_, ?_⟩
    · exact dGet_key_mem.mpr List.mem_cons_self
    · exact dGet_key_mem.mpr (List.mem_cons_of_mem _ List.mem_cons_self)
theorem letters_okW {L : Int} (h1 : 1 ≤ L) (h4 : L ≤ 4) : Q_is_letters L = some true := by
  unfold Q_is_letters Q_is_integer
  simp [h1, h4]
theorem a_row_ok {L : Int} {rows : List (List Int)} (R : Reg L rows) {r : List Int} (hr : r ∈ rows) : Q_is_a_row r L (rows.length : Int) = some true := by
  have hl := R.rl r hr
  have l1 := R.l1
  have l4 := R.l4
  unfold Q_is_a_row
  rw [if_neg (by simp [hl]; omega), lcO_some (fun _ => true) (by rw [hl, sizeL]; omega) (fun x hx => by
    have hb := R.rb r hr x hx
    unfold Q_is_integer
    simp [hb.1, hb.2])]
  simp
theorem one_way_ok {L : Int} {rows : List (List Int)} (R : Reg L rows) (hn : rows.length ≤ 4000) : Q_is_one_way rows L = some true := by
  have l1 := R.l1
  have l4 := R.l4
  have key : ∃ r, Q_is_one_way rows L = some r ∧ r = true := by
    unfold Q_is_one_way
    refine bndX (rngO_ok (by omega)) (lpRX (fun _ _ => True) trivial (fun i x s hx _ => ?_) (fun s _ => ⟨_, rfl, rfl⟩))
    obtain ⟨rfl, hi⟩ := rngAt hx
    have ei : (0 : Int) + (i : Int) = i := Int.zero_add _
    rw [ei]
    have hg := lcG_some (f := (fun (row7 : (List Int)) => ((idx row7 (i : Int)).bind fun t9 => if (decide (0 ≤ t9)) = true then ((idx row7 (i : Int)).bind fun t10 => some (some t10)) else some none))) (xs := rows) (fun r => if 0 ≤ r.getD i (-1) then some (r.getD i (-1)) else none) (by rw [sizeL]; omega) (fun r hr => by
      have hlr := R.rl r hr
      have e : idx r (i : Int) = some (r.getD i (-1)) := by
        refine idx_of (by omega) ?_
        rw [Int.toNat_natCast, List.getD_eq_getElem?_getD, List.getElem?_eq_getElem (by omega)]
        rfl
      refine bindS e ?_
      by_cases h : 0 ≤ r.getD i (-1)
      · rw [if_pos (decide_eq_true h), if_pos h]
        exact bindS e rfl
      · rw [if_neg (by simpa using h), if_neg h])
    have hnd : (rows.filterMap fun r => if 0 ≤ r.getD i (-1) then some (r.getD i (-1)) else none).Nodup := by
      unfold List.Nodup
      rw [List.pairwise_filterMap, List.pairwise_iff_getElem]
      intro a b ha hb hab x hx y hy exy
      subst exy
      have h1 : ∀ j (hj : j < rows.length) z, (if 0 ≤ rows[j].getD i (-1) then some (rows[j].getD i (-1)) else none) = some z → cell rows (j : Int) (i : Int) = z ∧ 0 ≤ z := fun j hj z hz => by
        split at hz
        · rename_i h0
          cases hz
          refine ⟨?_, h0⟩
          unfold cell
          rw [List.getD_eq_getElem?_getD (l := rows), Int.toNat_natCast, List.getElem?_eq_getElem hj, Int.toNat_natCast]
          rfl
        · cases hz
      obtain ⟨p1, p2⟩ := h1 a ha x hx
      obtain ⟨q1, _⟩ := h1 b hb x hy
      have := R.one (a : Int) (b : Int) (i : Int) x (by omega) (by omega) p2 p1 q1
      omega
    have hll : (rows.filterMap fun r => if 0 ≤ r.getD i (-1) then some (r.getD i (-1)) else none).length ≤ rows.length := List.length_filterMap_le _ _
    refine ⟨(), bindS hg (bindS (if_pos ⟨hnd, by omega⟩) (if_neg (by simp))), trivial⟩
  obtain ⟨r, e, rfl⟩ := key
  exact e
/-- the pairs that were met, as they stand beside the rooms in order -/
def Met (met : List (Int × Bool)) (o : List Int) : Prop := (∀ g, (dGet met g).isSome = true ↔ g ∈ o) ∧ met.length ≤ o.length
theorem prog_vis {D : Dd} {a : Int} {i : Nat} (a0 : 0 ≤ a) (a1 : a < D.length) : ∀ (ss o : List Int) (met : List (Int × Bool)), o[i]? = some a → o.length + ss.length ≤ 10000 → Met met o →
    ∃ met', lp (fun (s8 : ((List (Int × Bool)) × (List Int))) (step9 : Int) => ((idx s8.2 (i : Int)).bind fun t13 => (idx D t13).bind fun t14 => (match (dGet t14 step9) with | none => (some (s8.1, s8.2)) | some goal15 => ((if (true && (!(dGet s8.1 goal15).isSome)) = true then ((dPutO s8.1 goal15 true).bind fun t16 => ((appO s8.2 goal15).bind fun t17 => some (t16, t17))) else some (s8.1, s8.2) : Option ((List (Int × Bool)) × (List Int))).bind fun s18 => some (s18.1, s18.2))))) ss (met, o) = some (met', visA o (ss.filterMap (go D a))) ∧ Met met' (visA o (ss.filterMap (go D a)))
  | [], o, met, _, _, hM => ⟨met, rfl, hM⟩
  | s :: ss, o, met, ho, hl, hM => by
    rw [List.length_cons] at hl
    unfold lp
    have e1 : idx o (i : Int) = some a := idx_of (by omega) (by rw [Int.toNat_natCast]; exact ho)
    have e2 := idx_row a0 a1
    cases hg : go D a s with
    | none =>
      rw [List.filterMap_cons_none hg]
      obtain ⟨met', e, q⟩ := prog_vis a0 a1 ss o met ho (by omega) hM
      refine ⟨met', ?_, q⟩
      refine bindS (a := (met, o)) (bindS e1 (bindS e2 ?_)) e
      have hg' : dGet (row D a) s = none := hg
      rw [hg']
    | some g =>
      rw [List.filterMap_cons_some hg, visA_cons]
      have hg' : dGet (row D a) s = some g := hg
      by_cases hm : g ∈ o
      · have hv : vis o g = o := if_pos hm
        rw [hv]
        obtain ⟨met', e, q⟩ := prog_vis a0 a1 ss o met ho (by omega) hM
        refine ⟨met', ?_, q⟩
        refine bindS (a := (met, o)) (bindS e1 (bindS e2 ?_)) e
        rw [hg']
        have : (dGet met g).isSome = true := (hM.1 g).mpr hm
        exact bindS (if_neg (by simp [this])) rfl
      · have hv : vis o g = o ++ [g] := if_neg hm
        rw [hv]
        have hi := (List.getElem?_eq_some_iff.mp ho).1
        have hnone : (dGet met g).isSome = false := by
          cases h : (dGet met g).isSome with
          | false => rfl
          | true => exact absurd ((hM.1 g).mp h) hm
        have hM2 : Met (dPut met g true) (o ++ [g]) := by
          refine ⟨fun x => ?_, ?_⟩
          · rw [dGet_put, List.mem_append, List.mem_singleton]
            by_cases e : g = x
            · subst e; simp
            · rw [if_neg e, hM.1 x]
              exact ⟨.inl, fun z => z.elim id fun z => absurd z.symm e⟩
          · have := dput_len met g true
            have := hM.2
            rw [List.length_append]
            show _ ≤ o.length + 1
            omega
        obtain ⟨met', e, q⟩ := prog_vis a0 a1 ss (o ++ [g]) (dPut met g true) (by rw [List.getElem?_append_left hi]; exact ho) (by rw [List.length_append]; show o.length + 1 + _ ≤ _; omega) hM2
        refine ⟨met', ?_, q⟩
        refine bindS (a := (dPut met g true, o ++ [g])) (bindS e1 (bindS e2 ?_)) e
        rw [hg']
        have hm2 := hM.2
        exact bindS ((if_pos (by simp [hnone])).trans (bindS (putO_ok (by show met.length < _; rw [sizeL]; omega)) (bindS (app_ok (by show o.length < _; rw [sizeL]; omega)) rfl))) rfl
theorem first_order_ok {L : Int} {n : Nat} {D : Dd} (h : Dr L n D) (h1 : 1 ≤ L) (h4 : L ≤ 4) (n1 : 1 ≤ n) (n9 : n ≤ 4000) : Q_first_order L D 0 = some (ord (nbr L D) n) := by
  have hnb := h.nbr
  have key : ∃ r, Q_first_order L D 0 = some r ∧ r = ord (nbr L D) n := by
    unfold Q_first_order
    refine whX (fun (s3 : (Int × (List (Int × Bool)) × (List Int))) => ∃ i : Nat, i ≤ n ∧ s3.1 = (i : Int) ∧ s3.2.2 = ord (nbr L D) i ∧ Met s3.2.1 (ord (nbr L D) i)) (fun s3 => (n - s3.1).toNat) ⟨0, Nat.zero_le _, rfl, rfl, fun g => ?_, Nat.le_refl _⟩ (by show ((n : Int) - 0).toNat < 10000; omega) (fun s3 hs => ?_) (fun s3 hs hc => ⟨_, rfl, ?_⟩)
    · show (dGet [((0 : Int), true)] g).isSome = true ↔ g ∈ [(0 : Int)]
      rw [dGet_cons, List.mem_singleton]
      by_cases e : (0 : Int) = g
      · subst e; simp
      · rw [if_neg e]
        exact ⟨(fun z => by cases z), fun z => absurd z.symm e⟩
    · obtain ⟨at_, met, o⟩ := s3
      obtain ⟨i, hi, rfl, rfl, hM⟩ := hs
      by_cases hc : i < (ord (nbr L D) i).length
      · refine .inr ⟨congrArg some (decide_eq_true (by show (i : Int) < ((ord (nbr L D) i).length : Int); omega)), ?_⟩
        have hl := ord_len n1 hnb i
        obtain ⟨a, ha⟩ : ∃ a, (ord (nbr L D) i)[i]? = some a := ⟨_, List.getElem?_eq_getElem hc⟩
        obtain ⟨a0, a1⟩ := (ord_in n1 hnb i).1 a (List.mem_of_getElem? ha)
        have l8 := stL_len h1 h4
        obtain ⟨met', e, q⟩ := prog_vis a0 (by rw [h.len]; exact a1) (stL L) (ord (nbr L D) i) met ha (by omega) hM
        have ho : ord (nbr L D) (i + 1) = visA (ord (nbr L D) i) ((stL L).filterMap (go D a)) := by
          show (match (ord (nbr L D) i)[i]? with | some a => visA (ord (nbr L D) i) (nbr L D a) | none => ord (nbr L D) i) = _
          rw [ha]
          rfl
        refine ⟨((i : Int) + 1, met', visA (ord (nbr L D) i) ((stL L).filterMap (go D a))), bindS (steps_of_ok h1 h4) (bindS e rfl), ⟨i + 1, by omega, rfl, ho.symm, by rw [ho]; exact q⟩, ?_⟩
        show ((n : Int) - ((i : Int) + 1)).toNat < ((n : Int) - (i : Int)).toNat
        omega
      · exact .inl (congrArg some (decide_eq_false (by show ¬ (i : Int) < ((ord (nbr L D) i).length : Int); omega)))
    · obtain ⟨at_, met, o⟩ := s3
      obtain ⟨i, hi, rfl, rfl, hM⟩ := hs
      have hc' : decide ((i : Int) < ((ord (nbr L D) i).length : Int)) = false := Option.some.inj hc
      rw [decide_eq_false_iff_not] at hc'
      exact ord_end n1 hnb hi (by omega)
  obtain ⟨r, e, rfl⟩ := key
  exact e
theorem is_a_web_ok {L : Int} {rows : List (List Int)} {D : Dd} (W : Web L rows D) : Q_is_a_web (L, rows) = some true := by
  have R := W.reg
  have n1 := W.n1
  have n9 := W.n9
  have dr := W.rep.1
  unfold Q_is_a_web
  refine bindS (a := false) ((if_neg (by simp)).trans (bindS (a := false) ((if_neg (by simp)).trans (bindS (letters_okW R.l1 R.l4) rfl)) rfl)) ?_
  refine (if_neg (by simp)).trans ((if_neg (by simp only [Bool.false_or, decide_eq_true_eq]; omega)).trans ?_)
  refine bindS (lcO_some (fun _ => true) (by show rows.length < _; rw [sizeL]; omega) (fun r hr => bindS (a_row_ok R hr) rfl)) ?_
  refine bindS (a := false) ((if_neg (by simp)).trans (bindS (one_way_ok R n9) rfl)) ((if_neg (by simp)).trans ?_)
  refine bindS W.dof ?_
  have hcut : cut D (some 1) none = D.drop 1 := cut_from _ (by decide)
  rw [hcut]
  refine bindS (lcT_some _ (by rw [List.length_drop, dr.len, sizeL]; omega)) ?_
  refine (if_neg ?_).trans ?_
  · simp only [List.any_map, List.any_eq_true, Function.comp, id, decide_eq_true_eq]
    rintro ⟨d, hd, hlt⟩
    obtain ⟨j, hj⟩ := List.mem_iff_getElem?.mp hd
    rw [List.getElem?_drop] at hj
    have hjl := (List.getElem?_eq_some_iff.mp hj).1
    rw [dr.len] at hjl
    have e : row D ((1 + j : Nat) : Int) = d := by
      unfold row
      rw [Int.toNat_natCast, List.getD_eq_getElem?_getD, hj]
      rfl
    obtain ⟨s, t, h1, h2, h3⟩ := W.deg ((1 + j : Nat) : Int) (by omega) (by omega)
    have := two_keys (dr.rowok (a := ((1 + j : Nat) : Int)) (by omega)) h1 h2 h3
    rw [e] at this
    omega
  · refine bindS (first_order_ok dr R.l1 R.l4 n1 n9) (bindS (a := range' 0 (rows.length : Int)) (if_pos ⟨by decide, by decide, by show -(2 ^ 62) ≤ (rows.length : Int); omega, by show (rows.length : Int) < 2 ^ 62; omega, by show ((rows.length : Int) - 0).toNat ≤ 2 ^ 24; omega⟩) ?_)
    rw [W.bfs]
    simp
theorem need_web_ok {L : Int} {rows : List (List Int)} {D : Dd} (W : Web L rows D) : Q_need_web (L, rows) = some () := by
  unfold Q_need_web
  exact bindS (is_a_web_ok W) (if_neg (by simp))
end Z
namespace Z
open PySem PySem.Spec L2
theorem ixOf_some : ∀ {xs : List Int} {y : Int}, y ∈ xs → ∃ k, ixOf xs y = some k
  | x :: xs, y, h => by
    unfold ixOf
    by_cases e : x = y
    · exact ⟨0, if_pos e⟩
    · obtain ⟨k, hk⟩ := ixOf_some ((List.mem_cons.mp h).resolve_left fun z => e z.symm)
      exact ⟨k + 1, by rw [if_neg e, hk]; rfl⟩
theorem law_vis {D : Dd} {a : Int} {i : Nat} (hp : ∀ t b, go D a t = some b → 0 ≤ b) (a0 : 0 ≤ a) (a1 : a < D.length) : ∀ (ss o : List Int), o[i]? = some a → o.length + ss.length ≤ 10000 → lp (fun (s35 : List Int) (step36 : Int) => ((idx s35 (i : Int)).bind fun t40 => (idx D t40).bind fun t41 => ((if ((decide (0 ≤ ((dGet t41 step36).getD (-1)))) && (!s35.contains ((dGet t41 step36).getD (-1)))) = true then ((appO s35 ((dGet t41 step36).getD (-1))).bind fun t42 => some t42) else some s35 : Option (List Int)).bind fun s43 => some s43))) ss o = some (visA o (ss.filterMap (go D a)))
  | [], o, _, _ => rfl
  | s :: ss, o, ho, hl => by
    rw [List.length_cons] at hl
    unfold lp
    have e1 : idx o (i : Int) = some a := idx_of (by omega) (by rw [Int.toNat_natCast]; exact ho)
    have e2 := idx_row a0 a1
    have hi := (List.getElem?_eq_some_iff.mp ho).1
    cases hg : go D a s with
    | none =>
      rw [List.filterMap_cons_none hg]
      have hg' : dGet (row D a) s = none := hg
      refine bindS (a := o) (bindS e1 (bindS e2 (bindS (a := o) ?_ rfl))) (law_vis hp a0 a1 ss o ho (by omega))
      rw [hg']
      exact if_neg (by simp)
    | some g =>
      rw [List.filterMap_cons_some hg, visA_cons]
      have hg' : dGet (row D a) s = some g := hg
      have h0 := hp s g hg
      by_cases hm : g ∈ o
      · have hv : vis o g = o := if_pos hm
        rw [hv]
        refine bindS (a := o) (bindS e1 (bindS e2 (bindS (a := o) ?_ rfl))) (law_vis hp a0 a1 ss o ho (by omega))
        rw [hg']
        exact if_neg (by simp [hm])
      · have hv : vis o g = o ++ [g] := if_neg hm
        rw [hv]
        refine bindS (a := o ++ [g]) (bindS e1 (bindS e2 (bindS (a := o ++ [g]) ?_ rfl))) (law_vis hp a0 a1 ss (o ++ [g]) (by rw [List.getElem?_append_left hi]; exact ho) (by rw [List.length_append]; show o.length + 1 + _ ≤ _; omega))
        rw [hg']
        exact (if_pos (by simp [hm, h0])).trans (bindS (app_ok (by rw [sizeL]; omega)) rfl)
def cellF (D : Dd) (O : List Int) (a l : Int) : Int := match go D a l with
  | none => -1
  | some g => (((ixOf O g).getD 0 : Nat) : Int)
theorem rowF_run {L : Int} {n : Nat} {D : Dd} {O : List Int} (h : Dr L n D) (h1 : 1 ≤ L) (h4 : L ≤ 4) {a : Int} (a0 : 0 ≤ a) (a1 : a < n) (hc : ∀ l g, go D a l = some g → g ∈ O) {s : List (List Int)} (hs : s.length ≤ 10000) :
    ((rngO 1 (L + 1)).bind fun t51 => (lcO (β := Int) (fun (letter52 : Int) => ((idx D a).bind fun t54 => some ((dGet t54 letter52).getD (-1)))) t51).bind fun t55 => ((lcO (β := Int) (fun (goal56 : Int) => ((if (decide (0 ≤ goal56)) = true then ((ixOf O goal56).bind fun t58 => some ((t58 : Nat) : Int)) else some (-1)).bind fun t59 => some t59)) t55).bind fun t60 => (appO s t60).bind fun t61 => some t61)) = some (s ++ [(range' 1 (L + 1)).map (cellF D O a)]) := by
  have hlr : (range' 1 (L + 1)).length ≤ 4 := by rw [rng_len]; omega
  refine bindS (rngO_ok (by omega)) (bindS (lcO_some (fun l => (go D a l).getD (-1)) (by rw [sizeL]; omega) (fun l _ => bindS (idx_row a0 (by rw [h.len]; exact a1)) rfl)) (bindS (lcO_some (fun x => if 0 ≤ x then (((ixOf O x).getD 0 : Nat) : Int) else -1) (by rw [List.length_map, sizeL]; omega) (fun x hx => ?_)) (bindS (app_ok (by rw [sizeL]; omega)) ?_)))
  · obtain ⟨l, hl, rfl⟩ := List.mem_map.mp hx
    cases hg : go D a l with
    | none => rfl
    | some g =>
      obtain ⟨g0, _⟩ := h.ok a l g a0 hg
      obtain ⟨k, hk⟩ := ixOf_some (hc l g hg)
      show ((if (decide (0 ≤ g)) = true then _ else _ : Option Int).bind _) = some (if 0 ≤ g then _ else _)
      rw [if_pos g0, if_pos (decide_eq_true g0)]
      refine bindS (bindS hk rfl) ?_
      show some ((k : Nat) : Int) = some (((ixOf O g).getD 0 : Nat) : Int)
      rw [hk]
      rfl
  · rw [List.map_map]
    refine congrArg (fun z => some (s ++ [z])) (List.map_congr_left fun l _ => ?_)
    show (if 0 ≤ (go D a l).getD (-1) then (((ixOf O ((go D a l).getD (-1))).getD 0 : Nat) : Int) else -1) = cellF D O a l
    unfold cellF
    cases hg : go D a l with
    | none => rfl
    | some g =>
      obtain ⟨g0, _⟩ := h.ok a l g a0 hg
      exact if_pos g0
/-- doors whose rooms have no idle ends make a web -/
theorem web_of_doors {L : Int} {n : Nat} {D : Dd} (h : Dr L n D) (h1 : 1 ≤ L) (h4 : L ≤ 4) (n1 : 1 ≤ n) (n9 : n ≤ 4000) (ht : ∀ a : Int, 1 ≤ a → a < n → (row D a).length ≠ 1) :
    ∃ E, Web L ((ord (nbr L D) n).map fun a => (range' 1 (L + 1)).map (cellF D (ord (nbr L D) n) a)) E := by
  have hnb := h.nbr
  obtain ⟨o1, o2⟩ := ord_in n1 hnb n
  have o3 := ord_len n1 hnb n
  have o4 := ord_head (nbr L D) n
  have o5 : ∀ i a, (ord (nbr L D) n)[i]? = some a → ∀ g ∈ nbr L D a, g ∈ ord (nbr L D) n := fun i a hi => (ord_at n1 hnb hi).2.2
  have o6 := ord_from (nbr L D) n
  have o7 := ord_more n1 hnb
  generalize hO : ord (nbr L D) n = O at o1 o2 o3 o4 o5 o6 o7
  have m1 : 1 ≤ O.length := (List.getElem?_eq_some_iff.mp o4).1
  have clos : ∀ a ∈ O, ∀ l g, go D a l = some g → g ∈ O := fun a ha l g hg => by
    obtain ⟨i, hi⟩ := List.mem_iff_getElem?.mp ha
    exact o5 i a hi g (List.mem_filterMap.mpr ⟨l, mem_stL.mpr (h.ok a l g (o1 a ha).1 hg).2.2.1, hg⟩)
  generalize hrows : (O.map fun a => (range' 1 (L + 1)).map (cellF D O a)) = rows
  have hlen : rows.length = O.length := by rw [← hrows, List.length_map]
  -- names
  generalize hφ : (fun (j : Int) => O.getD j.toNat 0) = φ
  have hφj : ∀ j : Int, φ j = O.getD j.toNat 0 := fun j => by rw [← hφ]
  have φat : ∀ j : Int, 0 ≤ j → j < O.length → O[j.toNat]? = some (φ j) := fun j j0 j1 => by
    have hj : j.toNat < O.length := by omega
    rw [hφj, List.getD_eq_getElem?_getD, List.getElem?_eq_getElem hj]
    rfl
  have φmem : ∀ j : Int, 0 ≤ j → j < O.length → φ j ∈ O := fun j j0 j1 => List.mem_of_getElem? (φat j j0 j1)
  have inj : ∀ x y : Int, 0 ≤ x → x < O.length → 0 ≤ y → y < O.length → φ x = φ y → x = y := fun x y x0 x1 y0 y1 e => by
    have a := φat x x0 x1
    have b := φat y y0 y1
    rw [← e] at b
    have := (List.getElem?_inj (by omega) o2).mp (a.trans b.symm)
    omega
  have φix : ∀ g ∈ O, ∃ k : Nat, k < O.length ∧ ixOf O g = some k ∧ φ (k : Int) = g := fun g hg => by
    obtain ⟨k, hk⟩ := ixOf_some hg
    obtain ⟨q, _⟩ := ixOf_spec hk
    have hk2 := (List.getElem?_eq_some_iff.mp q).1
    refine ⟨k, hk2, hk, ?_⟩
    have := φat (k : Int) (by omega) (by omega)
    rw [Int.toNat_natCast, q] at this
    exact (Option.some.inj this).symm
  have φ0 : φ 0 = 0 := by
    have := φat 0 (by omega) (by omega)
    rw [show (0 : Int).toNat = 0 from rfl, o4] at this
    exact (Option.some.inj this).symm
  have cellE : ∀ a l : Int, 0 ≤ a → a < O.length → 0 ≤ l → l < L → cell rows a l = cellF D O (φ a) (l + 1) := fun a l a0 a1 l0 l1 => by
    have hr : rows[a.toNat]? = some ((range' 1 (L + 1)).map (cellF D O (φ a))) := by
      rw [← hrows, List.getElem?_map, φat a a0 a1]
      rfl
    unfold cell
    rw [List.getD_eq_getElem?_getD (l := rows), hr]
    show ((range' 1 (L + 1)).map (cellF D O (φ a))).getD l.toNat (-1) = _
    unfold range'
    rw [List.getD_eq_getElem?_getD, List.getElem?_map, List.getElem?_map, List.getElem?_range (by omega)]
    show cellF D O (φ a) (1 + (l.toNat : Int)) = _
    congr 1
    omega
  have cellO : ∀ a l : Int, 0 ≤ a → (O.length ≤ a ∨ L ≤ l) → cell rows a l = -1 := fun a l a0 hh => by
    refine cell_out ?_
    rcases hh with hh | hh
    · exact .inl (by omega)
    · refine .inr fun r hr => ?_
      rw [← hrows, List.getElem?_map] at hr
      cases e : O[a.toNat]? with
      | none => rw [e] at hr; cases hr
      | some x =>
        rw [e] at hr
        cases hr
        rw [List.length_map, rng_len]
        omega
  have cellI : ∀ a l k : Int, 0 ≤ a → 0 ≤ l → 0 ≤ k → (cell rows a l = k ↔ a < O.length ∧ k < O.length ∧ go D (φ a) (l + 1) = some (φ k)) := fun a l k a0 l0 k0 => by
    by_cases ha : a < O.length
    · by_cases hl : l < L
      · rw [cellE a l a0 ha l0 hl]
        unfold cellF
        cases hg : go D (φ a) (l + 1) with
        | none =>
          refine ⟨fun z => ?_, fun z => by cases z.2.2⟩
          have z : (-1 : Int) = k := z
          omega
        | some g =>
          obtain ⟨j, j1, j2, j3⟩ := φix g (clos _ (φmem a a0 ha) _ g hg)
          show (((ixOf O g).getD 0 : Nat) : Int) = k ↔ _
          rw [j2]
          show (j : Int) = k ↔ _
          constructor
          · rintro rfl
            exact ⟨ha, by omega, by rw [j3]⟩
          · rintro ⟨_, z1, z2⟩
            refine inj _ _ (by omega) (by omega) k0 z1 ?_
            rw [j3]
            exact Option.some.inj z2
      · rw [cellO a l a0 (.inr (by omega))]
        refine ⟨fun z => by omega, fun z => ?_⟩
        have := (h.ok _ _ _ (o1 _ (φmem a a0 ha)).1 z.2.2).2.2.1.2.2
        omega
    · rw [cellO a l a0 (.inl (by omega))]
      exact ⟨fun z => by omega, fun z => by omega⟩
  have R : Reg L rows := by
    refine ⟨h1, h4, fun r hr => ?_, fun r hr x hx => ?_, fun a b l k a0 b0 k0 ea eb => ?_⟩
    · rw [← hrows] at hr
      obtain ⟨a, _, rfl⟩ := List.mem_map.mp hr
      rw [List.length_map, rng_len]
      omega
    · rw [← hrows] at hr
      obtain ⟨a, ha, rfl⟩ := List.mem_map.mp hr
      obtain ⟨l, _, rfl⟩ := List.mem_map.mp hx
      unfold cellF
      cases hg : go D a l with
      | none => exact ⟨by show (-1 : Int) ≤ -1; omega, by show (-1 : Int) < _; omega⟩
      | some g =>
        obtain ⟨j, j1, j2, j3⟩ := φix g (clos a ha _ g hg)
        show -1 ≤ (((ixOf O g).getD 0 : Nat) : Int) ∧ (((ixOf O g).getD 0 : Nat) : Int) < _
        rw [j2, hlen]
        show -1 ≤ (j : Int) ∧ (j : Int) < _
        omega
    · by_cases l0 : 0 ≤ l
      · obtain ⟨a1, k1, ga⟩ := (cellI a l k a0 l0 k0).mp ea
        obtain ⟨b1, _, gb⟩ := (cellI b l k b0 l0 k0).mp eb
        have p1 := (h.ok _ _ _ (o1 _ (φmem a a0 a1)).1 ga).2.2.2
        have p2 := (h.ok _ _ _ (o1 _ (φmem b b0 b1)).1 gb).2.2.2
        rw [p1] at p2
        exact inj a b a0 a1 b0 b1 (Option.some.inj p2)
      · have e0 : cell rows a l = cell rows a 0 := by unfold cell; rw [show l.toNat = (0 : Int).toNat by omega]
        have e1 : cell rows b l = cell rows b 0 := by unfold cell; rw [show l.toNat = (0 : Int).toNat by omega]
        obtain ⟨a1, k1, ga⟩ := (cellI a 0 k a0 (by omega) k0).mp (e0 ▸ ea)
        obtain ⟨b1, _, gb⟩ := (cellI b 0 k b0 (by omega) k0).mp (e1 ▸ eb)
        have p1 := (h.ok _ _ _ (o1 _ (φmem a a0 a1)).1 ga).2.2.2
        have p2 := (h.ok _ _ _ (o1 _ (φmem b b0 b1)).1 gb).2.2.2
        rw [p1] at p2
        exact inj a b a0 a1 b0 b1 (Option.some.inj p2)
  obtain ⟨E, eE, dE, rE⟩ := doors_of_ok R (by omega)
  rw [hlen] at dE
  have gpos : ∀ a s b : Int, 0 ≤ a → 0 < s → (go E a s = some b ↔ 0 ≤ b ∧ a < O.length ∧ b < O.length ∧ go D (φ a) s = some (φ b)) := fun a s b a0 s0 => by
    rw [rE a s b a0 s0]
    constructor
    · rintro ⟨z1, z2⟩
      obtain ⟨q1, q2, q3⟩ := (cellI a (s - 1) b a0 (by omega) z1).mp z2
      rw [show s - 1 + 1 = s by omega] at q3
      exact ⟨z1, q1, q2, q3⟩
    · rintro ⟨z1, q1, q2, q3⟩
      exact ⟨z1, (cellI a (s - 1) b a0 (by omega) z1).mpr ⟨q1, q2, by rw [show s - 1 + 1 = s by omega]; exact q3⟩⟩
  have gall : ∀ a s b : Int, 0 ≤ a → (go E a s = some b ↔ 0 ≤ b ∧ a < O.length ∧ b < O.length ∧ go D (φ a) s = some (φ b)) := fun a s b a0 => by
    by_cases s0 : 0 < s
    · exact gpos a s b a0 s0
    · constructor
      · intro hg
        obtain ⟨b0, b1, hs, hb⟩ := dE.ok a s b a0 hg
        have hz := hs.1
        obtain ⟨_, q1, q2, q3⟩ := (gpos b (-s) a b0 (by omega)).mp hb
        have := (h.ok _ _ _ (o1 _ (φmem b b0 q1)).1 q3).2.2.2
        rw [Int.neg_neg] at this
        exact ⟨b0, q2, q1, this⟩
      · rintro ⟨b0, q1, q2, q3⟩
        obtain ⟨_, _, hs, p⟩ := h.ok _ _ _ (o1 _ (φmem a a0 q1)).1 q3
        have hz := hs.1
        have := (gpos b (-s) a b0 (by omega)).mpr ⟨a0, q2, q1, p⟩
        have := (dE.ok b (-s) a b0 this).2.2.2
        rw [Int.neg_neg] at this
        exact this
  have gsome : ∀ a s g : Int, 0 ≤ a → a < O.length → go D (φ a) s = some g → ∃ b, go E a s = some b ∧ φ b = g := fun a s g a0 a1 hg => by
    obtain ⟨j, j1, j2, j3⟩ := φix g (clos _ (φmem a a0 a1) _ g hg)
    exact ⟨(j : Int), (gall a s j a0).mpr ⟨by omega, a1, by omega, by rw [j3]; exact hg⟩, j3⟩
  refine ⟨E, R, by rw [hlen]; exact m1, by rw [hlen]; omega, eE, ⟨by rw [hlen]; exact dE, rE⟩, fun a a1 a2 => ?_, ?_⟩
  · rw [hlen] at a2
    have a0 : 0 ≤ a := by omega
    have hm := φmem a a0 a2
    have hne : φ a ≠ 0 := fun e => by
      have := inj a 0 a0 a2 (by omega) (by omega) (by rw [e, φ0])
      omega
    obtain ⟨f0, f1⟩ := o1 _ hm
    have hrow : row D (φ a) ≠ [] := by
      rcases o6 _ hm with e | ⟨x, hx, hg⟩
      · exact absurd e hne
      · obtain ⟨t, _, hg⟩ := List.mem_filterMap.mp hg
        have := (h.ok x t _ (o1 x hx).1 hg).2.2.2
        intro z
        unfold go at this
        rw [z] at this
        cases this
    have h2 : 2 ≤ (row D (φ a)).length := by
      have := List.length_pos_iff.mpr hrow
      have := ht (φ a) (by omega) f1
      omega
    obtain ⟨s, t, hst, hs, ht2⟩ := keys_two (h.rowok f0) h2
    obtain ⟨gs, hgs⟩ := Option.isSome_iff_exists.mp hs
    obtain ⟨gt, hgt⟩ := Option.isSome_iff_exists.mp ht2
    obtain ⟨bs, e1, _⟩ := gsome a s gs a0 a2 hgs
    obtain ⟨bt, e2, _⟩ := gsome a t gt a0 a2 hgt
    exact ⟨s, t, hst, by rw [e1]; rfl, by rw [e2]; rfl⟩
  · rw [hlen]
    have hnE := dE.nbr
    have hmap := ord_map inj (nb := nbr L D) (nb' := nbr L E) m1 hnE φ0 (fun a a0 a1 => by
      unfold nbr
      rw [List.map_filterMap]
      congr 1
      funext s
      cases hg : go D (φ a) s with
      | none =>
        cases hE : go E a s with
        | none => rfl
        | some b =>
          have := ((gall a s b a0).mp hE).2.2.2
          rw [hg] at this
          cases this
      | some g =>
        obtain ⟨b, e1, e2⟩ := gsome a s g a0 a1 hg
        rw [e1]
        show some g = some (φ b)
        rw [e2])
    have hO2 : O = (ord (nbr L E) O.length).map φ := by
      have h3 := hmap n
      rw [hO] at h3
      have h5 := ord_more m1 hnE (n - O.length)
      rw [show O.length + (n - O.length) = n by omega] at h5
      rw [h5] at h3
      exact h3
    have hO3 : O = (range' 0 (O.length : Int)).map φ := by
      refine List.ext_getElem? fun i => ?_
      unfold range'
      rw [List.map_map, List.getElem?_map]
      by_cases hi : i < O.length
      · rw [List.getElem?_range (by omega)]
        have := φat (i : Int) (by omega) (by omega)
        rw [Int.toNat_natCast] at this
        rw [this]
        show some (φ i) = some (φ (0 + (i : Int)))
        rw [Int.zero_add]
      · rw [List.getElem?_eq_none_iff.mpr (by omega), List.getElem?_eq_none_iff.mpr (by rw [List.length_range]; omega)]
        rfl
    refine map_inj inj (ord_in m1 hnE _).1 (fun x hx => mem_rng hx) ?_
    rw [← hO2]
    exact hO3
end Z
namespace Z
open PySem PySem.Spec L2
theorem webP_ok {L : Int} {n : Nat} {D : Dd} (h : Dr L n D) (h1 : 1 ≤ L) (h4 : L ≤ 4) (n1 : 1 ≤ n) (n9 : n ≤ 4000) : ∃ r, P_web L D = some r ∧ (r.1 = L ∧ r.2.length ≤ n ∧ ∃ E, Web L r.2 E) := by
  unfold P_web
  have hlD := h.len
  refine bndX (a := ()) (if_pos (by rw [hlD, sizeL]; omega)) (bndX (a := D) ?_ (bndX (rngO_ok (by omega)) ?_))
  · rw [mapO_some (g := fun x => x) (fun x _ => rfl), List.map_id']
  obtain ⟨D', e1, d1, ht⟩ := trims_ok n1 (by omega) h
  rw [hlD]
  refine bndX (show lp _ _ _ = some D' from e1) ?_
  have hnb := d1.nbr
  refine whX (fun (s : Int × List Int) => ∃ i : Nat, i ≤ n ∧ s.1 = (i : Int) ∧ s.2 = ord (nbr L D') i) (fun s => (n - s.1).toNat) ⟨0, Nat.zero_le _, rfl, rfl⟩ (by show ((n : Int) - 0).toNat < 10000; omega) (fun s hs => ?_) (fun s hs hc => ?_)
  · obtain ⟨at_, o⟩ := s
    obtain ⟨i, hi, rfl, rfl⟩ := hs
    by_cases hc : i < (ord (nbr L D') i).length
    · refine .inr ⟨congrArg some (decide_eq_true (by show (i : Int) < ((ord (nbr L D') i).length : Int); omega)), ?_⟩
      have hl := ord_len n1 hnb i
      obtain ⟨a, ha⟩ : ∃ a, (ord (nbr L D') i)[i]? = some a := ⟨_, List.getElem?_eq_getElem hc⟩
      obtain ⟨a0, a1⟩ := (ord_in n1 hnb i).1 a (List.mem_of_getElem? ha)
      have l8 := stL_len h1 h4
      have e := law_vis (D := D') (a := a) (i := i) (fun t b hg => (d1.ok a t b a0 hg).1) a0 (by rw [d1.len]; exact a1) (stL L) (ord (nbr L D') i) ha (by omega)
      have ho : ord (nbr L D') (i + 1) = visA (ord (nbr L D') i) ((stL L).filterMap (go D' a)) := by
        show (match (ord (nbr L D') i)[i]? with | some a => visA (ord (nbr L D') i) (nbr L D' a) | none => ord (nbr L D') i) = _
        rw [ha]
        rfl
      refine ⟨((i : Int) + 1, visA (ord (nbr L D') i) ((stL L).filterMap (go D' a))), bindS (steps_ok' h1 h4) (bindS e rfl), ⟨i + 1, by omega, rfl, ho.symm⟩, ?_⟩
      show ((n : Int) - ((i : Int) + 1)).toNat < ((n : Int) - (i : Int)).toNat
      omega
    · exact .inl (congrArg some (decide_eq_false (by show ¬ (i : Int) < ((ord (nbr L D') i).length : Int); omega)))
  · obtain ⟨at_, o⟩ := s
    obtain ⟨i, hi, rfl, rfl⟩ := hs
    have hc' : decide ((i : Int) < ((ord (nbr L D') i).length : Int)) = false := Option.some.inj hc
    rw [decide_eq_false_iff_not] at hc'
    have he := ord_end n1 hnb hi (by omega)
    obtain ⟨o1, o2⟩ := ord_in n1 hnb n
    have ol := ord_len n1 hnb n
    show ∃ r, (lp _ (ord (nbr L D') i) []).bind _ = some r ∧ _
    rw [he]
    refine lpX (fun i s => s = ((ord (nbr L D') n).take i).map fun a => (range' 1 (L + 1)).map (cellF D' (ord (nbr L D') n) a)) rfl (fun i a s ha hs => ?_) (fun s hs => ⟨_, rfl, rfl, ?_, ?_⟩)
    · subst hs
      have hm := List.mem_of_getElem? ha
      have hia := (List.getElem?_eq_some_iff.mp ha).1
      obtain ⟨a0, a1⟩ := o1 a hm
      refine ⟨_, rowF_run d1 h1 h4 a0 a1 (fun l g hg => ?_) (by rw [List.length_map, List.length_take]; omega), ?_⟩
      · obtain ⟨j, hj⟩ := List.mem_iff_getElem?.mp hm
        exact (ord_at n1 hnb hj).2.2 g (List.mem_filterMap.mpr ⟨l, mem_stL.mpr (d1.ok a l g a0 hg).2.2.1, hg⟩)
      · show _ = (List.take (i + 1) _).map _
        rw [List.take_succ, ha, List.map_append]
        rfl
    · show s.length ≤ n
      rw [hs, List.length_map, List.length_take]
      omega
    · show ∃ E, Web L s E
      rw [hs, List.take_length]
      exact web_of_doors d1 h1 h4 n1 n9 ht
/-- the web of no walk -/
theorem web_none {L : Int} (h1 : 1 ≤ L) (h4 : L ≤ 4) : ∃ E, Web L [List.replicate L.toNat (-1)] E := by
  have h0 := Dr.nil L 1 (D := [[]]) rfl
  obtain ⟨E, hE⟩ := web_of_doors h0 h1 h4 (Nat.le_refl 1) (by decide) (fun a a1 a2 => by omega)
  have e : ((ord (nbr L [[]]) 1).map fun a => (range' 1 (L + 1)).map (cellF [[]] (ord (nbr L [[]]) 1) a)) = [List.replicate L.toNat (-1)] := four (P := fun L => ((ord (nbr L [[]]) 1).map fun a => (range' 1 (L + 1)).map (cellF [[]] (ord (nbr L [[]]) 1) a)) = [List.replicate L.toNat (-1)]) h1 h4 (by decide) (by decide) (by decide) (by decide)
  rw [e] at hE
  exact ⟨E, hE⟩
/-- a drawn web -/
theorem drawnP_sharp {n : Nat} {most top : Int} {w : List Int} (h : Pot n w) (m1 : 1 ≤ most) (m2 : most ≤ 60) (t1 : 1 ≤ top) (t4 : top ≤ 4) : ∃ r, P_drawn w most top = some r ∧ ((∃ E, Web r.1.1 r.1.2 E) ∧ r.1.1 ≤ top ∧ (r.1.2.length : Int) ≤ most ∧ Pot (n + 2000) r.2) := by
  unfold P_drawn
  obtain ⟨v1, w1, e1, a1, b1, k1⟩ := draw_ok h (many := top) (by omega) (by omega)
  obtain ⟨v2, w2, e2, a2, b2, k2⟩ := draw_ok k1 (many := 9) (by decide) (by decide)
  have l1 : 1 ≤ 1 + v1 := by omega
  have l4 : 1 + v1 ≤ 4 := by omega
  refine bndX e1 (bndX e2 ?_)
  by_cases c1 : v2 = 0
  · obtain ⟨E, hE⟩ := web_none l1 l4
    have er : repT ([(-1 : Int)]) (1 + v1) = some (List.replicate (1 + v1).toNat (-1)) := by
      unfold repT
      rw [if_pos ⟨by omega, by omega, by decide⟩]
      congr 1
      generalize (1 + v1).toNat = m
      induction m with
      | zero => rfl
      | succ m ih => rw [List.replicate_succ, List.flatten_cons, ih]; rfl
    refine ⟨_, (if_pos (decide_eq_true c1)).trans (bindS er rfl), ⟨E, hE⟩, by show 1 + v1 ≤ top; omega, by show ((1 : Nat) : Int) ≤ most; omega, k2.mono (by omega)⟩
  obtain ⟨v3, w3, e3, a3, b3, k3⟩ := draw_ok k2 (many := 3) (by decide) (by decide)
  obtain ⟨v5, w5, e5, a5, b5, k5⟩ := draw_ok k2 (many := 5) (by decide) (by decide)
  have n1 : ¬ decide (v2 = 0) = true := by simpa using c1
  by_cases c2 : v2 < 5
  · have hlr : (range' 0 (1 + v3)).length = (1 + v3).toNat := by rw [rng_len, Int.sub_zero]
    have key : ∃ r, ((P_draw w2 3).bind fun t5 => (rngO 0 (1 + t5.1)).bind fun t6 => ((lp (fun (s7 : (Int × (List Int) × (List (List Int)))) (turn8 : Int) => ((if (decide (0 < s7.1)) = true then ((P_draw s7.2.1 s7.1).bind fun t12 => ((P_straight t12.2 (1 + v1) (1 + t12.1)).bind fun t13 => (appO s7.2.2 t13.1).bind fun t14 => some ((s7.1 - (1 + t12.1)), t13.2, t14))) else some (s7.1, s7.2.1, s7.2.2) : Option (Int × (List Int) × (List (List Int)))).bind fun s15 => some (s15.1, s15.2.1, s15.2.2))) t6 (most, t5.2, ([] : (List (List Int))))).bind fun f9 => ((P_rings f9.2.2).bind fun t17 => (P_web (1 + v1) t17).bind fun t18 => some (t18, f9.2.1)))) = some r ∧ ((∃ E, Web r.1.1 r.1.2 E) ∧ r.1.1 ≤ top ∧ (r.1.2.length : Int) ≤ most ∧ Pot (n + 2000) r.2) := by
      refine bndX e3 (bndX (rngO_ok (by omega)) ?_)
      refine lpX (fun i (s : Int × List Int × List (List Int)) => 0 ≤ s.1 ∧ s.1 ≤ most ∧ Pot (n + 10 + 100 * i) s.2.1 ∧ s.2.2.length ≤ i ∧ (∀ u ∈ s.2.2, 1 ≤ u.length ∧ u.length ≤ 60 ∧ ∀ x ∈ u, Sok (1 + v1) x) ∧ s.1 + (((s.2.2.map List.length).sum : Nat) : Int) = most ∧ (1 ≤ i → 1 ≤ s.2.2.length)) ⟨by show 0 ≤ most; omega, Int.le_refl _, k3.mono (by omega), Nat.le_refl _, (fun _ z => nomatch z), by show most + ((0 : Nat) : Int) = most; omega, fun z => absurd z (by decide)⟩ (fun i x s hx hs => ?_) (fun s hs => ?_)
      · have hi : i < (range' 0 (1 + v3)).length := (List.getElem?_eq_some_iff.mp hx).1
        rw [hlr] at hi
        obtain ⟨left, pot, ws⟩ := s
        obtain ⟨g1, g2, g3, g4, g5, g6, g7⟩ := hs
        have g6 : left + (((ws.map List.length).sum : Nat) : Int) = most := g6
        have g7 : 1 ≤ i → 1 ≤ ws.length := g7
        have g1 : 0 ≤ left := g1
        have g2 : left ≤ most := g2
        have g3 : Pot (n + 10 + 100 * i) pot := g3
        have g4 : ws.length ≤ i := g4
        have g5 : ∀ u ∈ ws, 1 ≤ u.length ∧ u.length ≤ 60 ∧ ∀ x ∈ u, Sok (1 + v1) x := g5
        by_cases hp : 0 < left
        · obtain ⟨v6, w6, e6, a6, b6, k6⟩ := draw_ok g3 (many := left) hp (by omega)
          obtain ⟨⟨u, w7⟩, e7, u1, u2, u3, k7⟩ := straightP_ok k6 l1 l4 (size := 1 + v6) (by omega) (by omega)
          have u1 : u.length = (1 + v6).toNat := u1
          refine ⟨_, bindS ((if_pos (decide_eq_true hp)).trans (bindS e6 (bindS e7 (bindS (app_ok (by show ws.length < _; rw [sizeL]; omega)) rfl)))) rfl, by show 0 ≤ left - (1 + v6); omega, by show left - (1 + v6) ≤ most; omega, k7.mono (by omega), ?_, fun t ht => ?_, ?_, fun _ => ?_⟩
          · show (ws ++ [u]).length ≤ i + 1
            rw [List.length_append]
            exact Nat.succ_le_succ g4
          · rcases List.mem_append.mp ht with ht | ht
            · exact g5 t ht
            · rw [List.mem_singleton.mp ht]
              exact ⟨by omega, by omega, u2⟩
          · show left - (1 + v6) + ((((ws ++ [u]).map List.length).sum : Nat) : Int) = most
            rw [List.map_append, List.sum_append]
            show left - (1 + v6) + (((ws.map List.length).sum + (u.length + 0) : Nat) : Int) = most
            omega
          · show 1 ≤ (ws ++ [u]).length
            rw [List.length_append]
            exact Nat.le_add_left 1 _
        · refine ⟨_, bindS (if_neg (by simpa using hp)) rfl, g1, g2, g3.mono (by omega), Nat.le_succ_of_le g4, g5, g6, fun _ => ?_⟩
          show 1 ≤ ws.length
          cases ws with
          | nil =>
            have : (([] : List (List Int)).map List.length).sum = 0 := rfl
            rw [this] at g6
            omega
          | cons a t => exact Nat.succ_le_succ (Nat.zero_le _)
      · obtain ⟨left, pot, ws⟩ := s
        obtain ⟨gl, _, g3, g4, g5, g6, g7⟩ := hs
        have gl : 0 ≤ left := gl
        have g6 : left + (((ws.map List.length).sum : Nat) : Int) = most := g6
        rw [hlr] at g3 g4 g7
        have g7 : 1 ≤ ws.length := g7 (by omega)
        have g4 : ws.length ≤ (1 + v3).toNat := g4
        obtain ⟨D, eD, m, m1, m2, hD, mS⟩ := rings_ok l4 g5 (by show ws.length ≤ 20; omega)
        have m2 : m ≤ 1 + 60 * ws.length := m2
        obtain ⟨⟨L', rows⟩, eW, q1, q2, E, qE⟩ := webP_ok hD l1 l4 m1 (by omega)
        have q1 : L' = 1 + v1 := q1
        subst q1
        exact bndX eD (bndX eW ⟨_, rfl, ⟨E, qE⟩, by show 1 + v1 ≤ top; omega, by show (rows.length : Int) ≤ most; have : rows.length ≤ m := q2; omega, g3.mono (by omega)⟩)
    obtain ⟨r, e, q⟩ := key
    exact ⟨r, (if_neg n1).trans ((if_pos (decide_eq_true c2)).trans e), q⟩
  · obtain ⟨v7, e7, hv7⟩ := idx_mem (xs := [0, 0, 2, 3, (6 : Int)]) a5 (by show v5 < ((5 : Nat) : Int); omega)
    have g7 : 0 ≤ v7 ∧ v7 ≤ 6 := by
      simp only [List.mem_cons, List.not_mem_nil, or_false] at hv7
      omega
    obtain ⟨v8, w8, e8, a8, b8, k8⟩ := draw_ok k5 (many := most) (by omega) (by omega)
    obtain ⟨⟨D, w9⟩, e9, hD, k9⟩ := tables_ok k8 l1 l4 (count := 1 + v8) (gaps := v7) (by omega) (by omega) g7.1 (by omega)
    obtain ⟨⟨L', rows⟩, eW, q1, q2, E, qE⟩ := webP_ok hD l1 l4 (by omega) (by omega)
    have q1 : L' = 1 + v1 := q1
    subst q1
    refine ⟨_, (if_neg n1).trans ((if_neg (by simpa using c2)).trans (bindS e5 (bindS e7 (bindS e8 (bindS e9 (bindS eW rfl)))))), ⟨E, qE⟩, by show 1 + v1 ≤ top; omega, by show (rows.length : Int) ≤ most; have : rows.length ≤ (1 + v8).toNat := q2; omega, k9.mono (by omega)⟩
end Z
namespace Z
open PySem PySem.Spec L2
theorem Dr.keys {L : Int} {n : Nat} {D : Dd} (h : Dr L n D) {a : Int} (a0 : 0 ≤ a) : ∀ k ∈ (row D a).map Prod.fst, k ∈ stL L := fun k hk => by
  obtain ⟨v, hv⟩ := Option.isSome_iff_exists.mp (dGet_key_mem.mpr hk)
  exact mem_stL.mpr (h.ok a k v a0 hv).2.2.1
theorem rep_eq {L : Int} {rows : List (List Int)} {D E : Dd} (h : Rep L rows D) (k : Rep L rows E) : ∀ a t, 0 ≤ a → go D a t = go E a t := by
  have one : ∀ {D E : Dd}, Rep L rows D → Rep L rows E → ∀ a t b, 0 ≤ a → go D a t = some b → go E a t = some b := fun {D E} h k a t b a0 hg => by
    by_cases t0 : 0 < t
    · exact (k.2 a t b a0 t0).mpr ((h.2 a t b a0 t0).mp hg)
    · obtain ⟨b0, b1, hs, hb⟩ := h.1.ok a t b a0 hg
      have hz := hs.1
      have := (k.2 b (-t) a b0 (by omega)).mpr ((h.2 b (-t) a b0 (by omega)).mp hb)
      have := (k.1.ok b (-t) a b0 this).2.2.2
      rw [Int.neg_neg] at this
      exact this
  intro a t a0
  cases e : go D a t with
  | some b => exact (one h k a t b a0 e).symm
  | none =>
    cases e2 : go E a t with
    | none => rfl
    | some b =>
      rw [one k h a t b a0 e2] at e
      cases e
theorem pairs_len {α β : Type} (E : List β) : ∀ l : List α, (l.flatMap fun b => E.map fun e => (b, e)).length = l.length * E.length
  | [] => by simp
  | x :: l => by
    rw [List.flatMap_cons, List.length_append, List.length_map, pairs_len E l, List.length_cons, Nat.add_mul, Nat.one_mul]
    omega
/-- the places of such a table -/
def PlOk (n : Nat) (w : List ((Int × Int) × Int)) : Prop := (w.map Prod.fst).Nodup ∧ ∀ k ∈ w.map Prod.fst, 0 ≤ k.1 ∧ k.1 < n ∧ -4 ≤ k.2 ∧ k.2 ≤ 4
theorem PlOk.len {n : Nat} {w : List ((Int × Int) × Int)} (h : PlOk n w) : w.length ≤ n * 9 := by
  have := nodup_le (w.map Prod.fst) ((range' 0 (n : Int)).flatMap fun b => [0, 1, -1, 2, -2, 3, -3, 4, (-4 : Int)].map fun e => (b, e)) h.1 fun k hk => by
    obtain ⟨h1, h2, h3, h4⟩ := h.2 k hk
    refine List.mem_flatMap.mpr ⟨k.1, ?_, List.mem_map.mpr ⟨k.2, ?_, rfl⟩⟩
    · unfold range'
      exact List.mem_map.mpr ⟨k.1.toNat, List.mem_range.mpr (by omega), by omega⟩
    · simp only [List.mem_cons, List.not_mem_nil, or_false]
      omega
  rw [List.length_map, pairs_len, rng_len] at this
  simp only [List.length_cons, List.length_nil] at this
  omega
theorem PlOk.put {n : Nat} {w : List ((Int × Int) × Int)} (h : PlOk n w) {k : Int × Int} (v : Int) (hk : 0 ≤ k.1 ∧ k.1 < n ∧ -4 ≤ k.2 ∧ k.2 ≤ 4) : PlOk n (dPut w k v) := by
  refine ⟨dPut_nd h.1 k v, fun x hx => ?_⟩
  rw [dPut_keys] at hx
  split at hx
  · exact h.2 x hx
  · rcases List.mem_append.mp hx with hx | hx
    · exact h.2 x hx
    · rw [List.mem_singleton.mp hx]; exact hk
end Z
namespace Z
open PySem PySem.Spec L2
theorem lpRY {α R S β : Type} {f : S → α → Option (Step R S)} {xs : List α} {s0 : S} {k : Sum R S → Option β} {Q : β → Prop} (P : Nat → S → Prop) (h0 : P 0 s0) (step : ∀ (i : Nat) (x : α) (s : S), xs[i]? = some x → P i s → ∃ r, f s x = some r ∧ ∃ s', r = .go s' ∧ P (i + 1) s') (hk : ∀ s, P xs.length s → ∃ r, k (.inr s) = some r ∧ Q r) : ∃ r, (lpR f xs s0).bind k = some r ∧ Q r :=
  lpRX P h0 (fun i x s hx hs => by
    obtain ⟨r, e, s', rfl, h⟩ := step i x s hx hs
    exact ⟨s', e, h⟩) hk
theorem number_okW {x lo : Int} (h : lo ≤ x) : Q_need_number x lo () = some () := by
  unfold Q_need_number
  exact if_neg (by simp; omega)
end Z
namespace Z
open PySem PySem.Spec L2
end Z
namespace Z
open PySem PySem.Spec L2
def codeS (t : Int) : Int := if 0 < t then 2 * t - 2 else -2 * t - 1
theorem stL_srt {L : Int} (h1 : 1 ≤ L) (h4 : L ≤ 4) : (stL L).Pairwise fun s t => codeS s < codeS t :=
  four (P := fun L => (stL L).Pairwise fun s t => codeS s < codeS t) h1 h4 (by decide) (by decide) (by decide) (by decide)
def keyW (w : List Int) : Int × List Int := ((w.length : Int), w.map codeS)
/-- earlier in the order -/
def klt (u v : List Int) : Bool := ltP2 ltI (ltL ltI) (keyW u) (keyW v)
def clt (u v : List Int) : Bool := ltL ltI (u.map codeS) (v.map codeS)
theorem clt_cons (s t : Int) (u v : List Int) : clt (s :: u) (t :: v) = if codeS s = codeS t then clt u v else decide (codeS s < codeS t) := rfl
theorem klt_same {u v : List Int} (h : u.length = v.length) : klt u v = clt u v := by
  unfold klt ltP2 keyW
  rw [if_pos (by rw [h])]
  rfl
theorem klt_len {u v : List Int} (h : u.length ≠ v.length) : klt u v = decide (u.length < v.length) := by
  unfold klt ltP2 keyW
  rw [if_neg (by show ¬ ((u.length : Int) = (v.length : Int)); omega)]
  unfold ltI
  simp
theorem clt_irr : ∀ u : List Int, clt u u = false
  | [] => rfl
  | s :: u => by rw [clt_cons, if_pos rfl, clt_irr u]
theorem clt_trans : ∀ {u v w : List Int}, u.length = v.length → v.length = w.length → clt u v = true → clt v w = true → clt u w = true
  | [], [], [], _, _, h, _ => by cases h
  | s :: u, t :: v, r :: w, e1, e2, h1, h2 => by
    rw [clt_cons] at h1 h2 ⊢
    by_cases a : codeS s = codeS t
    · rw [if_pos a] at h1
      by_cases b : codeS t = codeS r
      · rw [if_pos b] at h2
        rw [if_pos (a.trans b)]
        exact clt_trans (by simpa using e1) (by simpa using e2) h1 h2
      · rw [if_neg b] at h2
        rw [if_neg (fun z => b (a.symm.trans z))]
        simp at h2 ⊢
        omega
    · rw [if_neg a] at h1
      by_cases b : codeS t = codeS r
      · rw [if_pos b] at h2
        rw [if_neg (fun z => a (z.trans b.symm))]
        simp at h1 ⊢
        omega
      · rw [if_neg b] at h2
        simp at h1 h2
        rw [if_neg (by omega)]
        simp
        omega
theorem klt_trans {u v w : List Int} (h1 : klt u v = true) (h2 : klt v w = true) : klt u w = true := by
  by_cases a : u.length = v.length
  · rw [klt_same a] at h1
    by_cases b : v.length = w.length
    · rw [klt_same b] at h2
      rw [klt_same (a.trans b)]
      exact clt_trans a b h1 h2
    · rw [klt_len b] at h2
      rw [klt_len (by omega)]
      simp at h2 ⊢
      omega
  · rw [klt_len a] at h1
    by_cases b : v.length = w.length
    · rw [klt_len (by omega)]
      simp at h1 ⊢
      omega
    · rw [klt_len b] at h2
      simp at h1 h2
      rw [klt_len (by omega)]
      simp
      omega
/-- the room behind a walk -/
def goW (D : Dd) : Int → List Int → Option Int
  | a, [] => some a
  | a, t :: w => match go D a t with
    | some b => goW D b w
    | none => none
end Z
namespace Z
open PySem PySem.Spec L2
end Z
namespace Z
open PySem PySem.Spec L2
end Z
namespace Z
open PySem PySem.Spec L2
def rep (w : List Int) (m : Nat) : List Int := (List.replicate m w).flatten
theorem rep_len (w : List Int) (m : Nat) : (rep w m).length = m * w.length := flat_len w m
theorem rep_succ (w : List Int) (m : Nat) : rep w (m + 1) = w ++ rep w m := by
  unfold rep
  rw [List.replicate_succ, List.flatten_cons]
theorem rep_zero (w : List Int) : rep w 0 = [] := rfl
theorem rep_one (w : List Int) : rep w 1 = w := by rw [rep_succ, rep_zero, List.append_nil]
theorem rep_succ' (w : List Int) : ∀ m : Nat, rep w (m + 1) = rep w m ++ w
  | 0 => by rw [rep_one, rep_zero, List.nil_append]
  | m + 1 => by rw [rep_succ, rep_succ' w m, ← List.append_assoc, ← rep_succ, rep_succ' w m]
theorem rep_ok {w : List Int} {m : Int} (h0 : 0 ≤ m) (h1 : m ≤ 1000) (h : w.length ≤ 1000) : repT w m = some (rep w m.toNat) := by
  unfold repT
  rw [if_pos ⟨by omega, h1, h⟩]
  rfl
def pr (P : List Int) (i : Int) : Int := P.getD (i % (P.length : Int)).toNat 0
def dn (P : List Int) (b : Int) (n : Nat) : List Int := (List.range n).map fun (i : Nat) => pr P (b + (i : Int))
end Z
namespace Z
open PySem PySem.Spec L2
def P_short (walk_here : (List Int)) : Option (List Int) :=
  ((lp (fun (s1 : (List Int)) (step2 : Int) => ((if (!decide (s1 = ([] : (List Int)))) = true then ((idx s1 (-1)).bind fun t6 => some (decide (t6 = (-step2)))) else some false).bind fun t7 => ((if t7 = true then ((popO s1).bind fun t8 => some t8.2) else ((appO s1 step2).bind fun t9 => some t9) : Option (List Int)).bind fun s10 => some s10))) walk_here ([] : (List Int))).bind fun f3 => some f3)
theorem shortP_ok {w : List Int} (h : w.length ≤ 100000) : P_short w = some (red w) := by
  have e : ∀ s1 : List Int, (!decide (s1 = [])) = decide (0 < (s1.length : Int)) := fun s1 => by cases s1 <;> simp
  unfold P_short
  simp only [e]
  exact straight_ok (by rw [sizeL]; omega)
end Z
namespace Z
open PySem PySem.Spec L2
abbrev Pc := Int × List Int
def stp (D : Dd) (p : Pc) (x : Int) : Pc := match p.2 with
  | y :: s => if y = -x then (p.1, s) else (p.1, x :: y :: s)
  | [] => match go D p.1 x with
    | some b => (b, [])
    | none => (p.1, [x])
def act (D : Dd) (p : Pc) (w : List Int) : Pc := w.foldl (stp D) p
structure PcOk (n : Nat) (D : Dd) (p : Pc) : Prop where
  r0 : 0 ≤ p.1
  r1 : p.1 < n
  gd : Gd p.2
  nz : ∀ y ∈ p.2, y ≠ 0
  op : ∀ y, p.2.getLast? = some y → go D p.1 y = none
theorem act_cons (D : Dd) (p : Pc) (x : Int) (w : List Int) : act D p (x :: w) = act D (stp D p x) w := rfl
theorem act_app (D : Dd) (p : Pc) (u v : List Int) : act D p (u ++ v) = act D (act D p u) v := List.foldl_append
theorem stp_pop {D : Dd} {r x y : Int} {s : List Int} (h : y = -x) : stp D (r, y :: s) x = (r, s) := if_pos h
theorem stp_push {D : Dd} {r x y : Int} {s : List Int} (h : y ≠ -x) : stp D (r, y :: s) x = (r, x :: y :: s) := if_neg h
theorem stp_walk {D : Dd} {r x b : Int} (h : go D r x = some b) : stp D (r, []) x = (b, []) := by
  show (match go D r x with | some b => (b, []) | none => (r, [x])) = _
  rw [h]
theorem stp_open {D : Dd} {r x : Int} (h : go D r x = none) : stp D (r, []) x = (r, [x]) := by
  show (match go D r x with | some b => (b, []) | none => (r, [x])) = _
  rw [h]
section
variable {L : Int} {n : Nat} {D : Dd} (h : Dr L n D)
include h
theorem stp_ok {p : Pc} (hp : PcOk n D p) {x : Int} (hx : x ≠ 0) : PcOk n D (stp D p x) := by
  obtain ⟨r, s⟩ := p
  obtain ⟨r0, r1, gd, nz, op⟩ := hp
  cases s with
  | nil =>
    cases e : go D r x with
    | none =>
      rw [stp_open e]
      exact ⟨r0, r1, trivial, fun y hy => List.mem_singleton.mp hy ▸ hx, fun y hy => by
        have : x = y := Option.some.inj hy
        rw [← this]
        exact e⟩
    | some b =>
      rw [stp_walk e]
      obtain ⟨b0, b1, _⟩ := h.ok r x b r0 e
      exact ⟨b0, b1, trivial, fun _ z => (nomatch z), fun _ z => (nomatch z)⟩
  | cons y s =>
    by_cases e : y = -x
    · rw [stp_pop e]
      refine ⟨r0, r1, gd_tail gd, fun z hz => nz z (List.mem_cons_of_mem _ hz), fun z hz => op z ?_⟩
      show (y :: s).getLast? = some z
      cases s with
      | nil => cases hz
      | cons u s => exact hz
    · rw [stp_push e]
      exact ⟨r0, r1, ⟨e, gd⟩, fun z hz => (List.mem_cons.mp hz).elim (fun q => q ▸ hx) (nz z), fun z hz => op z hz⟩
theorem stp_back {p : Pc} (hp : PcOk n D p) (x : Int) : stp D (stp D p x) (-x) = p := by
  obtain ⟨r, s⟩ := p
  obtain ⟨r0, r1, gd, nz, op⟩ := hp
  cases s with
  | nil =>
    cases e : go D r x with
    | none =>
      rw [stp_open e]
      exact stp_pop (by omega)
    | some b =>
      rw [stp_walk e]
      exact stp_walk (h.ok r x b r0 e).2.2.2
  | cons y s =>
    by_cases e : y = -x
    · rw [stp_pop e]
      cases s with
      | nil =>
        rw [← e]
        exact stp_open (op y rfl)
      | cons u s =>
        rw [← e]
        exact stp_push (by have := gd.1; have : u ≠ -y := this; omega)
    · rw [stp_push e]
      exact stp_pop (by omega)
theorem act_ok : ∀ {w : List Int} {p : Pc}, PcOk n D p → (∀ x ∈ w, x ≠ 0) → PcOk n D (act D p w)
  | [], _, hp, _ => hp
  | x :: w, p, hp, hw => act_ok (w := w) (stp_ok h hp (hw x List.mem_cons_self)) (fun y hy => hw y (List.mem_cons_of_mem _ hy))
theorem act_back : ∀ {w : List Int} {p : Pc}, PcOk n D p → (∀ x ∈ w, x ≠ 0) → act D (act D p w) (iv w) = p
  | [], _, _, _ => rfl
  | x :: w, p, hp, hw => by
    rw [iv_cons, act_cons, act_app, act_back (w := w) (stp_ok h hp (hw x List.mem_cons_self)) (fun y hy => hw y (List.mem_cons_of_mem _ hy))]
    exact stp_back h hp x
theorem act_inj {w : List Int} {p q : Pc} (hp : PcOk n D p) (hq : PcOk n D q) (hw : ∀ x ∈ w, x ≠ 0) (e : act D p w = act D q w) : p = q := by
  rw [← act_back h hp hw, e, act_back h hq hw]
theorem act_psh {p : Pc} (hp : PcOk n D p) {s : List Int} (hs : ∀ x ∈ s, x ≠ 0) (x : Int) : act D p (psh s x).reverse = stp D (act D p s.reverse) x := by
  cases s with
  | nil => rfl
  | cons y s =>
    have hs2 : ∀ x ∈ s.reverse, x ≠ 0 := fun z hz => hs z (List.mem_cons_of_mem _ (List.mem_reverse.mp hz))
    have e2 : act D p (y :: s).reverse = stp D (act D p s.reverse) y := by
      rw [List.reverse_cons, act_app]
      rfl
    by_cases e : y = -x
    · rw [show psh (y :: s) x = s from if_pos e, e2]
      have : x = -y := by omega
      rw [this, stp_back h (act_ok h hp hs2)]
    · rw [show psh (y :: s) x = x :: y :: s from if_neg e, List.reverse_cons, act_app]
      rfl
theorem act_fl {p : Pc} (hp : PcOk n D p) : ∀ {w s : List Int}, (∀ x ∈ s, x ≠ 0) → (∀ x ∈ w, x ≠ 0) → act D p (fl s w).reverse = act D (act D p s.reverse) w
  | [], _, _, _ => rfl
  | x :: w, s, hs, hw => by
    have hx := hw x List.mem_cons_self
    show act D p (fl (psh s x) w).reverse = _
    rw [act_fl hp (w := w) (s := psh s x) (psh_mem (P := fun y => y ≠ 0) hs hx) (fun y hy => hw y (List.mem_cons_of_mem _ hy)), act_psh h hp hs, act_cons]
theorem act_red {p : Pc} (hp : PcOk n D p) {w : List Int} (hw : ∀ x ∈ w, x ≠ 0) : act D p (red w) = act D p w := by
  show act D p (fl [] w).reverse = _
  rw [act_fl h hp (w := w) (s := []) (by intro x hx; cases hx) hw]
  rfl
end
theorem act_push {D : Dd} {r : Int} : ∀ {w : List Int} {y : Int} {s : List Int}, Gd (w.reverse ++ y :: s) → act D (r, y :: s) w = (r, w.reverse ++ y :: s)
  | [], _, _, _ => rfl
  | x :: w, y, s, g => by
    have g' : Gd (w.reverse ++ x :: y :: s) := by
      rw [List.reverse_cons, List.append_assoc] at g
      exact g
    rw [act_cons, stp_push (gd_suf g').1, act_push g', List.reverse_cons, List.append_assoc]
    rfl
end Z
namespace Z
open PySem PySem.Spec L2
theorem rep_addW (w : List Int) : ∀ a b : Nat, rep w (a + b) = rep w a ++ rep w b
  | 0, b => by rw [Nat.zero_add, rep_zero, List.nil_append]
  | a + 1, b => by rw [show a + 1 + b = (a + b) + 1 by omega, rep_succ, rep_addW w a b, rep_succ, List.append_assoc]
theorem rep_oneW (w : List Int) : rep w 1 = w := by rw [rep_succ, rep_zero, List.append_nil]
theorem rep_nz {w : List Int} (h : ∀ x ∈ w, x ≠ 0) (m : Nat) : ∀ x ∈ rep w m, x ≠ 0 := fun x hx => h x (flat_mem hx)
def wpw (m : List Int) (t : Int) : List Int := if 0 ≤ t then rep m t.toNat else rep (iv m) (-t).toNat
def orb (D : Dd) (p : Pc) (m : List Int) (t : Int) : Pc := act D p (wpw m t)
theorem orb_nat (D : Dd) (p : Pc) (m : List Int) (t : Nat) : orb D p m (t : Int) = act D p (rep m t) := by
  unfold orb wpw
  rw [if_pos (by omega), Int.toNat_natCast]
theorem iv_nz0 {w : List Int} (hw : ∀ x ∈ w, x ≠ 0) : ∀ x ∈ iv w, x ≠ 0 := fun x hx => by
  obtain ⟨y, hy, rfl⟩ := List.mem_map.mp hx
  have := hw y (List.mem_reverse.mp hy)
  omega
theorem wpw_nz {m : List Int} (nz : ∀ x ∈ m, x ≠ 0) (t : Int) : ∀ x ∈ wpw m t, x ≠ 0 := by
  unfold wpw
  split
  · exact rep_nz nz _
  · exact rep_nz (iv_nz0 nz) _
section
variable {L : Int} {n : Nat} {D : Dd} (h : Dr L n D) {p : Pc} (hp : PcOk n D p) {m : List Int} (nz : ∀ x ∈ m, x ≠ 0)
include h hp nz
theorem orb_ok (t : Int) : PcOk n D (orb D p m t) := act_ok h hp (wpw_nz nz t)
theorem orb_succ (t : Int) : act D (orb D p m t) m = orb D p m (t + 1) := by
  by_cases ht : 0 ≤ t
  · obtain ⟨k, rfl⟩ := Int.eq_ofNat_of_zero_le ht
    rw [show ((k : Int) + 1) = ((k + 1 : Nat) : Int) by omega, orb_nat, orb_nat, rep_addW, rep_oneW, act_app]
  · obtain ⟨k, e⟩ : ∃ k : Nat, t = -((k : Int) + 1) := ⟨(-t - 1).toNat, by omega⟩
    subst e
    have e1 : orb D p m (-((k : Int) + 1)) = act D (act D p (rep (iv m) k)) (iv m) := by
      unfold orb wpw
      rw [if_neg ht, show (-(-((k : Int) + 1))).toNat = k + 1 by omega, rep_addW, rep_oneW, act_app]
    have e2 : orb D p m (-((k : Int) + 1) + 1) = act D p (rep (iv m) k) := by
      unfold orb wpw
      by_cases hk : k = 0
      · subst hk
        rw [if_pos (by omega)]
        rfl
      · rw [if_neg (by omega), show (-(-((k : Int) + 1) + 1)).toNat = k by omega]
    rw [e1, e2]
    have := act_back h (act_ok h hp (rep_nz (iv_nz0 nz) k)) (iv_nz0 nz)
    rw [iv_iv] at this
    exact this
variable (hm : m ≠ []) (g : Gd (m ++ m)) (hno : ∀ q : Nat, 1 ≤ q → q ≤ n → orb D p m q ≠ p)
include hm g hno
end
end Z
namespace Z
open PySem PySem.Spec L2
end Z
namespace Z
open PySem PySem.Spec L2
section
variable {L : Int} {n : Nat} {D : Dd} (h : Dr L n D)
include h
theorem orb_uniq {p : Pc} (hp : PcOk n D p) {m : List Int} (nz : ∀ x ∈ m, x ≠ 0) (Y : Int → Pc) (hY : ∀ t, PcOk n D (Y t)) (h0 : Y 0 = p) (hs : ∀ t, act D (Y t) m = Y (t + 1)) (t : Int) : Y t = orb D p m t := by
  have up : ∀ k : Nat, Y (k : Int) = orb D p m k := fun k => by
    induction k with
    | zero => exact h0
    | succ k ih => rw [show ((k + 1 : Nat) : Int) = (k : Int) + 1 by omega, ← hs, ih, orb_succ h hp nz]
  have dn : ∀ k : Nat, Y (-(k : Int)) = orb D p m (-(k : Int)) := fun k => by
    induction k with
    | zero => exact h0
    | succ k ih =>
      refine act_inj h (hY _) (orb_ok h hp nz _) nz ?_
      rw [hs, orb_succ h hp nz, show (-((k + 1 : Nat) : Int)) + 1 = -(k : Int) by omega, ih]
  by_cases ht : 0 ≤ t
  · obtain ⟨k, rfl⟩ := Int.eq_ofNat_of_zero_le ht
    exact up k
  · obtain ⟨k, e⟩ : ∃ k : Nat, t = -(k : Int) := ⟨(-t).toNat, by omega⟩
    subst e
    exact dn k
theorem orb_congr {p : Pc} (hp : PcOk n D p) {u v : List Int} (nu : ∀ x ∈ u, x ≠ 0) (nv : ∀ x ∈ v, x ≠ 0) (e : ∀ q, PcOk n D q → act D q u = act D q v) (t : Int) : orb D p u t = orb D p v t :=
  orb_uniq h hp nv (orb D p u) (orb_ok h hp nu) rfl (fun t => by rw [← e _ (orb_ok h hp nu t), orb_succ h hp nu]) t
theorem orb_red {p : Pc} (hp : PcOk n D p) {w : List Int} (nw : ∀ x ∈ w, x ≠ 0) (t : Int) : orb D p (red w) t = orb D p w t :=
  orb_congr h hp (red_mem nw) nw (fun _ hq => act_red h hq nw) t
theorem act_backR {p : Pc} (hp : PcOk n D p) {w : List Int} (nw : ∀ x ∈ w, x ≠ 0) : act D (act D p (iv w)) w = p := by
  have := act_back h hp (iv_nz0 nw)
  rw [iv_iv] at this
  exact this
theorem act_move {p q : Pc} (hp : PcOk n D p) (hq : PcOk n D q) {w : List Int} (nw : ∀ x ∈ w, x ≠ 0) : act D p w = q ↔ p = act D q (iv w) :=
  ⟨fun e => by rw [← e, act_back h hp nw], fun e => by rw [e, act_backR h hq nw]⟩
theorem orb_conj {p : Pc} (hp : PcOk n D p) {l m : List Int} (nl : ∀ x ∈ l, x ≠ 0) (nm : ∀ x ∈ m, x ≠ 0) (t : Int) : orb D p (l ++ m ++ iv l) t = act D (orb D (act D p l) m t) (iv l) := by
  have hp2 := act_ok h hp nl
  have nlm : ∀ x ∈ l ++ m ++ iv l, x ≠ 0 := fun x hx => by
    rcases List.mem_append.mp hx with hx | hx
    · rcases List.mem_append.mp hx with hx | hx
      · exact nl x hx
      · exact nm x hx
    · exact iv_nz0 nl x hx
  refine (orb_uniq h hp nlm (fun t => act D (orb D (act D p l) m t) (iv l)) (fun t => act_ok h (orb_ok h hp2 nm t) (iv_nz0 nl)) ?_ (fun t => ?_) t).symm
  · show act D (act D p l) (iv l) = p
    exact act_back h hp nl
  · show act D (act D (orb D (act D p l) m t) (iv l)) (l ++ m ++ iv l) = _
    rw [act_app, act_app, act_backR h (orb_ok h hp2 nm t) nl, orb_succ h hp2 nm]
end
theorem home_pc {L : Int} {n : Nat} {D : Dd} (_ : Dr L n D) (n1 : 1 ≤ n) : PcOk n D (0, []) := ⟨Int.le_refl _, by show (0 : Int) < n; omega, trivial, fun _ z => (nomatch z), fun _ z => (nomatch z)⟩
theorem sok_nz {L : Int} {w : List Int} (h : ∀ x ∈ w, Sok L x) : ∀ x ∈ w, x ≠ 0 := fun x hx => (h x hx).1
end Z
namespace Z
open PySem PySem.Spec L2
theorem act_goW {D : Dd} : ∀ (w : List Int) (a : Int), Gd w → match goW D a w with
    | some b => act D (a, []) w = (b, [])
    | none => (act D (a, []) w).2 ≠ []
  | [], a, _ => rfl
  | x :: w, a, g => by
    unfold goW
    rw [act_cons]
    cases e : go D a x with
    | some b =>
      rw [stp_walk e]
      exact act_goW w b (gd_tail g)
    | none =>
      rw [stp_open e]
      show (act D (a, [x]) w).2 ≠ []
      rw [act_push (by rw [← List.reverse_cons]; exact gd_rev g)]
      simp
theorem room_lp {L : Int} {n : Nat} {D : Dd} (h : Dr L n D) : ∀ (w : List Int) (o : Option Int), (∀ a, o = some a → 0 ≤ a ∧ a < n) → lp (fun (s2 : Int) (step3 : Int) => ((if (decide (0 ≤ s2)) = true then ((idx D s2).bind fun t7 => some ((dGet t7 step3).getD (-1))) else some s2 : Option Int).bind fun s8 => some s8)) w (o.getD (-1)) = some ((o.bind fun a => goW D a w).getD (-1))
  | [], o, _ => by cases o <;> rfl
  | x :: w, none, _ => by
    unfold lp
    exact bindS (a := -1) rfl (room_lp h w none fun _ z => nomatch z)
  | x :: w, some a, ho => by
    obtain ⟨a0, a1⟩ := ho a rfl
    unfold lp
    refine bindS (a := (go D a x).getD (-1)) (bindS ((if_pos (decide_eq_true a0)).trans (bindS (idx_row a0 (by rw [h.len]; exact a1)) rfl)) rfl) ((room_lp h w (go D a x) fun b hb => ?_).trans ?_)
    · obtain ⟨b0, b1, _⟩ := h.ok a x b a0 hb
      exact ⟨b0, b1⟩
    · show _ = some ((match go D a x with | some b => goW D b w | none => none).getD (-1))
      cases go D a x <;> rfl
theorem room_home {L : Int} {n : Nat} {D : Dd} (h : Dr L n D) (n1 : 1 ≤ n) {w : List Int} (nz : ∀ x ∈ w, x ≠ 0) : (goW D 0 (red w)).getD (-1) = 0 ↔ act D (0, []) w = (0, []) := by
  rw [← act_red h (home_pc h n1) nz]
  have := act_goW (D := D) (red w) 0 (red_gd w)
  cases e : goW D 0 (red w) with
  | some b =>
    rw [e] at this
    rw [this]
    show b = 0 ↔ (b, ([] : List Int)) = (0, [])
    constructor
    · intro z; rw [z]
    · intro z; exact congrArg (fun q : Int × List Int => q.1) z
  | none =>
    rw [e] at this
    constructor
    · intro z
      have z : (-1 : Int) = 0 := z
      omega
    · intro z
      exact absurd (by rw [z]) this
theorem goW_in {L : Int} {n : Nat} {D : Dd} (h : Dr L n D) : ∀ (w : List Int) (a : Int), 0 ≤ a → a < n → ∀ b, goW D a w = some b → 0 ≤ b ∧ b < n
  | [], a, a0, a1, b, e => by cases e; exact ⟨a0, a1⟩
  | x :: w, a, a0, a1, b, e => by
    unfold goW at e
    cases eg : go D a x with
    | none => rw [eg] at e; cases e
    | some c =>
      rw [eg] at e
      obtain ⟨c0, c1, _⟩ := h.ok a x c a0 eg
      exact goW_in h w c c0 c1 b e
end Z
namespace Z
open PySem PySem.Spec L2
def hel (P : Int → Bool) (most : Int) : List Int := (range' (-most) (most + 1)).filterMap fun t => if P t = true then some t else none
theorem rng_nd (a b : Int) : (range' a b).Nodup := by
  unfold range'
  rw [List.nodup_iff_pairwise_ne, List.pairwise_map]
  exact List.Pairwise.imp (fun {x y} h e => by omega) (List.pairwise_lt_range (n := (b - a).toNat))
theorem mem_rng' {a b x : Int} : x ∈ range' a b ↔ a ≤ x ∧ x < b := by
  refine ⟨mem_rng, fun h => ?_⟩
  unfold range'
  exact List.mem_map.mpr ⟨(x - a).toNat, List.mem_range.mpr (by omega), by omega⟩
def Fw (L : Int) (n : Nat) (ws : List (Int × List Int)) (o : List Int) : Prop := (∀ g, (dGet ws g).isSome = true ↔ g ∈ o) ∧ ws.length ≤ o.length ∧ ∀ g w, dGet ws g = some w → (∀ x ∈ w, Sok L x) ∧ w.length ≤ n
theorem Fw.mono {L : Int} {n m : Nat} {ws : List (Int × List Int)} {o : List Int} (h : Fw L n ws o) (k : n ≤ m) : Fw L m ws o := ⟨h.1, h.2.1, fun g w e => ⟨(h.2.2 g w e).1, Nat.le_trans (h.2.2 g w e).2 k⟩⟩
end Z
namespace Z
open PySem PySem.Spec L2
theorem lcA_some {γ β : Type} {f : γ → Option (Option β)} (g : γ → Option β) : ∀ {l : List γ} {w : List β}, (∀ y ∈ l, f y = some (g y)) → lcA f l w = some (w ++ l.filterMap g)
  | [], w, _ => by
    rw [List.filterMap_nil, List.append_nil]
    rfl
  | y :: l, w, h => by
    unfold lcA
    rw [h y List.mem_cons_self]
    have hl : ∀ z ∈ l, f z = some (g z) := fun z hz => h z (List.mem_cons_of_mem _ hz)
    cases e : g y with
    | none =>
      rw [List.filterMap_cons_none e]
      exact lcA_some g hl
    | some z =>
      rw [List.filterMap_cons_some e]
      show lcA f l (w ++ [z]) = _
      rw [lcA_some g hl, List.append_assoc]
      rfl
theorem lc2S_some {α γ β : Type} {ys : α → Option (List γ)} {m : α → γ → Option (Option β)} (L : α → List γ) (g : α → γ → Option β) : ∀ {xs : List α} {w : List β}, (∀ x ∈ xs, ys x = some (L x) ∧ ∀ y ∈ L x, m x y = some (g x y)) → lc2S ys m xs w = some (w ++ xs.flatMap fun x => (L x).filterMap (g x))
  | [], w, _ => by
    rw [List.flatMap_nil, List.append_nil]
    rfl
  | x :: xs, w, h => by
    unfold lc2S
    obtain ⟨h1, h2⟩ := h x List.mem_cons_self
    rw [h1]
    show (lcA (m x) (L x) w).bind _ = _
    rw [lcA_some (g x) h2]
    show lc2S ys m xs (w ++ (L x).filterMap (g x)) = _
    rw [lc2S_some L g fun z hz => h z (List.mem_cons_of_mem _ hz), List.append_assoc, List.flatMap_cons]
theorem lc2O_some {α γ β : Type} {ys : α → Option (List γ)} {m : α → γ → Option (Option β)} (L : α → List γ) (g : α → γ → Option β) {xs : List α} (h : ∀ x ∈ xs, ys x = some (L x) ∧ ∀ y ∈ L x, m x y = some (g x y)) (hl : (xs.flatMap fun x => (L x).filterMap (g x)).length < sizeLine) : lc2O ys m xs = some (xs.flatMap fun x => (L x).filterMap (g x)) := by
  unfold lc2O
  rw [lc2S_some L g h, List.nil_append]
  exact if_pos hl
def exR (n : Nat) (row : List Int) : List (List Int) := (range' 0 (n : Int)).filterMap fun a => if row.contains a then none else some (row ++ [a])
def rowsR (n : Nat) : Nat → List (List Int)
  | 0 => [[]]
  | k + 1 => (rowsR n k).flatMap (exR n)
theorem mem_rowsR {n : Nat} : ∀ {k : Nat} {row : List Int}, row ∈ rowsR n k ↔ row.length = k ∧ row.Nodup ∧ ∀ x ∈ row, 0 ≤ x ∧ x < n
  | 0, row => by
    unfold rowsR
    rw [List.mem_singleton]
    constructor
    · rintro rfl
      exact ⟨rfl, List.nodup_nil, fun _ z => nomatch z⟩
    · rintro ⟨h, _⟩
      exact List.length_eq_zero_iff.mp h
  | k + 1, row => by
    unfold rowsR
    rw [List.mem_flatMap]
    constructor
    · rintro ⟨u, hu, h⟩
      obtain ⟨h1, h2, h3⟩ := mem_rowsR.mp hu
      unfold exR at h
      obtain ⟨a, ha, e⟩ := List.mem_filterMap.mp h
      obtain ⟨a0, a1⟩ := mem_rng ha
      split at e
      · cases e
      · rename_i hc
        cases e
        refine ⟨by rw [List.length_append, h1]; rfl, ?_, fun x hx => ?_⟩
        · refine List.nodup_append.mpr ⟨h2, by simp, fun x hx y hy => ?_⟩
          rw [List.mem_singleton.mp hy]
          rintro rfl
          exact hc (by simpa using hx)
        · rcases List.mem_append.mp hx with hx | hx
          · exact h3 x hx
          · rw [List.mem_singleton.mp hx]
            exact ⟨a0, a1⟩
    · rintro ⟨h1, h2, h3⟩
      have hne : row ≠ [] := fun z => by rw [z] at h1; cases h1
      obtain ⟨u, a, rfl⟩ : ∃ u a, row = u ++ [a] := ⟨row.dropLast, row.getLast hne, (List.dropLast_concat_getLast hne).symm⟩
      have hn := List.nodup_append.mp h2
      refine ⟨u, mem_rowsR.mpr ⟨by rw [List.length_append] at h1; exact Nat.succ.inj h1, hn.1, fun x hx => h3 x (List.mem_append_left _ hx)⟩, ?_⟩
      obtain ⟨a0, a1⟩ := h3 a (List.mem_append_right _ List.mem_cons_self)
      unfold exR
      refine List.mem_filterMap.mpr ⟨a, mem_rng'.mpr ⟨a0, a1⟩, if_neg ?_⟩
      rw [List.contains_iff_mem]
      exact fun hx => hn.2.2 a hx a List.mem_cons_self rfl
end Z
namespace L25
open PySem PySem.Spec L2 Z
theorem flat_le {α β : Type} {g : α → List β} {c : Nat} : ∀ xs : List α, (∀ x ∈ xs, (g x).length ≤ c) → (xs.flatMap g).length ≤ c * xs.length
  | [], _ => Nat.zero_le _
  | x :: xs, h => by
    have := flat_le xs fun y hy => h y (List.mem_cons_of_mem _ hy)
    have h1 := h x List.mem_cons_self
    rw [List.flatMap_cons, List.length_append, List.length_cons, Nat.mul_add]
    omega
theorem exR_le (n : Nat) (row : List Int) : (exR n row).length ≤ n := by
  have := List.length_filterMap_le (fun a => if row.contains a then none else some (row ++ [a])) (range' 0 (n : Int))
  rw [rng_len] at this
  unfold exR
  omega
theorem rowsR_le (n : Nat) : ∀ k, (rowsR n k).length ≤ n ^ k
  | 0 => Nat.le_refl _
  | k + 1 => by
    have := flat_le (g := exR n) (c := n) (rowsR n k) fun x _ => exR_le n x
    have h2 := Nat.mul_le_mul_left n (rowsR_le n k)
    rw [Nat.pow_succ, Nat.mul_comm]
    exact Nat.le_trans this h2
theorem rows_ok {n k : Nat} (hn : n ≤ 5) (hk : k ≤ 5) : m_p_rows_of_rooms (n : Int) (k : Int) = some (rowsR n k) := by
  unfold m_p_rows_of_rooms
  have key : ∃ r, ((rngO 0 (k : Int)).bind fun t1 => ((lp (fun (s2 : (List (List Int))) (turn3 : Int) => ((lc2O (fun (row7 : (List Int)) => (((rngO 0 (n : Int)).bind fun t9 => some t9) : Option (List Int))) (fun (row7 : (List Int)) (room8 : Int) => (if (!row7.contains room8) = true then ((catO (α := Int) row7 ([room8])).bind fun t10 => some (some t10)) else some none : Option (Option (List Int)))) s2).bind fun t11 => some t11)) t1 ([([] : (List Int))])).bind fun f4 => some f4)) = some r ∧ r = rowsR n k := by
    have hr : (range' 0 (k : Int)).length = k := by rw [rng_len]; omega
    refine bndX (rngO_ok (by omega)) (lpX (fun i (s : List (List Int)) => s = rowsR n i) rfl (fun i x s hx hs => ?_) (fun s hs => ⟨_, rfl, by rw [hs, hr]⟩))
    have hi : i < k := by rw [← hr]; exact (List.getElem?_eq_some_iff.mp hx).1
    subst hs
    have hl : (rowsR n (i + 1)).length ≤ 5 ^ 5 := Nat.le_trans (rowsR_le n (i + 1)) (Nat.le_trans (Nat.pow_le_pow_left hn _) (Nat.pow_le_pow_right (by decide) (by omega)))
    have h5 : (5 : Nat) ^ 5 = 3125 := by decide
    refine ⟨rowsR n (i + 1), bindS (lc2O_some (fun _ => range' 0 (n : Int)) (fun row a => if row.contains a then none else some (row ++ [a])) (fun row hrow => ⟨bindS (rngO_ok (by omega)) rfl, fun a ha => ?_⟩) (by rw [sizeL]; show (rowsR n (i + 1)).length < _; omega)) rfl, rfl⟩
    have rl := (mem_rowsR.mp hrow).1
    by_cases c : row.contains a = true
    · rw [if_neg (by rw [c]; decide), if_pos c]
    · rw [if_pos (by rw [Bool.not_eq_true] at c; rw [c]; rfl), if_neg c]
      exact bindS (cat_ok (by rw [sizeL, rl]; show i + 1 ≤ _; omega)) rfl
  obtain ⟨r, e, rfl⟩ := key
  exact e
end L25
namespace Z
open PySem PySem.Spec L2
def upH (h : List Int) (a : Int) : Int := h.getD a.toNat 0
structure Hd (m : Nat) (h : List Int) : Prop where
  len : h.length = m
  le : ∀ a : Int, 0 ≤ a → a < m → 0 ≤ upH h a ∧ upH h a ≤ a
def hdN (h : List Int) : Nat → Int → Int
  | 0, a => a
  | n + 1, a => if upH h a = a then a else hdN h n (upH h a)
def hd (h : List Int) (a : Int) : Int := hdN h (a.toNat + 1) a
section
variable {m : Nat} {h : List Int} (H : Hd m h) {g k : Int} (g0 : 0 ≤ g) (g1 : g < m) (k0 : 0 ≤ k) (kg : k < g) (eg : upH h g = g) (ek : upH h k = k)
include H g0 g1 k0 kg
theorem up_set {a : Int} (a0 : 0 ≤ a) : upH (h.set g.toNat k) a = if a = g then k else upH h a := by
  unfold upH
  rw [getD_set' h g.toNat a.toNat k 0 (by rw [H.len]; omega)]
  by_cases e : a = g
  · rw [if_pos (by omega), if_pos e]
  · rw [if_neg (by omega), if_neg e]
theorem Hd.set : Hd m (h.set g.toNat k) := ⟨by rw [List.length_set]; exact H.len, fun a a0 a1 => by
  rw [up_set H g0 g1 k0 kg a0]
  split
  · omega
  · exact H.le a a0 a1⟩
include eg ek
end
/-- one and the same behind all joinings that are noted -/
def Cl2 (m : Nat) (h : List Int) (J : List (Int × Int)) (x y : Int) : Prop := ∀ E : Int → Int → Prop, Equivalence E → (∀ a : Int, 0 ≤ a → a < m → E a (hd h a)) → (∀ p ∈ J, E p.1 p.2) → E x y
theorem Cl2.refl {m : Nat} {h : List Int} {J : List (Int × Int)} (x : Int) : Cl2 m h J x x := fun E e _ _ => e.refl x
theorem Cl2.trans {m : Nat} {h : List Int} {J : List (Int × Int)} {x y z : Int} (a : Cl2 m h J x y) (b : Cl2 m h J y z) : Cl2 m h J x z := fun E e u v => e.trans (a E e u v) (b E e u v)
theorem Cl2.mono {m : Nat} {h : List Int} {J J' : List (Int × Int)} {x y : Int} (a : Cl2 m h J x y) (hj : ∀ p ∈ J, p ∈ J') : Cl2 m h J' x y := fun E e u v => a E e u fun p hp => v p (hj p hp)
/-- folding by equivalence classes -/
def Closed (Wy : Int → Int → Int → Prop) (E : Int → Int → Prop) : Prop := ∀ a a' s b b', Wy a s b → Wy a' s b' → E a a' → E b b'
structure Fo (L : Int) (m : Nat) (Wy dn : Int → Int → Int → Prop) (h : List Int) (D : Dd) (J : List (Int × Int)) (P : List (Int × Int × Int)) : Prop where
  hh : Hd m h
  len : D.length = m
  nd : ∀ d ∈ D, (d.map Prod.fst).Nodup
  sd : ∀ r s g, 0 ≤ r → go D r s = some g → ∃ a, Wy a s g ∧ hd h a = r
  sp : ∀ q ∈ P, ∃ a, Wy a q.2.1 q.2.2 ∧ hd h a = q.1
  rt : ∀ a s b, dn a s b → (∃ x, go D (hd h a) s = some x ∧ Cl2 m h J x b) ∨ ∃ x, (hd h a, s, x) ∈ P ∧ Cl2 m h J x b
  ej : ∀ p ∈ J, 0 ≤ p.1 ∧ p.1 < m ∧ 0 ≤ p.2 ∧ p.2 < m
  le : ∀ E : Int → Int → Prop, Equivalence E → Closed Wy E → (∀ a : Int, 0 ≤ a → a < m → E a (hd h a)) ∧ ∀ p ∈ J, E p.1 p.2
  dw : ∀ a s b, dn a s b → Wy a s b
structure WyB (L : Int) (m : Nat) (Wy : Int → Int → Int → Prop) : Prop where
  bd : ∀ a s b, Wy a s b → 0 ≤ a ∧ a < m ∧ 0 ≤ b ∧ b < m ∧ Sok L s
  sy : ∀ a s b, Wy a s b → Wy b (-s) a
section
variable {L : Int} {m : Nat} {Wy dn : Int → Int → Int → Prop} (B : WyB L m Wy) (h4 : L ≤ 4) (hm : m ≤ 3999)
include B h4
theorem Fo.small {h : List Int} {D : Dd} {J : List (Int × Int)} {P : List (Int × Int × Int)} (I : Fo L m Wy dn h D J P) {a : Int} (a0 : 0 ≤ a) : (row D a).length ≤ 8 := by
  by_cases a1 : a < D.length
  · refine small_of (I.nd _ (row_mem a0 a1)) fun k v e => ?_
    obtain ⟨b, w, _⟩ := I.sd a k v a0 e
    have := (B.bd b k v w).2.2.2.2
    unfold Sok at this ⊢
    omega
  · have : row D a = [] := by
      unfold row
      rw [List.getD_eq_getElem?_getD, List.getElem?_eq_none (by omega)]
      rfl
    rw [this]
    decide
end
theorem flt_le {α : Type} {p q : α → Bool} : ∀ {l : List α}, (∀ x ∈ l, p x = true → q x = true) → (l.filter p).length ≤ (l.filter q).length
  | [], _ => Nat.le_refl _
  | x :: l, h => by
    have ih := flt_le (p := p) (q := q) (l := l) fun y hy => h y (List.mem_cons_of_mem _ hy)
    rw [List.filter_cons, List.filter_cons]
    cases e : p x with
    | true =>
      rw [h x List.mem_cons_self e]
      simp only [if_true, List.length_cons]
      omega
    | false =>
      cases e2 : q x <;> simp only [Bool.false_eq_true, if_false, if_true, List.length_cons] <;> omega
theorem flt_lt {α : Type} {p q : α → Bool} {g : α} : ∀ {l : List α}, (∀ x ∈ l, p x = true → q x = true) → g ∈ l → p g = false → q g = true → (l.filter p).length < (l.filter q).length
  | [], _, hg, _, _ => nomatch hg
  | x :: l, h, hg, hp, hq => by
    have ih := fun hg => flt_lt (p := p) (q := q) (g := g) (l := l) (fun y hy => h y (List.mem_cons_of_mem _ hy)) hg hp hq
    have il := flt_le (p := p) (q := q) (l := l) fun y hy => h y (List.mem_cons_of_mem _ hy)
    rw [List.filter_cons, List.filter_cons]
    rcases List.mem_cons.mp hg with e | hg
    · rw [← e, hp, hq]
      simp only [Bool.false_eq_true, if_false, if_true, List.length_cons]
      omega
    · have := ih hg
      cases e : p x with
      | true =>
        rw [h x List.mem_cons_self e]
        simp only [if_true, List.length_cons]
        omega
      | false => cases e2 : q x <;> simp only [Bool.false_eq_true, if_false, if_true, List.length_cons] <;> omega
theorem popO_snoc {α : Type} (xs : List α) (x : α) : popO (xs ++ [x]) = some (x, xs) := by
  unfold popO
  rw [List.getLast?_concat, List.dropLast_concat]
end Z
namespace Z
open PySem PySem.Spec L2
end Z
namespace Z
open PySem PySem.Spec L2
theorem unH_some {γ : Type} : ∀ l : List γ, unH (l.map some) = some l
  | [] => rfl
  | x :: l => by
    rw [List.map_cons]
    unfold unH
    rw [unH_some l]
    rfl
theorem setI_map {α β : Type} (f : α → β) (xs : List α) (z : Int) (x : α) : (setI xs z x).map f = setI (xs.map f) z (f x) := by
  unfold setI
  rw [List.map_set, List.length_map]
theorem setI_setI {α : Type} (xs : List α) (z : Int) (x y : α) : setI (setI xs z x) z y = setI xs z y := by
  unfold setI
  rw [List.length_set, List.set_set]
theorem setI_comm {α : Type} {xs : List α} {a b : Int} (a0 : 0 ≤ a) (a1 : a < xs.length) (b0 : 0 ≤ b) (b1 : b < xs.length) (hab : a ≠ b) (x y : α) : setI (setI xs a x) b y = setI (setI xs b y) a x := by
  rw [setI_nn a0 a1, setI_nn b0 b1, setI_nn b0 (by rw [List.length_set]; exact b1), setI_nn a0 (by rw [List.length_set]; exact a1)]
  exact List.set_comm _ _ (by omega)
theorem setI_rowB {D : Dd} {a : Int} (a0 : 0 ≤ a) (a1 : a < D.length) : setI D a (row D a) = D := by
  rw [setI_nn a0 a1]
  refine List.ext_getElem? fun i => ?_
  rw [List.getElem?_set]
  by_cases h : a.toNat = i
  · subst h
    have : a.toNat < D.length := by omega
    rw [if_pos rfl, if_pos this, List.getElem?_eq_getElem this]
    unfold row
    rw [List.getD_eq_getElem?_getD, List.getElem?_eq_getElem this]
    rfl
  · rw [if_neg h]
theorem idx_setI {α : Type} {xs : List α} {a b : Int} (a0 : 0 ≤ a) (a1 : a < xs.length) (b0 : 0 ≤ b) (x : α) : idx (setI xs a x) b = if a = b then some x else idx xs b := by
  by_cases b1 : b < xs.length
  · have h1 : (setI xs a x)[b.toNat]? = if a = b then some x else xs[b.toNat]? := by
      rw [setI_nn a0 a1, List.getElem?_set]
      by_cases e : a = b
      · rw [if_pos (by omega), if_pos e, if_pos (by omega)]
      · rw [if_neg (by omega), if_neg e]
    have h2 : ∀ {ys : List α}, idx ys b = ys[b.toNat]? := fun {ys} => by
      unfold idx atI ixN
      rw [if_pos b0]
      by_cases h : b < (ys.length : Int)
      · rw [if_pos h]
        rfl
      · rw [if_neg h]
        exact (List.getElem?_eq_none (by omega)).symm
    rw [h2, h1, h2]
  · have h2 : ∀ {ys : List α}, ys.length = xs.length → idx ys b = none := fun {ys} e => by
      unfold idx atI ixN
      rw [if_pos b0, if_neg (by omega)]
      rfl
    rw [h2 (setI_len _ _ _), h2 rfl, if_neg (by omega)]
/-- loops that are straight are kept -/
theorem loops_del {L : Int} {n : Nat} {D : Dd} (h : Dr L n D) {c r k g : Int} (r0 : 0 ≤ r) (hrc : r ≠ c) (hr : row D r = [(k, g)]) : ∀ (w : List Int) (a : Int), 0 ≤ a → a ≠ r → Gd w → goW D a w = some c → goW (delD D r k g) a w = some c
  | [], a, _, _, _, e => e
  | t :: w, a, a0, har, gw, e => by
    have hg0 : go D r k = some g := by
      unfold go
      rw [hr, dGet_cons, if_pos rfl]
    unfold goW at e ⊢
    cases hb : go D a t with
    | none => rw [hb] at e; cases e
    | some b =>
      rw [hb] at e
      obtain ⟨b0, _, _, hback⟩ := h.ok a t b a0 hb
      by_cases hbr : b = r
      · subst hbr
        exfalso
        have hk : k = -t := by
          unfold go at hback
          rw [hr, dGet_cons] at hback
          by_cases z : k = -t
          · exact z
          · rw [if_neg z] at hback
            cases hback
        cases w with
        | nil =>
          have e : some b = some c := e
          cases e
          exact hrc rfl
        | cons u w =>
          have e : (match go D b u with | some b => goW D b w | none => none) = some c := e
          have hu : u = k := by
            unfold go at e
            rw [hr, dGet_cons] at e
            by_cases z : k = u
            · exact z.symm
            · rw [if_neg z] at e
              cases e
          exact gw.1 (by rw [hu, hk])
      · have hd : go (delD D r k g) a t = some b := by
          rw [go_del r0 (go_lt r0 hg0) (h.ok r k g r0 hg0).1 (by rw [h.len]; exact (h.ok r k g r0 hg0).2.1) (h.ok r k g r0 hg0).2.2.1.1 a0, if_neg]
          · exact hb
          · rintro (⟨rfl, rfl⟩ | ⟨rfl, _⟩)
            · have := (h.ok r k a r0 hg0).2.2.2
              rw [this] at hb
              cases hb
              exact hbr rfl
            · exact har rfl
        rw [hd]
        exact loops_del h r0 hrc hr w b b0 hbr (gd_tail gw) e
def tmF (home : Int) (s11 : List Int × Dd) : Option (Step Dd (List Int × Dd)) :=
  (((popO s11.1).bind fun t16 => ((idx s11.2 t16.1).bind fun t17 => ((lp (fun (s18 : ((List Int) × (List (Option (List (Int × Int)))))) (x19 : (Int × Int)) => ((idxH s18.2 x19.2).bind fun t23 => (dPopO t23 (-x19.1)).bind fun t24 => ((if (!decide (x19.2 = home)) = true then ((idxH (setI s18.2 x19.2 (some t24.2)) x19.2).bind fun t25 => some (decide ((t25.length : Int) = 1))) else some false).bind fun t26 => ((if t26 = true then ((appO s18.1 x19.2).bind fun t27 => some t27) else some s18.1 : Option (List Int)).bind fun s28 => some (s28, (setI s18.2 x19.2 (some t24.2))))))) t17 (t16.2, (setI (List.map some s11.2) t16.1 none))).bind fun f20 => ((idx f20.2 t16.1).bind fun t30 => (unH (setI f20.2 t16.1 (some ([] : (List (Int × Int)))))).bind fun t31 => some (Step.go (f20.1, t31)))))))
theorem tmF_ok {L : Int} {n : Nat} {D : Dd} (h : Dr L n D) {home r : Int} {idle : List Int} (r0 : 0 ≤ r) (r1 : r < n) (hl : (row D r).length ≤ 1) (hi : idle.length < 10000000) :
    ∃ idle' D', tmF home (idle ++ [r], D) = some (Step.go (idle', D')) ∧ ((row D r = [] ∧ D' = D ∧ idle' = idle) ∨ ∃ k g, row D r = [(k, g)] ∧ g ≠ r ∧ D' = delD D r k g ∧ idle' = if g ≠ home ∧ (row D' g).length = 1 then idle ++ [g] else idle) := by
  have r2 : r < D.length := by rw [h.len]; exact r1
  have r3 : r < (D.map some).length := by rw [List.length_map]; exact r2
  unfold tmF
  rcases e : row D r with _ | ⟨⟨k, g⟩, t⟩
  · refine ⟨idle, D, ?_, .inl ⟨rfl, rfl, rfl⟩⟩
    refine bindS (popO_snoc _ _) (bindS (idx_row r0 r2) ?_)
    show ((lp _ (row D r) _).bind _) = _
    rw [e]
    refine bindS (a := (idle, setI (D.map some) r none)) rfl (bindS (a := none) ?_ (bindS (a := D) ?_ rfl))
    · rw [idx_setI r0 r3 r0, if_pos rfl]
    · show unH (setI (setI (D.map some) r none) r (some [])) = some D
      rw [setI_setI, ← e, ← setI_map, setI_rowB r0 r2]
      exact unH_some D
  · have ht : t = [] := by
      rw [e, List.length_cons] at hl
      exact List.eq_nil_of_length_eq_zero (by omega)
    subst ht
    have hg : go D r k = some g := by
      unfold go
      rw [e, dGet_cons, if_pos rfl]
    obtain ⟨g0, g1, sk, hb⟩ := h.ok r k g r0 hg
    have g2 : g < D.length := by rw [h.len]; exact g1
    have g3 : g < (D.map some).length := by rw [List.length_map]; exact g2
    have hgr : g ≠ r := fun z => by
      subst z
      unfold go at hb
      rw [e, dGet_cons] at hb
      have := sk.1
      rw [if_neg (by omega)] at hb
      cases hb
    have hD : delD D r k g = setI (setI D g (dDel (row D g) (-k))) r [] := by
      unfold delD
      rw [row_set r0 r2 g0, if_neg (Ne.symm hgr), e]
      rw [show dDel [(k, g)] k = [] from by simp [dDel]]
      exact setI_comm r0 r2 g0 g2 (Ne.symm hgr) _ _
    have hrow : row (delD D r k g) g = dDel (row D g) (-k) := by
      rw [hD, row_set r0 (by rw [setI_len]; exact r2) g0, if_neg (Ne.symm hgr), row_set g0 g2 g0, if_pos rfl]
    -- the walk over one door
    have i1 : idxH (setI (D.map some) r none) g = some (row D g) := by
      unfold idxH
      rw [idx_setI r0 r3 g0, if_neg (Ne.symm hgr), idx_mapS (idx_row g0 g2)]
      rfl
    have i2 : dPopO (row D g) (-k) = some (r, dDel (row D g) (-k)) := by
      unfold dPopO
      rw [show dGet (row D g) (-k) = some r from hb]
      rfl
    have i3 : idxH (setI (setI (D.map some) r none) g (some (dDel (row D g) (-k)))) g = some (dDel (row D g) (-k)) := by
      unfold idxH
      rw [idx_setI g0 (by rw [setI_len]; exact g3) g0, if_pos rfl]
      rfl
    have i4 : idx (setI (setI (D.map some) r none) g (some (dDel (row D g) (-k)))) r = some none := by
      rw [idx_setI g0 (by rw [setI_len]; exact g3) r0, if_neg hgr, idx_setI r0 r3 r0, if_pos rfl]
    have i5 : unH (setI (setI (setI (D.map some) r none) g (some (dDel (row D g) (-k)))) r (some [])) = some (delD D r k g) := by
      rw [setI_comm r0 r3 g0 g3 (Ne.symm hgr), setI_setI, hD, ← setI_map, ← setI_map]
      exact unH_some _
    refine ⟨if g ≠ home ∧ (row (delD D r k g) g).length = 1 then idle ++ [g] else idle, delD D r k g, ?_, .inr ⟨k, g, rfl, hgr, rfl, rfl⟩⟩
    refine bindS (popO_snoc _ _) (bindS (idx_row r0 r2) ?_)
    show ((lp _ (row D r) _).bind _) = _
    rw [e]
    refine bindS (a := (if g ≠ home ∧ (row (delD D r k g) g).length = 1 then idle ++ [g] else idle, setI (setI (D.map some) r none) g (some (dDel (row D g) (-k))))) ?_ (bindS i4 (bindS i5 rfl))
    unfold lp
    refine bindS (bindS i1 (bindS i2 (bindS (a := decide (g ≠ home ∧ (row (delD D r k g) g).length = 1)) ?_ (bindS (a := if g ≠ home ∧ (row (delD D r k g) g).length = 1 then idle ++ [g] else idle) ?_ rfl)))) rfl
    · rw [hrow]
      by_cases z : g = home
      · exact (if_neg (by simp [z])).trans (by simp [z])
      · refine (if_pos (by simp [z])).trans (bindS i3 ?_)
        simp [z]
        omega
    · by_cases z : g ≠ home ∧ (row (delD D r k g) g).length = 1
      · rw [if_pos z]
        exact (if_pos (decide_eq_true z)).trans (bindS (app_ok (by show idle.length < _; rw [sizeL]; omega)) rfl)
      · rw [if_neg z]
        exact if_neg (by simpa using z)
structure Trm (L : Int) (n : Nat) (home : Int) (D0 D : Dd) (idle : List Int) : Prop where
  dr : Dr L n D
  sub : ∀ a s b, 0 ≤ a → go D a s = some b → go D0 a s = some b
  lo : ∀ w, Gd w → goW D0 home w = some home → goW D home w = some home
  id1 : ∀ r ∈ idle, 0 ≤ r ∧ r < n ∧ r ≠ home ∧ (row D r).length ≤ 1
  id2 : ∀ a : Int, 0 ≤ a → a < n → a ≠ home → (row D a).length = 1 → a ∈ idle
def neR (n : Nat) (D : Dd) : Nat := ((range' 0 (n : Int)).filter fun a => decide (row D a ≠ [])).length
theorem Trm.step {L : Int} {n : Nat} {home : Int} (hh : 0 ≤ home) {D0 D : Dd} {idle : List Int} {r : Int} (T : Trm L n home D0 D (idle ++ [r])) (hi : idle.length < 10000000) :
    ∃ idle' D', tmF home (idle ++ [r], D) = some (Step.go (idle', D')) ∧ Trm L n home D0 D' idle' ∧ idle'.length + neR n D' < (idle.length + 1) + neR n D := by
  obtain ⟨r0, r1, rh, rl⟩ := T.id1 r (List.mem_append_right _ List.mem_cons_self)
  obtain ⟨idle', D', e, hc⟩ := tmF_ok (home := home) T.dr r0 r1 rl hi
  refine ⟨idle', D', e, ?_⟩
  rcases hc with ⟨hr, rfl, rfl⟩ | ⟨k, g, hr, hgr, rfl, rfl⟩
  · refine ⟨⟨T.dr, T.sub, T.lo, fun x hx => T.id1 x (List.mem_append_left _ hx), fun a a0 a1 ah al => ?_⟩, by omega⟩
    rcases List.mem_append.mp (T.id2 a a0 a1 ah al) with z | z
    · exact z
    · rw [List.mem_singleton.mp z, hr] at al
      cases al
  · have hg : go D r k = some g := by
      unfold go
      rw [hr, dGet_cons, if_pos rfl]
    obtain ⟨g0, g1, sk, hb⟩ := T.dr.ok r k g r0 hg
    have rl' : r < D.length := by rw [T.dr.len]; exact r1
    have gl' : g < D.length := by rw [T.dr.len]; exact g1
    have d2 := T.dr.del r0 hg
    have rw1 : ∀ x : Int, 0 ≤ x → row (delD D r k g) x = if x = g then dDel (row D g) (-k) else if x = r then [] else row D x := fun x x0 => by
      unfold delD
      rw [row_set g0 (by rw [setI_len]; exact gl') x0, row_set r0 rl' g0, if_neg (Ne.symm hgr), row_set r0 rl' x0, hr]
      by_cases e1 : x = g
      · rw [if_pos e1.symm, if_pos e1]
      · rw [if_neg (fun z => e1 z.symm), if_neg e1]
        by_cases e2 : x = r
        · rw [if_pos e2.symm, if_pos e2]
          simp [dDel]
        · rw [if_neg (fun z => e2 z.symm), if_neg e2]
    refine ⟨⟨d2, fun a s b a0 hx => ?_, fun w gw hw => ?_, fun x hx => ?_, fun a a0 a1 ah al => ?_⟩, ?_⟩
    · rw [go_del r0 rl' g0 gl' sk.1 a0] at hx
      split at hx
      · cases hx
      · exact T.sub a s b a0 hx
    · exact loops_del T.dr r0 rh hr w home hh (Ne.symm rh) gw (T.lo w gw hw)
    · have old : ∀ y ∈ idle, 0 ≤ y ∧ y < n ∧ y ≠ home ∧ (row (delD D r k g) y).length ≤ 1 := fun y hy => by
        obtain ⟨y0, y1, yh, yl⟩ := T.id1 y (List.mem_append_left _ hy)
        refine ⟨y0, y1, yh, ?_⟩
        rw [rw1 y y0]
        split
        · rename_i e1
          rw [e1] at yl
          have : (dDel (row D g) (-k)).length ≤ (row D g).length := List.length_filter_le _ _
          omega
        · split
          · exact Nat.zero_le _
          · exact yl
      split at hx
      · rename_i z
        rcases List.mem_append.mp hx with hx | hx
        · exact old x hx
        · rw [List.mem_singleton.mp hx]
          exact ⟨g0, g1, z.1, by rw [z.2]; exact Nat.le_refl _⟩
      · exact old x hx
    · by_cases e1 : a = g
      · subst e1
        rw [if_pos ⟨ah, al⟩]
        exact List.mem_append_right _ List.mem_cons_self
      · have ra : row (delD D r k g) a = if a = r then [] else row D a := by rw [rw1 a a0, if_neg e1]
        by_cases e2 : a = r
        · rw [ra, if_pos e2] at al
          cases al
        · rw [ra, if_neg e2] at al
          have : a ∈ idle := by
            rcases List.mem_append.mp (T.id2 a a0 a1 ah al) with z | z
            · exact z
            · exact absurd (List.mem_singleton.mp z) e2
          split
          · exact List.mem_append_left _ this
          · exact this
    · have lt : neR n (delD D r k g) < neR n D := by
        refine flt_lt (g := r) (fun x hx hp => ?_) (mem_rng'.mpr ⟨r0, r1⟩) ?_ (by simp [hr])
        · have x0 := (mem_rng hx).1
          rw [rw1 x x0] at hp
          refine decide_eq_true fun z => ?_
          have hp := of_decide_eq_true hp
          split at hp
          · rename_i e1
            rw [e1] at z
            rw [z] at hp
            exact hp rfl
          · split at hp
            · exact hp rfl
            · exact hp z
        · rw [rw1 r r0, if_neg (Ne.symm hgr), if_pos rfl]
          simp
      have : (if g ≠ home ∧ (row (delD D r k g) g).length = 1 then idle ++ [g] else idle).length ≤ idle.length + 1 := by
        split
        · rw [List.length_append]
          exact Nat.le_refl _
        · omega
      omega
end Z
namespace Z
open PySem PySem.Spec L2
end Z
namespace Z
open PySem PySem.Spec L2
theorem goW_app {D : Dd} : ∀ (u v : List Int) (a : Int), goW D a (u ++ v) = (goW D a u).bind fun b => goW D b v
  | [], v, a => rfl
  | x :: u, v, a => by
    show (match go D a x with | some b => goW D b (u ++ v) | none => none) = ((match go D a x with | some b => goW D b u | none => none) : Option Int).bind _
    cases go D a x with
    | none => rfl
    | some b => exact goW_app u v b
theorem goW_sok {L : Int} {n : Nat} {D : Dd} (h : Dr L n D) : ∀ (w : List Int) (a b : Int), 0 ≤ a → goW D a w = some b → ∀ x ∈ w, Sok L x
  | [], _, _, _, _ => fun _ z => nomatch z
  | x :: w, a, b, a0, e => by
    unfold goW at e
    cases hg : go D a x with
    | none => rw [hg] at e; cases e
    | some c =>
      rw [hg] at e
      obtain ⟨c0, _, hx, _⟩ := h.ok a x c a0 hg
      intro y hy
      rcases List.mem_cons.mp hy with rfl | hy
      · exact hx
      · exact goW_sok h w c b c0 e y hy
end Z
namespace Z
open PySem PySem.Spec L2
end Z
namespace Z
open PySem PySem.Spec L2
def Sub (D1 D2 : Dd) (p0 : Pc) : Prop := ∀ w : List Int, (∀ x ∈ w, x ≠ 0) → act D1 (0, []) w = (0, []) → act D2 p0 w = p0
theorem room_walk {L : Int} {rows : List (List Int)} {E : Dd} (W : Web L rows E) {a : Int} (a0 : 0 ≤ a) (a1 : a < rows.length) : ∃ w, goW E 0 w = some a := by
  have hn := W.n1
  have hd := W.rep.1
  have key : ∀ i, ∀ x ∈ ord (nbr L E) i, ∃ w, goW E 0 w = some x := by
    intro i
    induction i with
    | zero => intro x hx; rw [List.mem_singleton.mp hx]; exact ⟨[], rfl⟩
    | succ i ih =>
      intro x hx
      unfold ord at hx
      cases e : (ord (nbr L E) i)[i]? with
      | none => rw [e] at hx; exact ih x hx
      | some b =>
        rw [e] at hx
        rcases visA_mem.mp hx with hx | hx
        · exact ih x hx
        · obtain ⟨w, hw⟩ := ih b (List.mem_of_getElem? e)
          obtain ⟨t, _, ht⟩ := List.mem_filterMap.mp hx
          refine ⟨w ++ [t], ?_⟩
          rw [goW_app, hw]
          show (match go E b t with | some b => goW E b [] | none => none) = _
          rw [ht]
          rfl
  refine key rows.length a ?_
  rw [W.bfs]
  exact mem_rng'.mpr ⟨a0, a1⟩
end Z
namespace Z
open PySem PySem.Spec L2
def Q_first_ways (letters : Int) (doors : (List (List (Int × Int)))) (home : Int) : Option (List (Int × (List Int))) :=
  ((Q_first_order letters doors home).bind fun t1 => ((lp (fun (s2 : (List (Int × (List Int)))) (room3 : Int) => ((Q_steps_of letters).bind fun t7 => ((lp (fun (s8 : (List (Int × (List Int)))) (step9 : Int) => ((idx doors room3).bind fun t13 => (match (dGet t13 step9) with | none => (some s8) | some goal14 => ((if (true && (!(dGet s8 goal14).isSome)) = true then ((dGet s8 room3).bind fun t15 => (catO (α := Int) t15 ([step9])).bind fun t16 => (dPutO s8 goal14 t16).bind fun t17 => some t17) else some s8 : Option (List (Int × (List Int)))).bind fun s18 => some s18)))) t7 s2).bind fun f10 => some f10))) t1 ([(home, ([] : (List Int)))])).bind fun f4 => some f4))
end Z
namespace Z
open PySem PySem.Spec L2
end Z
namespace Z
open PySem PySem.Spec L2
end Z
namespace Z
open PySem PySem.Spec L2
theorem Dr.app {L : Int} {n : Nat} {D : Dd} (h : Dr L n D) : Dr L (n + 1) (D ++ [[]]) ∧ (∀ a t, 0 ≤ a → go (D ++ [[]]) a t = go D a t) := by
  have hg : ∀ a t, 0 ≤ a → go (D ++ [[]]) a t = go D a t := fun a t a0 => by
    unfold go row
    rw [List.getD_eq_getElem?_getD, List.getD_eq_getElem?_getD]
    by_cases hl : a.toNat < D.length
    · rw [List.getElem?_append_left hl]
    · rw [List.getElem?_append_right (by omega), List.getElem?_eq_none_iff.mpr (show D.length ≤ a.toNat by omega)]
      cases e : a.toNat - D.length with
      | zero => rfl
      | succ k => rfl
  refine ⟨⟨by rw [List.length_append, h.len]; rfl, fun d hd => ?_, fun a s b a0 e => ?_⟩, hg⟩
  · rcases List.mem_append.mp hd with hd | hd
    · exact h.nd d hd
    · rw [List.mem_singleton.mp hd]
      exact List.nodup_nil
  · rw [hg a s a0] at e
    obtain ⟨b0, b1, hs, hb⟩ := h.ok a s b a0 e
    exact ⟨b0, by omega, hs, by rw [hg b _ b0]; exact hb⟩
end Z
namespace Z
open PySem PySem.Spec L2
end Z
namespace Z
open PySem PySem.Spec L2
def fwStep (D : Dd) (a : Int) (ws : List (Int × List Int)) (s : Int) : List (Int × List Int) := match go D a s with
  | none => ws
  | some g => if (dGet ws g).isSome = true then ws else dPut ws g ((dGet ws a).getD [] ++ [s])
def visS (D : Dd) (a : Int) (o : List Int) (s : Int) : List Int := match go D a s with
  | none => o
  | some g => vis o g
def fwRow (L : Int) (D : Dd) (ws : List (Int × List Int)) (a : Int) : List (Int × List Int) := (stL L).foldl (fwStep D a) ws
def fwAll (L : Int) (D : Dd) (l : List Int) : List (Int × List Int) := l.foldl (fwRow L D) [(0, [])]
theorem visS_all (D : Dd) (a : Int) : ∀ (ss o : List Int), ss.foldl (visS D a) o = visA o (ss.filterMap (go D a))
  | [], o => rfl
  | s :: ss, o => by
    rw [List.foldl_cons, visS_all D a ss]
    unfold visS
    cases e : go D a s with
    | none => rw [List.filterMap_cons_none e]
    | some g => rw [List.filterMap_cons_some e, visA_cons]
theorem fwStep_inv {L : Int} {n k : Nat} {D : Dd} (h : Dr L n D) {a : Int} (a0 : 0 ≤ a) {ws : List (Int × List Int)} {o wa : List Int} (hM : Fw L (k + 1) ws o) (hwa : dGet ws a = some wa) (wl : wa.length ≤ k) (wo : ∀ x ∈ wa, Sok L x) (s : Int) : Fw L (k + 1) (fwStep D a ws s) (visS D a o s) ∧ dGet (fwStep D a ws s) a = some wa := by
  unfold fwStep visS
  cases hg : go D a s with
  | none => exact ⟨hM, hwa⟩
  | some g =>
    obtain ⟨g0, _, sok, _⟩ := h.ok a s g a0 hg
    show Fw L (k + 1) (if (dGet ws g).isSome = true then ws else dPut ws g ((dGet ws a).getD [] ++ [s])) (vis o g) ∧ dGet (if (dGet ws g).isSome = true then ws else dPut ws g ((dGet ws a).getD [] ++ [s])) a = some wa
    by_cases hm : g ∈ o
    · have hv : vis o g = o := if_pos hm
      rw [hv, if_pos ((hM.1 g).mpr hm)]
      exact ⟨hM, hwa⟩
    · have hv : vis o g = o ++ [g] := if_neg hm
      have hnone : ¬ (dGet ws g).isSome = true := fun z => hm ((hM.1 g).mp z)
      rw [hv, if_neg hnone, hwa]
      have hga : g ≠ a := fun e => by
        rw [e, hwa] at hnone
        exact hnone rfl
      refine ⟨⟨fun x => ?_, ?_, fun x w e => ?_⟩, by rw [dGet_put, if_neg hga]; exact hwa⟩
      · rw [dGet_put, List.mem_append, List.mem_singleton]
        by_cases e : g = x
        · subst e; simp
        · rw [if_neg e, hM.1 x]
          exact ⟨.inl, fun z => z.elim id fun z => absurd z.symm e⟩
      · have := dput_len ws g ((some wa).getD [] ++ [s])
        have := hM.2.1
        rw [List.length_append]
        show _ ≤ o.length + 1
        omega
      · rw [dGet_put] at e
        by_cases eg : g = x
        · rw [if_pos eg] at e
          cases e
          refine ⟨fun y hy => ?_, by show (wa ++ [s]).length ≤ _; rw [List.length_append]; show wa.length + 1 ≤ _; omega⟩
          rcases List.mem_append.mp hy with hy | hy
          · exact wo y hy
          · exact List.mem_singleton.mp hy ▸ sok
        · rw [if_neg eg] at e
          exact hM.2.2 x w e
theorem prog_fw {L : Int} {n k : Nat} {D : Dd} (h : Dr L n D) (hk : k ≤ 10000) {a : Int} {wa : List Int} (wl : wa.length ≤ k) (wo : ∀ x ∈ wa, Sok L x) (a0 : 0 ≤ a) (a1 : a < D.length) : ∀ (ss o : List Int) (ws : List (Int × List Int)), o.length + ss.length ≤ 10000 → Fw L (k + 1) ws o → dGet ws a = some wa →
    lp (fun (s8 : (List (Int × (List Int)))) (step9 : Int) => ((idx D a).bind fun t13 => (match (dGet t13 step9) with | none => (some s8) | some goal14 => ((if (true && (!(dGet s8 goal14).isSome)) = true then ((dGet s8 a).bind fun t15 => (catO (α := Int) t15 ([step9])).bind fun t16 => (dPutO s8 goal14 t16).bind fun t17 => some t17) else some s8 : Option (List (Int × (List Int)))).bind fun s18 => some s18)))) ss ws = some (ss.foldl (fwStep D a) ws) ∧ Fw L (k + 1) (ss.foldl (fwStep D a) ws) (ss.foldl (visS D a) o) ∧ dGet (ss.foldl (fwStep D a) ws) a = some wa
  | [], o, ws, _, hM, hwa => ⟨rfl, hM, hwa⟩
  | s :: ss, o, ws, hl, hM, hwa => by
    rw [List.length_cons] at hl
    obtain ⟨i1, i2⟩ := fwStep_inv h a0 hM hwa wl wo s
    have vl : (visS D a o s).length ≤ o.length + 1 := by
      unfold visS
      cases go D a s with
      | none => exact Nat.le_succ _
      | some g =>
        show (vis o g).length ≤ _
        unfold vis
        split
        · exact Nat.le_succ _
        · rw [List.length_append]; exact Nat.le_refl _
    obtain ⟨e, q⟩ := prog_fw h hk wl wo a0 a1 ss (visS D a o s) (fwStep D a ws s) (by omega) i1 i2
    refine ⟨?_, q⟩
    unfold lp
    refine bindS (a := fwStep D a ws s) ?_ e
    refine bindS (idx_row a0 a1) ?_
    have hm2 := hM.2.1
    unfold fwStep
    cases hg : go D a s with
    | none =>
      have hg' : dGet (row D a) s = none := hg
      rw [hg']
    | some g =>
      have hg' : dGet (row D a) s = some g := hg
      rw [hg']
      by_cases hs : (dGet ws g).isSome = true
      · exact bindS (a := ws) (if_neg (by simp [hs])) (congrArg some (if_pos hs).symm)
      · refine bindS (a := dPut ws g (wa ++ [s])) ((if_pos (by simpa using hs)).trans (bindS hwa (bindS (cat_ok (by rw [sizeL]; show wa.length + 1 ≤ _; omega)) (bindS (putO_ok (by rw [sizeL]; omega)) rfl)))) ?_
        show some (dPut ws g (wa ++ [s])) = some (if (dGet ws g).isSome = true then ws else dPut ws g ((dGet ws a).getD [] ++ [s]))
        rw [if_neg hs, hwa]
        rfl
theorem fwAll_snoc (L : Int) (D : Dd) (l : List Int) (a : Int) : fwAll L D (l ++ [a]) = fwRow L D (fwAll L D l) a := by
  unfold fwAll
  rw [List.foldl_append]
  rfl
theorem take_snoc {l : List Int} {i : Nat} {a : Int} (h : l[i]? = some a) : l.take (i + 1) = l.take i ++ [a] := by
  obtain ⟨hi, e⟩ := List.getElem?_eq_some_iff.mp h
  rw [List.take_succ_eq_append_getElem hi, e]
theorem ord_row {L : Int} {D : Dd} {i : Nat} {a : Int} (h : (ord (nbr L D) i)[i]? = some a) : (stL L).foldl (visS D a) (ord (nbr L D) i) = ord (nbr L D) (i + 1) := by
  rw [visS_all]
  show _ = (match (ord (nbr L D) i)[i]? with | some a => visA (ord (nbr L D) i) (nbr L D a) | none => ord (nbr L D) i)
  rw [h]
  rfl
theorem fw_zero (L : Int) (D : Dd) : Fw L 0 (fwAll L D []) (ord (nbr L D) 0) := by
  refine ⟨fun g => ?_, Nat.le_refl _, fun g w e => ?_⟩
  · show (dGet [((0 : Int), ([] : List Int))] g).isSome = true ↔ g ∈ [(0 : Int)]
    rw [dGet_cons, List.mem_singleton]
    by_cases e : (0 : Int) = g
    · subst e; simp
    · rw [if_neg e]
      exact ⟨(fun z => by cases z), fun z => absurd z.symm e⟩
  · have e : dGet [((0 : Int), ([] : List Int))] g = some w := e
    rw [dGet_cons] at e
    split at e
    · cases e
      exact ⟨(fun _ z => nomatch z), Nat.le_refl _⟩
    · cases e
theorem first_waysW_ok {L : Int} {n : Nat} {D : Dd} (h : Dr L n D) (h1 : 1 ≤ L) (h4 : L ≤ 4) (n1 : 1 ≤ n) (n9 : n ≤ 4000) : Q_first_ways L D 0 = some (fwAll L D (ord (nbr L D) n)) ∧ Fw L n (fwAll L D (ord (nbr L D) n)) (ord (nbr L D) n) := by
  have hnb := h.nbr
  have l8 := stL_len h1 h4
  have ol := ord_len n1 hnb n
  obtain ⟨ws, e, ew, hF⟩ := lp_goN (f := (fun (s2 : (List (Int × (List Int)))) (room3 : Int) => ((Q_steps_of L).bind fun t7 => ((lp (fun (s8 : (List (Int × (List Int)))) (step9 : Int) => ((idx D room3).bind fun t13 => (match (dGet t13 step9) with | none => (some s8) | some goal14 => ((if (true && (!(dGet s8 goal14).isSome)) = true then ((dGet s8 room3).bind fun t15 => (catO (α := Int) t15 ([step9])).bind fun t16 => (dPutO s8 goal14 t16).bind fun t17 => some t17) else some s8 : Option (List (Int × (List Int)))).bind fun s18 => some s18)))) t7 s2).bind fun f10 => some f10)))) (xs := ord (nbr L D) n) (fun i ws => ws = fwAll L D ((ord (nbr L D) n).take i) ∧ Fw L i ws (ord (nbr L D) i)) (fun i a ws hx hs => by
    obtain ⟨rfl, hF⟩ := hs
    obtain ⟨hin, hat, _⟩ := ord_at n1 hnb hx
    have hmem := List.mem_of_getElem? hat
    obtain ⟨a0, a1⟩ := (ord_in n1 hnb i).1 a hmem
    have oi := ord_len n1 hnb i
    obtain ⟨wa, hwa⟩ := Option.isSome_iff_exists.mp ((hF.1 a).mpr hmem)
    obtain ⟨wo, wl⟩ := hF.2.2 a wa hwa
    obtain ⟨e, q, _⟩ := prog_fw h (k := i) (by omega) wl wo a0 (by rw [h.len]; exact a1) (stL L) (ord (nbr L D) i) _ (by omega) (hF.mono (by omega)) hwa
    rw [ord_row hat] at q
    refine ⟨_, bindS (steps_of_ok h1 h4) (bindS e rfl), ?_, q⟩
    rw [take_snoc hx, fwAll_snoc]
    rfl) (s0 := [(0, [])]) ⟨rfl, fw_zero L D⟩
  rw [List.take_length] at ew
  have hend : ord (nbr L D) (ord (nbr L D) n).length = ord (nbr L D) n := by
    refine ord_end n1 hnb ol ?_
    refine Classical.byContradiction fun hc => ?_
    obtain ⟨a, ha⟩ : ∃ a, (ord (nbr L D) (ord (nbr L D) n).length)[(ord (nbr L D) n).length]? = some a := ⟨_, List.getElem?_eq_getElem (by omega)⟩
    obtain ⟨t, et⟩ := ord_pre (nbr L D) (ord (nbr L D) n).length (n - (ord (nbr L D) n).length)
    rw [show (ord (nbr L D) n).length + (n - (ord (nbr L D) n).length) = n by omega] at et
    have := congrArg List.length et
    rw [List.length_append] at this
    omega
  rw [hend] at hF
  subst ew
  exact ⟨bindS (first_order_ok h h1 h4 n1 n9) (bindS e rfl), hF.mono ol⟩
end Z
namespace Z
open PySem PySem.Spec L2
theorem klt_snoc {u v : List Int} (s t : Int) (h : klt u v = true) : klt (u ++ [s]) (v ++ [t]) = true := by
  have key : ∀ u v : List Int, u.length = v.length → clt u v = true → clt (u ++ [s]) (v ++ [t]) = true := by
    intro u
    induction u with
    | nil =>
      intro v hl hc
      cases v with
      | nil => rw [clt_irr] at hc; cases hc
      | cons _ _ => cases hl
    | cons x u ih =>
      intro v hl hc
      cases v with
      | nil => cases hl
      | cons y v =>
        rw [clt_cons] at hc
        show clt (x :: (u ++ [s])) (y :: (v ++ [t])) = true
        rw [clt_cons]
        by_cases e : codeS x = codeS y
        · rw [if_pos e] at hc ⊢
          exact ih v (Nat.succ.inj hl) hc
        · rw [if_neg e] at hc ⊢
          exact hc
  by_cases hl : u.length = v.length
  · rw [klt_same hl] at h
    rw [klt_same (by rw [List.length_append, List.length_append, hl]; rfl)]
    exact key u v hl h
  · rw [klt_len hl, decide_eq_true_eq] at h
    rw [klt_len (by rw [List.length_append, List.length_append]; show u.length + 1 ≠ v.length + 1; omega), decide_eq_true_eq, List.length_append, List.length_append]
    show u.length + 1 < v.length + 1
    omega
theorem klt_last {s t : Int} (h : codeS s < codeS t) : ∀ u : List Int, klt (u ++ [s]) (u ++ [t]) = true := fun u => by
  rw [klt_same (by rw [List.length_append, List.length_append]; rfl)]
  induction u with
  | nil =>
    show clt [s] [t] = true
    rw [clt_cons, if_neg (by omega)]
    exact decide_eq_true h
  | cons x u ih =>
    show clt (x :: (u ++ [s])) (x :: (u ++ [t])) = true
    rw [clt_cons, if_pos rfl]
    exact ih
theorem klt_nil (u : List Int) (s : Int) : klt [] (u ++ [s]) = true := by
  rw [klt_len (by rw [List.length_append]; show 0 ≠ u.length + 1; omega), decide_eq_true_eq, List.length_append]
  show 0 < u.length + 1
  omega
def wv (ws : List (Int × List Int)) (g : Int) : List Int := (dGet ws g).getD []
/-- what holds while the room a is gone through, the steps pre behind -/
structure Fi (L : Int) (D : Dd) (ws : List (Int × List Int)) (o : List Int) (a : Int) (pre : List Int) : Prop where
  key : ∀ g, (dGet ws g).isSome = true ↔ g ∈ o
  zero : dGet ws 0 = some []
  led : ∀ g ∈ o, goW D 0 (wv ws g) = some g
  asc : ∀ (i j : Nat) (x y : Int), o[i]? = some x → o[j]? = some y → i < j → klt (wv ws x) (wv ws y) = true
  par : ∀ g ∈ o, wv ws g = [] ∨ ∃ v s, wv ws g = v ++ [s] ∧ (klt v (wv ws a) = true ∨ (v = wv ws a ∧ s ∈ pre))
theorem Fi.below {L : Int} {D : Dd} {ws : List (Int × List Int)} {o pre : List Int} {a t : Int} (f : Fi L D ws o a pre) (hp : ∀ s ∈ pre, codeS s < codeS t) {g : Int} (hg : g ∈ o) : klt (wv ws g) (wv ws a ++ [t]) = true := by
  rcases f.par g hg with e | ⟨v, s, e, h | ⟨rfl, h⟩⟩
  · rw [e]; exact klt_nil _ _
  · rw [e]; exact klt_snoc s t h
  · rw [e]; exact klt_last (hp s h) _
theorem Fi.step {L : Int} {n : Nat} {D : Dd} (h : Dr L n D) {ws : List (Int × List Int)} {o pre : List Int} {a t : Int} (a0 : 0 ≤ a) (f : Fi L D ws o a pre) (ha : a ∈ o) (hp : ∀ s ∈ pre, codeS s < codeS t) :
    Fi L D (fwStep D a ws t) (visS D a o t) a (pre ++ [t]) ∧ (∀ g ∈ o, wv (fwStep D a ws t) g = wv ws g) ∧ (∀ g ∈ o, g ∈ visS D a o t) ∧ ∀ g, go D a t = some g → g ∈ visS D a o t ∧ (wv (fwStep D a ws t) g = wv ws a ++ [t] ∨ klt (wv (fwStep D a ws t) g) (wv ws a ++ [t]) = true) := by
  have wid : Fi L D ws o a (pre ++ [t]) := ⟨f.key, f.zero, f.led, f.asc, fun g hg => (f.par g hg).imp id fun ⟨v, s, e, q⟩ => ⟨v, s, e, q.imp id fun q => ⟨q.1, List.mem_append_left _ q.2⟩⟩⟩
  unfold fwStep visS
  cases hgo : go D a t with
  | none => exact ⟨wid, fun _ _ => rfl, fun _ z => z, fun _ z => nomatch z⟩
  | some g =>
    show Fi L D (if (dGet ws g).isSome = true then ws else dPut ws g ((dGet ws a).getD [] ++ [t])) (vis o g) a (pre ++ [t]) ∧ (∀ x ∈ o, wv (if (dGet ws g).isSome = true then ws else dPut ws g ((dGet ws a).getD [] ++ [t])) x = wv ws x) ∧ (∀ x ∈ o, x ∈ vis o g) ∧ ∀ x, some g = some x → x ∈ vis o g ∧ (wv (if (dGet ws g).isSome = true then ws else dPut ws g ((dGet ws a).getD [] ++ [t])) x = wv ws a ++ [t] ∨ klt (wv (if (dGet ws g).isSome = true then ws else dPut ws g ((dGet ws a).getD [] ++ [t])) x) (wv ws a ++ [t]) = true)
    by_cases hm : g ∈ o
    · have hv : vis o g = o := if_pos hm
      rw [hv, if_pos ((f.key g).mpr hm)]
      refine ⟨wid, fun _ _ => rfl, fun _ z => z, fun x e => ?_⟩
      cases e
      exact ⟨hm, .inr (f.below hp hm)⟩
    · have hv : vis o g = o ++ [g] := if_neg hm
      have hnone : ¬ (dGet ws g).isSome = true := fun z => hm ((f.key g).mp z)
      rw [hv, if_neg hnone]
      have new : wv (dPut ws g ((dGet ws a).getD [] ++ [t])) g = wv ws a ++ [t] := by
        unfold wv
        rw [dGet_put, if_pos rfl]
        rfl
      have old : ∀ x ∈ o, wv (dPut ws g ((dGet ws a).getD [] ++ [t])) x = wv ws x := fun x hx => by
        have hgx : g ≠ x := fun e => hm (by rw [e]; exact hx)
        unfold wv
        rw [dGet_put, if_neg hgx]
      have h0 : (0 : Int) ∈ o := (f.key 0).mp (by rw [f.zero]; rfl)
      have hg0 : g ≠ 0 := fun e => hm (e ▸ h0)
      refine ⟨⟨fun x => ?_, by rw [dGet_put, if_neg hg0]; exact f.zero, fun x hx => ?_, fun i j x y hx hy hij => ?_, fun x hx => ?_⟩, old, fun x hx => List.mem_append_left _ hx, fun x e => by cases e; exact ⟨by simp, .inl new⟩⟩
      · rw [dGet_put, List.mem_append, List.mem_singleton]
        by_cases e : g = x
        · subst e; simp
        · rw [if_neg e, f.key x]
          exact ⟨.inl, fun z => z.elim id fun z => absurd z.symm e⟩
      · rcases List.mem_append.mp hx with hx | hx
        · rw [old x hx]
          exact f.led x hx
        · rw [List.mem_singleton.mp hx, new, goW_app, f.led a ha]
          show (match go D a t with | some b => goW D b [] | none => none) = some g
          rw [hgo]
          rfl
      · have hjl := (List.getElem?_eq_some_iff.mp hy).1
        rw [List.length_append] at hjl
        have hjl : j < o.length + 1 := hjl
        have hx' : o[i]? = some x := by rw [List.getElem?_append_left (by omega)] at hx; exact hx
        have mx := List.mem_of_getElem? hx'
        by_cases hj : j < o.length
        · rw [List.getElem?_append_left hj] at hy
          rw [old x mx, old y (List.mem_of_getElem? hy)]
          exact f.asc i j x y hx' hy hij
        · have ej : j = o.length := by omega
          rw [ej, List.getElem?_append_right (Nat.le_refl _), Nat.sub_self] at hy
          have ey : g = y := Option.some.inj hy
          rw [← ey, new, old x mx]
          exact f.below hp mx
      · rcases List.mem_append.mp hx with hx | hx
        · rw [old x hx, old a ha]
          exact wid.par x hx
        · rw [List.mem_singleton.mp hx, new, old a ha]
          exact .inr ⟨wv ws a, t, rfl, .inr ⟨rfl, by simp⟩⟩
/-- what is so of the pairs that are behind -/
def Done (D : Dd) (ws : List (Int × List Int)) (o : List Int) (b s : Int) : Prop := ∀ g, go D b s = some g → g ∈ o ∧ (wv ws g = wv ws b ++ [s] ∨ klt (wv ws g) (wv ws b ++ [s]) = true)
theorem Fi.all {L : Int} {n : Nat} {D : Dd} (h : Dr L n D) {a : Int} (a0 : 0 ≤ a) : ∀ (ss pre : List Int) (ws : List (Int × List Int)) (o : List Int), Fi L D ws o a pre → a ∈ o → (pre ++ ss).Pairwise (fun s t => codeS s < codeS t) →
    Fi L D (ss.foldl (fwStep D a) ws) (ss.foldl (visS D a) o) a (pre ++ ss) ∧ (∀ g ∈ o, wv (ss.foldl (fwStep D a) ws) g = wv ws g) ∧ (∀ g ∈ o, g ∈ ss.foldl (visS D a) o) ∧ (∀ b s, b ∈ o → Done D ws o b s → Done D (ss.foldl (fwStep D a) ws) (ss.foldl (visS D a) o) b s) ∧ ∀ s ∈ ss, Done D (ss.foldl (fwStep D a) ws) (ss.foldl (visS D a) o) a s
  | [], pre, ws, o, f, _, _ => by
    rw [List.append_nil]
    exact ⟨f, fun _ _ => rfl, fun _ z => z, fun _ _ _ z => z, fun _ z => nomatch z⟩
  | s :: ss, pre, ws, o, f, ha, hp => by
    have hp1 : ∀ x ∈ pre, codeS x < codeS s := fun x hx => (List.pairwise_append.mp hp).2.2 x hx s List.mem_cons_self
    obtain ⟨f1, k1, o1, d1⟩ := f.step h a0 ha hp1
    have e : pre ++ s :: ss = (pre ++ [s]) ++ ss := by rw [List.append_assoc]; rfl
    obtain ⟨f2, k2, o2, d2, n2⟩ := Fi.all h a0 ss (pre ++ [s]) (fwStep D a ws s) (visS D a o s) f1 (o1 a ha) (by rw [← e]; exact hp)
    rw [e]
    have carry : ∀ b t, b ∈ o → Done D ws o b t → Done D (fwStep D a ws s) (visS D a o s) b t := fun b t hb hd g hg => by
      obtain ⟨z1, z2⟩ := hd g hg
      rw [k1 g z1, k1 b hb]
      exact ⟨o1 g z1, z2⟩
    refine ⟨f2, fun g hg => by rw [List.foldl_cons, k2 g (o1 g hg), k1 g hg], fun g hg => o2 g (o1 g hg), fun b t hb hd => d2 b t (o1 b hb) (carry b t hb hd), fun t ht => ?_⟩
    rcases List.mem_cons.mp ht with rfl | ht
    · refine d2 a t (o1 a ha) fun g hg => ?_
      obtain ⟨z1, z2⟩ := d1 g hg
      rw [k1 a ha]
      exact ⟨z1, z2⟩
    · exact n2 t ht
theorem fw_all {L : Int} {n : Nat} {D : Dd} (h : Dr L n D) (h1 : 1 ≤ L) (h4 : L ≤ 4) (n1 : 1 ≤ n) : ∀ i : Nat, i ≤ (ord (nbr L D) n).length → (∀ g, (dGet (fwAll L D ((ord (nbr L D) n).take i)) g).isSome = true ↔ g ∈ ord (nbr L D) i) ∧ dGet (fwAll L D ((ord (nbr L D) n).take i)) 0 = some [] ∧ (∀ g ∈ ord (nbr L D) i, goW D 0 (wv (fwAll L D ((ord (nbr L D) n).take i)) g) = some g) ∧
    (∀ (p q : Nat) (x y : Int), (ord (nbr L D) i)[p]? = some x → (ord (nbr L D) i)[q]? = some y → p < q → klt (wv (fwAll L D ((ord (nbr L D) n).take i)) x) (wv (fwAll L D ((ord (nbr L D) n).take i)) y) = true) ∧
    (∀ a, (ord (nbr L D) n)[i]? = some a → ∀ g ∈ ord (nbr L D) i, wv (fwAll L D ((ord (nbr L D) n).take i)) g = [] ∨ ∃ v s, wv (fwAll L D ((ord (nbr L D) n).take i)) g = v ++ [s] ∧ klt v (wv (fwAll L D ((ord (nbr L D) n).take i)) a) = true) ∧
    (∀ (j : Nat) (b s : Int), j < i → (ord (nbr L D) n)[j]? = some b → s ∈ stL L → Done D (fwAll L D ((ord (nbr L D) n).take i)) (ord (nbr L D) i) b s)
  | 0, _ => by
    have z0 : fwAll L D ((ord (nbr L D) n).take 0) = [(0, [])] := rfl
    have o0 : ord (nbr L D) 0 = [0] := rfl
    rw [z0, o0]
    have w0 : wv [((0 : Int), ([] : List Int))] 0 = [] := rfl
    refine ⟨(fw_zero L D).1, rfl, fun g hg => ?_, fun p q x y hx hy hpq => ?_, fun a _ g hg => ?_, fun j b s hj => absurd hj (Nat.not_lt_zero _)⟩
    · rw [List.mem_singleton.mp hg]
      rfl
    · have := (List.getElem?_eq_some_iff.mp hy).1
      have : q < 1 := this
      omega
    · rw [List.mem_singleton.mp hg]
      exact .inl w0
  | i + 1, hi => by
    obtain ⟨a, ha⟩ : ∃ a, (ord (nbr L D) n)[i]? = some a := ⟨_, List.getElem?_eq_getElem (by omega)⟩
    obtain ⟨q1, q2, q3, q4, q5, q6⟩ := fw_all h h1 h4 n1 i (by omega)
    have hnb := h.nbr
    obtain ⟨hin, hat, _⟩ := ord_at n1 hnb ha
    have hmem := List.mem_of_getElem? hat
    obtain ⟨a0, a1⟩ := (ord_in n1 hnb i).1 a hmem
    have f : Fi L D (fwAll L D ((ord (nbr L D) n).take i)) (ord (nbr L D) i) a [] := ⟨q1, q2, q3, q4, fun g hg => (q5 a ha g hg).imp id fun ⟨v, s, e, z⟩ => ⟨v, s, e, .inl z⟩⟩
    obtain ⟨f2, k2, o2, d2, n2⟩ := Fi.all h a0 (stL L) [] _ _ f hmem (by rw [List.nil_append]; exact stL_srt h1 h4)
    rw [ord_row hat] at f2 o2 d2 n2
    have eq : fwAll L D ((ord (nbr L D) n).take (i + 1)) = (stL L).foldl (fwStep D a) (fwAll L D ((ord (nbr L D) n).take i)) := by
      rw [take_snoc ha, fwAll_snoc]
      rfl
    rw [eq]
    refine ⟨f2.key, f2.zero, f2.led, f2.asc, fun b hb g hg => ?_, fun j b s hj hb hs => ?_⟩
    · have hb2 : (ord (nbr L D) (i + 1))[i + 1]? = some b := (ord_at n1 hnb hb).2.1
      have ha2 : (ord (nbr L D) (i + 1))[i]? = some a := by
        obtain ⟨t, e⟩ := ord_ext (nbr L D) i
        rw [e, List.getElem?_append_left (List.getElem?_eq_some_iff.mp hat).1]
        exact hat
      have up := f2.asc i (i + 1) a b ha2 hb2 (by omega)
      rcases f2.par g hg with e | ⟨v, s, e, z | ⟨z, _⟩⟩
      · exact .inl e
      · exact .inr ⟨v, s, e, klt_trans z up⟩
      · exact .inr ⟨v, s, e, by rw [z]; exact up⟩
    · by_cases hji : j = i
      · subst hji
        rw [ha] at hb
        cases hb
        exact n2 s hs
      · have hbo : b ∈ ord (nbr L D) i := by
          obtain ⟨_, hbj, _⟩ := ord_at n1 hnb hb
          obtain ⟨t, e⟩ := ord_pre (nbr L D) j (i - j)
          rw [show j + (i - j) = i by omega] at e
          rw [e]
          exact List.mem_append_left _ (List.mem_of_getElem? hbj)
        exact d2 b s hbo (q6 j b s (by omega) hb hs)
end Z
namespace Z
open PySem PySem.Spec L2
theorem ord_fix {L : Int} {n : Nat} {D : Dd} (h : Dr L n D) (n1 : 1 ≤ n) : ord (nbr L D) (ord (nbr L D) n).length = ord (nbr L D) n := by
  have hnb := h.nbr
  have ol := ord_len n1 hnb n
  refine ord_end n1 hnb ol ?_
  refine Classical.byContradiction fun hc => ?_
  obtain ⟨t, et⟩ := ord_pre (nbr L D) (ord (nbr L D) n).length (n - (ord (nbr L D) n).length)
  rw [show (ord (nbr L D) n).length + (n - (ord (nbr L D) n).length) = n by omega] at et
  have := congrArg List.length et
  rw [List.length_append] at this
  omega
theorem fw_least {L : Int} {n : Nat} {D : Dd} (h : Dr L n D) (h1 : 1 ≤ L) (h4 : L ≤ 4) (n1 : 1 ≤ n) {u : List Int} {g : Int} (hu : goW D 0 u = some g) : ∃ w, dGet (fwAll L D (ord (nbr L D) n)) g = some w ∧ goW D 0 w = some g ∧ (w = u ∨ klt w u = true) := by
  obtain ⟨q1, q2, q3, _, _, q6⟩ := fw_all h h1 h4 n1 (ord (nbr L D) n).length (Nat.le_refl _)
  rw [List.take_length, ord_fix h n1] at q1 q3 q6
  rw [List.take_length] at q2
  have key : ∀ (k : Nat) (u : List Int) (g : Int), u.length = k → goW D 0 u = some g → g ∈ ord (nbr L D) n ∧ (wv (fwAll L D (ord (nbr L D) n)) g = u ∨ klt (wv (fwAll L D (ord (nbr L D) n)) g) u = true) := by
    intro k
    induction k with
    | zero =>
      intro u g hl e
      have : u = [] := List.eq_nil_of_length_eq_zero hl
      subst this
      cases e
      exact ⟨(q1 0).mp (by rw [q2]; rfl), .inl (by unfold wv; rw [q2]; rfl)⟩
    | succ k ih =>
      intro u g hl e
      obtain ⟨v, s, rfl⟩ : ∃ v s, u = v ++ [s] := ⟨u.dropLast, u.getLast (by intro z; rw [z] at hl; cases hl), (List.dropLast_concat_getLast _).symm⟩
      rw [List.length_append] at hl
      have hl : v.length + 1 = k + 1 := hl
      rw [goW_app] at e
      cases ev : goW D 0 v with
      | none => rw [ev] at e; cases e
      | some a =>
        rw [ev] at e
        have e : (match go D a s with | some b => goW D b [] | none => none) = some g := e
        cases es : go D a s with
        | none => rw [es] at e; cases e
        | some b =>
          rw [es] at e
          have e : some b = some g := e
          cases e
          obtain ⟨z1, z2⟩ := ih v a (by omega) ev
          obtain ⟨a0, a1⟩ := (ord_in n1 h.nbr n).1 a z1
          obtain ⟨j, hj⟩ := List.mem_iff_getElem?.mp z1
          obtain ⟨y1, y2⟩ := q6 j a s (List.getElem?_eq_some_iff.mp hj).1 hj (mem_stL.mpr (h.ok a s g a0 es).2.2.1) g es
          refine ⟨y1, ?_⟩
          rcases z2 with z2 | z2
          · rw [z2] at y2
            exact y2
          · rcases y2 with y2 | y2
            · exact .inr (by rw [y2]; exact klt_snoc s s z2)
            · exact .inr (klt_trans y2 (klt_snoc s s z2))
  obtain ⟨z1, z2⟩ := key u.length u g rfl hu
  obtain ⟨w, ew⟩ := Option.isSome_iff_exists.mp ((q1 g).mpr z1)
  have e : wv (fwAll L D (ord (nbr L D) n)) g = w := by unfold wv; rw [ew]; rfl
  have := q3 g z1
  rw [e] at z2 this
  exact ⟨w, ew, this, z2⟩
end Z
namespace Z
open PySem PySem.Spec L2
end Z
namespace Z
open PySem PySem.Spec L2
structure TrA (L : Int) (n : Nat) (home : Int) (D0 D : Dd) : Prop where
  dr : Dr L n D
  sub : ∀ a s b, 0 ≤ a → go D a s = some b → go D0 a s = some b
  lo : ∀ w, Gd w → goW D0 home w = some home → goW D home w = some home
theorem TrA.del {L : Int} {n : Nat} {home : Int} (hh : 0 ≤ home) {D0 D : Dd} {r k g : Int} (T : TrA L n home D0 D) (r0 : 0 ≤ r) (r1 : r < n) (rh : r ≠ home) (hr : row D r = [(k, g)]) :
    TrA L n home D0 (delD D r k g) ∧ neR n (delD D r k g) < neR n D ∧ g ≠ r ∧ go D r k = some g ∧ delD D r k g = setI (setI D g (dDel (row D g) (-k))) r [] := by
  have r2 : r < D.length := by rw [T.dr.len]; exact r1
  have hg : go D r k = some g := by
    unfold go
    rw [hr, dGet_cons, if_pos rfl]
  obtain ⟨g0, g1, sk, hb⟩ := T.dr.ok r k g r0 hg
  have gl' : g < D.length := by rw [T.dr.len]; exact g1
  have hgr : g ≠ r := fun z => by
    subst z
    unfold go at hb
    rw [hr, dGet_cons] at hb
    have := sk.1
    rw [if_neg (by omega)] at hb
    cases hb
  have hD : delD D r k g = setI (setI D g (dDel (row D g) (-k))) r [] := by
    unfold delD
    rw [row_set r0 r2 g0, if_neg (Ne.symm hgr), hr]
    rw [show dDel [(k, g)] k = [] from by simp [dDel]]
    exact setI_comm r0 r2 g0 gl' (Ne.symm hgr) _ _
  have rw1 : ∀ x : Int, 0 ≤ x → row (delD D r k g) x = if x = g then dDel (row D g) (-k) else if x = r then [] else row D x := fun x x0 => by
    unfold delD
    rw [row_set g0 (by rw [setI_len]; exact gl') x0, row_set r0 r2 g0, if_neg (Ne.symm hgr), row_set r0 r2 x0, hr]
    by_cases e1 : x = g
    · rw [if_pos e1.symm, if_pos e1]
    · rw [if_neg (fun z => e1 z.symm), if_neg e1]
      by_cases e2 : x = r
      · rw [if_pos e2.symm, if_pos e2]
        simp [dDel]
      · rw [if_neg (fun z => e2 z.symm), if_neg e2]
  refine ⟨⟨T.dr.del r0 hg, fun a s b a0 hx => ?_, fun w gw hw => loops_del T.dr r0 rh hr w home hh (Ne.symm rh) gw (T.lo w gw hw)⟩, ?_, hgr, hg, hD⟩
  · rw [go_del r0 r2 g0 gl' sk.1 a0] at hx
    split at hx
    · cases hx
    · exact T.sub a s b a0 hx
  · refine flt_lt (g := r) (fun x hx hp => ?_) (mem_rng'.mpr ⟨r0, r1⟩) ?_ (by simp [hr])
    · have x0 := (mem_rng hx).1
      rw [rw1 x x0] at hp
      refine decide_eq_true fun z => ?_
      have hp := of_decide_eq_true hp
      split at hp
      · rename_i e1
        rw [e1] at z
        rw [z] at hp
        exact hp rfl
      · split at hp
        · exact hp rfl
        · exact hp z
    · rw [rw1 r r0, if_neg (Ne.symm hgr), if_pos rfl]
      simp
end Z
namespace Z
open PySem PySem.Spec L2
abbrev Str3 := Tri (List Int) Int Int
def S_turned_back (walk : (List Int)) : Option (List Int) :=
  ((lcT (fun (step1 : Int) => (-step1)) walk.reverse).bind fun t3 => some t3)
theorem tback_okS {w : List Int} (h : w.length ≤ 100000) : S_turned_back w = some (iv w) := by
  unfold S_turned_back
  rw [lcT_some _ (by rw [List.length_reverse]; exact Nat.lt_of_le_of_lt h (by decide))]
  rfl
/-- the steps of a stretch, of a list of them -/
def den (s : Str3) : List Int := dn s.a s.b s.c.toNat
def denL (l : List Str3) : List Int := (l.map den).flatten
/-- as often as that at most -/
abbrev most30 : Int := 1000000000000000000000000000000
/-- a stretch as it should be: a period of at most n steps, begun at one of its places -/
structure Stre (n : Nat) (L : Int) (s : Str3) : Prop where
  ne : s.a ≠ []
  le : s.a.length ≤ n
  b0 : 0 ≤ s.b
  b1 : s.b < s.a.length
  c0 : 0 < s.c
  c1 : s.c ≤ most30 * (s.a.length : Int)
  ok : ∀ x ∈ s.a, Sok L x
theorem Stre.mono {n m : Nat} {L : Int} {s : Str3} (h : Stre n L s) (k : n ≤ m) : Stre m L s := ⟨h.ne, Nat.le_trans h.le k, h.b0, h.b1, h.c0, h.c1, h.ok⟩
theorem Stre.pos {n : Nat} {L : Int} {s : Str3} (h : Stre n L s) : 0 < s.a.length := List.length_pos_iff.mpr h.ne
/-- a straight list of stretches -/
structure Lst (n : Nat) (L : Int) (l : List Str3) : Prop where
  ok : ∀ s ∈ l, Stre n L s
  gd : Gd (denL l)
theorem Lst.nil {n : Nat} {L : Int} : Lst n L [] := ⟨(fun _ z => nomatch z), trivial⟩
end Z
namespace Z
open PySem PySem.Spec L2
end Z
namespace Z
open PySem PySem.Spec L2
/-- three cells, of which so many draws were made at most -/
def WeB (n : Nat) (w : List Int) : Prop := ∃ a b c : Int, w = [a, b, c] ∧ 0 ≤ a ∧ 0 ≤ b ∧ b < 2 ^ 104 ∧ 0 ≤ c ∧ c ≤ n
theorem WeB.mono {n m : Nat} {w : List Int} (h : WeB n w) (hm : n ≤ m) : WeB m w := by
  obtain ⟨a, b, c, e, h1, h2, h3, h4, h5⟩ := h
  exact ⟨a, b, c, e, h1, h2, h3, h4, by omega⟩
/-- of the letters to L, no more than m walks, none longer than n, none oftener than t -/
structure Shw (L : Int) (m n : Nat) (t : Int) (sh : List (List Int × Int)) : Prop where
  ok : ∀ p ∈ sh, ∀ x ∈ p.1, Sok L x
  len : ∀ p ∈ sh, p.1.length ≤ n
  tim : ∀ p ∈ sh, p.2 ≠ 0 ∧ -t ≤ p.2 ∧ p.2 ≤ t
  num : sh.length ≤ m
theorem Shw.mono {L : Int} {m n m' n' : Nat} {t t' : Int} {sh : List (List Int × Int)} (h : Shw L m n t sh) (hm : m ≤ m') (hn : n ≤ n') (ht : t ≤ t') : Shw L m' n' t' sh := ⟨h.ok, fun p hp => Nat.le_trans (h.len p hp) hn, fun p hp => by have := h.tim p hp; omega, Nat.le_trans h.num hm⟩
theorem Shw.nil {L : Int} {m n : Nat} {t : Int} : Shw L m n t [] := ⟨(fun _ z => nomatch z), (fun _ z => nomatch z), (fun _ z => nomatch z), Nat.zero_le _⟩
theorem Shw.sub {L : Int} {m n : Nat} {t : Int} {sh u : List (List Int × Int)} (h : Shw L m n t sh) (hu : ∀ p ∈ u, p ∈ sh) (hl : u.length ≤ sh.length) : Shw L m n t u := ⟨fun p hp => h.ok p (hu p hp), fun p hp => h.len p (hu p hp), fun p hp => h.tim p (hu p hp), Nat.le_trans hl h.num⟩
theorem Shw.app {L : Int} {m m' n : Nat} {t : Int} {a b : List (List Int × Int)} (h : Shw L m n t a) (k : Shw L m' n t b) : Shw L (m + m') n t (a ++ b) := ⟨fun p hp => (List.mem_append.mp hp).elim (h.ok p) (k.ok p), fun p hp => (List.mem_append.mp hp).elim (h.len p) (k.len p), fun p hp => (List.mem_append.mp hp).elim (h.tim p) (k.tim p), by
  have := h.num
  have := k.num
  rw [List.length_append]
  omega⟩
theorem Shw.one {L : Int} {n : Nat} {t : Int} {p : List Int × Int} (h1 : ∀ x ∈ p.1, Sok L x) (h2 : p.1.length ≤ n) (h3 : p.2 ≠ 0) (h4 : -t ≤ p.2) (h5 : p.2 ≤ t) : Shw L 1 n t [p] := ⟨fun q hq => List.mem_singleton.mp hq ▸ h1, fun q hq => List.mem_singleton.mp hq ▸ h2, fun q hq => List.mem_singleton.mp hq ▸ ⟨h3, h4, h5⟩, Nat.le_refl _⟩
end Z
namespace Z
open PySem PySem.Spec L2
abbrev Pcw := List Int × Int
structure Pk (n : Nat) (p : Pcw) : Prop where
  ne : p.1 ≠ []
  le : p.1.length ≤ n
  pos : 0 < p.2
theorem Pk.len {n : Nat} {p : Pcw} (h : Pk n p) : 0 < p.1.length := List.length_pos_iff.mpr h.ne
def bk (p : Pcw) : List Int := (List.range p.1.length).map fun (j : Nat) => -pr p.1 (p.2 - 1 - (j : Int))
end Z
namespace Z
open PySem PySem.Spec L2
end Z
namespace Z
end Z
namespace Z
open PySem PySem.Spec L2
end Z
namespace Z
open PySem PySem.Spec L2
theorem goW_iv {L : Int} {n : Nat} {D : Dd} (h : Dr L n D) : ∀ (w : List Int) (a b : Int), 0 ≤ a → goW D a w = some b → goW D b (iv w) = some a
  | [], a, b, _, e => by
    cases e
    rfl
  | x :: w, a, b, a0, e => by
    unfold goW at e
    cases eg : go D a x with
    | none => rw [eg] at e; cases e
    | some c =>
      rw [eg] at e
      obtain ⟨c0, c1, _, hb⟩ := h.ok a x c a0 eg
      rw [iv_cons, goW_app, goW_iv h w c b c0 e]
      show goW D c [-x] = some a
      show (match go D c (-x) with | some b => goW D b [] | none => none) = _
      rw [hb]
      rfl
end Z
namespace Z
open PySem PySem.Spec L2
structure WgI (L : Int) (n : Nat) (l r : Int) (D : Dd) : Prop where
  dr : Dr L n D
  no : ∀ x l', 0 ≤ x → l ≤ l' → (l' = l → r ≤ x) → go D x l' = none
theorem WgI.free {L : Int} {n : Nat} {l r : Int} {D : Dd} (h : WgI L n l r D) (r0 : 0 ≤ r) (r1 : r < n) : ∃ b : Int, 0 ≤ b ∧ b < n ∧ go D b (-l) = none := by
  refine Classical.byContradiction fun hc => ?_
  have hall : ∀ b : Int, 0 ≤ b → b < n → ∃ x, go D b (-l) = some x := fun b b0 b1 => by
    cases e : go D b (-l) with
    | some x => exact ⟨x, rfl⟩
    | none => exact absurd ⟨b, b0, b1, e⟩ hc
  have hsrc : ∀ b : Int, 0 ≤ b → b < n → 0 ≤ (go D b (-l)).getD 0 ∧ (go D b (-l)).getD 0 < r ∧ go D ((go D b (-l)).getD 0) l = some b := fun b b0 b1 => by
    obtain ⟨x, hx⟩ := hall b b0 b1
    obtain ⟨x0, x1, _, hb⟩ := h.dr.ok b (-l) x b0 hx
    rw [Int.neg_neg] at hb
    rw [hx]
    refine ⟨x0, ?_, hb⟩
    show x < r
    refine Int.not_le.mp fun z => ?_
    have := h.no x l x0 (Int.le_refl _) fun _ => z
    rw [hb] at this
    cases this
  have hnd : ((range' 0 (n : Int)).map fun b => (go D b (-l)).getD 0).Nodup := by
    rw [List.nodup_iff_pairwise_ne, List.pairwise_map]
    refine (rng_nd 0 (n : Int)).imp_of_mem fun {a b} ha hb hab e => hab ?_
    obtain ⟨a0, a1⟩ := mem_rng ha
    obtain ⟨b0, b1⟩ := mem_rng hb
    have ea := (hsrc a a0 a1).2.2
    have eb := (hsrc b b0 b1).2.2
    rw [e, eb] at ea
    exact (Option.some.inj ea).symm
  have := nodup_le _ (range' 0 r) hnd fun x hx => by
    obtain ⟨b, hb, rfl⟩ := List.mem_map.mp hx
    obtain ⟨b0, b1⟩ := mem_rng hb
    exact mem_rng'.mpr ⟨(hsrc b b0 b1).1, (hsrc b b0 b1).2.1⟩
  rw [List.length_map, rng_len, rng_len] at this
  omega
end Z
namespace Z
open PySem PySem.Spec L2
end Z
namespace Z
open PySem PySem.Spec L2
theorem iv_sokW {L : Int} {w : List Int} (h : ∀ x ∈ w, Sok L x) : ∀ x ∈ iv w, Sok L x := fun x hx => by
  obtain ⟨y, hy, rfl⟩ := List.mem_map.mp hx
  exact (h y (List.mem_reverse.mp hy)).neg
end Z
namespace Z
open PySem PySem.Spec PyProof.Rows L2
end Z
set_option maxHeartbeats 8000000
namespace Z
open PySem PySem.Spec L2
structure IsP (c : Nat) (w : List Int) : Prop where
  len : w.length = c
  nd : w.Nodup
  rg : ∀ x ∈ w, 0 ≤ x ∧ x < c
theorem IsP.all {c : Nat} {w : List Int} (h : IsP c w) {y : Int} (y0 : 0 ≤ y) (y1 : y < c) : y ∈ w := by
  refine Classical.byContradiction fun hn => ?_
  have := nodup_le (y :: w) (range' 0 (c : Int)) (List.nodup_cons.mpr ⟨hn, h.nd⟩) fun x hx => by
    rcases List.mem_cons.mp hx with rfl | hx
    · exact mem_rng'.mpr ⟨y0, y1⟩
    · exact mem_rng'.mpr (h.rg x hx)
  rw [List.length_cons, h.len, rng_len] at this
  omega
theorem IsP.perm {c : Nat} {w : List Int} (h : IsP c w) : w.Perm (range' 0 (c : Int)) := by
  refine (List.perm_ext_iff_of_nodup h.nd (rng_nd 0 _)).mpr fun x => ?_
  exact ⟨fun hx => mem_rng'.mpr (h.rg x hx), fun hx => h.all (mem_rng hx).1 (mem_rng hx).2⟩
theorem set_okI {α : Type} {xs : List α} {i : Int} (h0 : 0 ≤ i) (h : i < xs.length) (x : α) : setO xs i x = some (xs.set i.toNat x) := by
  unfold setO
  have : ixN xs.length i = some i.toNat := by
    unfold ixN
    rw [if_pos h0, if_pos (by omega)]
  rw [this]
  rfl
theorem rgO_okN {c : Nat} (h : c ≤ 100000) : rgO 0 (c : Int) = some (range' 0 (c : Int)) := if_pos ⟨by omega, by omega, by omega, by omega, by omega⟩
theorem goW_fl {L : Int} {n : Nat} {E : Dd} (d : Dr L n E) {x y : Int} (x0 : 0 ≤ x) (x1 : x < n) : ∀ (w s : List Int), goW E x (s.reverse ++ w) = some y → goW E x (fl s w).reverse = some y
  | [], s, h => by rw [List.append_nil] at h; exact h
  | a :: w, s, h => by
    refine goW_fl d x0 x1 w (psh s a) ?_
    cases s with
    | nil => exact h
    | cons b t =>
      by_cases z : b = -a
      · rw [show psh (b :: t) a = t from if_pos z]
        rw [List.reverse_cons, List.append_assoc, goW_app] at h
        rw [goW_app]
        cases e : goW E x t.reverse with
        | none => rw [e] at h; exact h
        | some c =>
          rw [e] at h
          obtain ⟨c0, c1⟩ := goW_in d t.reverse x x0 x1 c e
          have h : goW E c (b :: a :: w) = some y := h
          show goW E c w = some y
          unfold goW at h
          cases e2 : go E c b with
          | none => rw [e2] at h; cases h
          | some g =>
            rw [e2] at h
            obtain ⟨_, _, _, hb⟩ := d.ok c b g c0 e2
            have h : goW E g (a :: w) = some y := h
            unfold goW at h
            rw [z, Int.neg_neg] at hb
            rw [hb] at h
            exact h
      · rw [show psh (b :: t) a = a :: b :: t from if_neg z, List.reverse_cons, List.append_assoc]
        exact h
theorem goW_redA {L : Int} {n : Nat} {E : Dd} (d : Dr L n E) {x y : Int} (x0 : 0 ≤ x) (x1 : x < n) {w : List Int} (h : goW E x w = some y) : goW E x (red w) = some y := goW_fl d x0 x1 w [] h
theorem goW_sing (E : Dd) (x s : Int) : goW E x [s] = go E x s := by
  unfold goW
  cases go E x s <;> rfl
end Z
namespace L25
open PySem PySem.Spec L2 Z
structure LedR (D : Dd) (row u q : List Int) : Prop where
  len : q.length = row.length
  at_ : ∀ (i : Nat) (a b : Int), row[i]? = some a → q[i]? = some b → goW D a u = some b
theorem getq {q row : List Int} (h : q.length = row.length) {i : Nat} {a : Int} (e : row[i]? = some a) : ∃ b, q[i]? = some b := by
  have := (List.getElem?_eq_some_iff.mp e).1
  exact ⟨_, List.getElem?_eq_getElem (by omega)⟩
theorem LedR.refl (D : Dd) (row : List Int) : LedR D row [] row := ⟨rfl, fun i a b h1 h2 => by rw [h1] at h2; cases h2; rfl⟩
theorem LedR.app {D : Dd} {row u q v p : List Int} (h : LedR D row u q) (k : LedR D q v p) : LedR D row (u ++ v) p := by
  refine ⟨by rw [k.len, h.len], fun i a c h1 h2 => ?_⟩
  obtain ⟨b, hb⟩ := getq h.len h1
  rw [goW_app, h.at_ i a b h1 hb]
  exact k.at_ i b c hb h2
theorem LedR.uniq {D : Dd} {row u q p : List Int} (h : LedR D row u q) (k : LedR D row u p) : q = p := by
  refine List.ext_getElem? fun i => ?_
  cases e : row[i]? with
  | none =>
    have := List.getElem?_eq_none_iff.mp e
    rw [List.getElem?_eq_none (by rw [h.len]; exact this), List.getElem?_eq_none (by rw [k.len]; exact this)]
  | some a =>
    obtain ⟨b, hb⟩ := getq h.len e
    obtain ⟨c, hc⟩ := getq k.len e
    have := (h.at_ i a b e hb).symm.trans (k.at_ i a c e hc)
    rw [hb, hc, this]
theorem LedR.iv {L : Int} {n : Nat} {D : Dd} (d : Dr L n D) {row u q : List Int} (h : LedR D row u q) (h0 : ∀ x ∈ row, 0 ≤ x) : LedR D q (iv u) row := by
  refine ⟨h.len.symm, fun i b a h1 h2 => ?_⟩
  exact goW_iv d u a b (h0 a (List.mem_of_getElem? h2)) (h.at_ i a b h2 h1)
theorem LedR.red {L : Int} {n : Nat} {D : Dd} (d : Dr L n D) {row u q : List Int} (h : LedR D row u q) (h0 : ∀ x ∈ row, 0 ≤ x ∧ x < n) : LedR D row (red u) q := by
  refine ⟨h.len, fun i a b h1 h2 => ?_⟩
  obtain ⟨x0, x1⟩ := h0 a (List.mem_of_getElem? h1)
  exact goW_redA d x0 x1 (h.at_ i a b h1 h2)
theorem LedR.rows {L : Int} {n k : Nat} {D : Dd} (d : Dr L n D) {row u q : List Int} (h : LedR D row u q) (hr : row ∈ rowsR n k) : q ∈ rowsR n k := by
  obtain ⟨rl, rn, rr⟩ := mem_rowsR.mp hr
  refine mem_rowsR.mpr ⟨by rw [h.len, rl], ?_, fun x hx => ?_⟩
  · refine List.nodup_iff_pairwise_ne.mpr (List.pairwise_iff_getElem.mpr fun i j hi hj hij e => ?_)
    have hl := h.len
    have ei : row[i]? = some (row[i]'(by omega)) := List.getElem?_eq_getElem (by omega)
    have ej : row[j]? = some (row[j]'(by omega)) := List.getElem?_eq_getElem (by omega)
    have g1 := h.at_ i _ _ ei (List.getElem?_eq_getElem hi)
    have g2 := h.at_ j _ _ ej (List.getElem?_eq_getElem hj)
    have b1 := goW_iv d u _ _ (rr _ (List.getElem_mem _)).1 g1
    have b2 := goW_iv d u _ _ (rr _ (List.getElem_mem _)).1 g2
    rw [e, b2] at b1
    have hij2 : i = j := (List.getElem?_inj (show i < row.length by omega) rn).mp (ei.trans (b1.symm.trans ej.symm))
    omega
  · obtain ⟨i, hi⟩ := List.mem_iff_getElem?.mp hx
    obtain ⟨a, ha⟩ := getq h.len.symm hi
    obtain ⟨a0, a1⟩ := rr a (List.mem_of_getElem? ha)
    exact goW_in d u a a0 a1 x (h.at_ i a x ha hi)
structure RL (L : Int) (n k : Nat) (D : Dd) (row : List Int) (o : List (List Int)) (s : List (List Int × List Int)) : Prop where
  keys : o = s.map Prod.fst
  nd : (s.map Prod.fst).Nodup
  zero : (dGet s row).isSome = true
  at_ : ∀ q w, dGet s q = some w → LedR D row w q ∧ (∀ x ∈ w, Sok L x) ∧ w.length < o.length
theorem fm_len {α β : Type} (p : α → Bool) (f : α → β) : ∀ xs : List α, (xs.filterMap fun a => if p a = true then none else some (f a)).length = (xs.filter fun a => !p a).length
  | [] => rfl
  | x :: xs => by
    have ih := fm_len p f xs
    cases h : p x with
    | true => rw [List.filterMap_cons_none (by rw [h]; rfl), List.filter_cons_of_neg (by rw [h]; decide)]; exact ih
    | false =>
      rw [List.filterMap_cons_some (b := f x) (by rw [h]; rfl), List.filter_cons_of_pos (by rw [h]; rfl), List.length_cons, List.length_cons, ih]
theorem exR_few {n k : Nat} {row : List Int} (h : row ∈ rowsR n k) : (exR n row).length + k ≤ n := by
  obtain ⟨rl, rn, rr⟩ := mem_rowsR.mp h
  have e : (exR n row).length = ((range' 0 (n : Int)).filter fun a => !row.contains a).length := fm_len (fun a => row.contains a) (fun a => row ++ [a]) _
  have := nodup_le (((range' 0 (n : Int)).filter fun a => !row.contains a) ++ row) (range' 0 (n : Int)) (List.nodup_append.mpr ⟨(rng_nd 0 (n : Int)).filter _, rn, fun a ha b hb => by
    have := (List.mem_filter.mp ha).2
    intro z
    subst z
    simp at this
    exact this hb⟩) fun x hx => by
    rcases List.mem_append.mp hx with hx | hx
    · exact (List.mem_filter.mp hx).1
    · exact mem_rng'.mpr (rr x hx)
  rw [List.length_append, rng_len] at this
  omega
theorem rows_next (n k : Nat) : (rowsR n (k + 1)).length ≤ (n - k) * (rowsR n k).length := flat_le (g := exR n) (c := n - k) (rowsR n k) fun x hx => by
  have := exR_few hx
  omega
theorem rowsR_cap {n k : Nat} (hn : n ≤ 5) (hk : k ≤ 5) : (rowsR n k).length ≤ 120 := by
  have h0 : (rowsR n 0).length ≤ 1 := Nat.le_refl _
  have h1 := Nat.le_trans (rows_next n 0) (Nat.mul_le_mul (show n - 0 ≤ 5 by omega) h0)
  have h2 := Nat.le_trans (rows_next n 1) (Nat.mul_le_mul (show n - 1 ≤ 4 by omega) h1)
  have h3 := Nat.le_trans (rows_next n 2) (Nat.mul_le_mul (show n - 2 ≤ 3 by omega) h2)
  have h4 := Nat.le_trans (rows_next n 3) (Nat.mul_le_mul (show n - 3 ≤ 2 by omega) h3)
  have h5 := Nat.le_trans (rows_next n 4) (Nat.mul_le_mul (show n - 4 ≤ 1 by omega) h4)
  have : k = 0 ∨ k = 1 ∨ k = 2 ∨ k = 3 ∨ k = 4 ∨ k = 5 := by omega
  rcases this with rfl | rfl | rfl | rfl | rfl | rfl
  · exact Nat.le_trans h0 (by decide)
  · exact Nat.le_trans h1 (by decide)
  · exact Nat.le_trans h2 (by decide)
  · exact Nat.le_trans h3 (by decide)
  · exact Nat.le_trans h4 (by decide)
  · exact Nat.le_trans h5 (by decide)
theorem RL.len {L : Int} {n k : Nat} {D : Dd} (d : Dr L n D) (hn : n ≤ 5) (hk : k ≤ 5) {row : List Int} (hr : row ∈ rowsR n k) {o : List (List Int)} {s : List (List Int × List Int)} (h : RL L n k D row o s) : o.length ≤ 120 := by
  have := nodup_le (s.map Prod.fst) (rowsR n k) h.nd fun q hq => by
    obtain ⟨w, hw⟩ := Option.isSome_iff_exists.mp (dGet_key_mem.mpr hq)
    exact (h.at_ q w hw).1.rows d hr
  have := rowsR_cap hn hk
  rw [h.keys]
  omega
theorem put_newL {β : Type} {d : List (List Int × β)} {k : List Int} (v : β) (h : (dGet d k).isSome = false) : dPut d k v = d ++ [(k, v)] := by
  unfold dPut
  rw [any_key, if_neg (by rw [h]; decide)]
theorem rows_led_ok {L : Int} {n k : Nat} {D : Dd} (d : Dr L n D) (h1 : 1 ≤ L) (h4 : L ≤ 4) (hn : n ≤ 5) (hk : k ≤ 5) {row : List Int} (hr : row ∈ rowsR n k) : ∃ s, m_p_rows_led L D row = some s ∧ (s.map Prod.fst).Nodup ∧ s.length ≤ 120 ∧ (∀ q w, dGet s q = some w → LedR D row w q ∧ (∀ x ∈ w, Sok L x) ∧ w.length ≤ 120) ∧ ∀ q u, LedR D row u q → (dGet s q).isSome = true := by
  have dl := d.len
  obtain ⟨rl, rn, rr⟩ := mem_rowsR.mp hr
  have est : m_p_steps_of L = some (stL L) := steps_of_ok h1 h4
  unfold m_p_rows_led
  refine whX (fun s : Int × List (List Int) × List (List Int × List Int) => 0 ≤ s.1 ∧ s.1 ≤ s.2.1.length ∧ RL L n k D row s.2.1 s.2.2 ∧ ∀ i : Nat, (i : Int) < s.1 → ∀ a, s.2.1[i]? = some a → ∀ t b, LedR D a [t] b → (dGet s.2.2 b).isSome = true) (fun s => 120 - s.1.toNat) ⟨Int.le_refl _, by show (0 : Int) ≤ ((1 : Nat) : Int); decide, ⟨rfl, by show [row].Nodup; simp, by show (dGet [(row, ([] : List Int))] row).isSome = true; unfold dGet; simp, fun q w e => ?_⟩, fun i hi => by exfalso; have hi : (i : Int) < 0 := hi; omega⟩ (by show 120 - _ < 10000; omega) (fun s hs => ?_) (fun s hs hcf => ?_)
  · have := List.mem_singleton.mp (dGet_mem e)
    cases this
    exact ⟨LedR.refl D row, (fun _ z => nomatch z), by show 0 < 1; decide⟩
  · obtain ⟨i, o, s⟩ := s
    obtain ⟨i0, i1, h, hcl⟩ := hs
    have i0 : 0 ≤ i := i0
    have i1 : i ≤ (o.length : Int) := i1
    have h : RL L n k D row o s := h
    have ho := h.keys
    have hl := h.len d hn hk hr
    by_cases z : i < o.length
    · refine .inr ⟨congrArg some (decide_eq_true z), ?_⟩
      obtain ⟨j, rfl⟩ : ∃ j : Nat, i = (j : Int) := ⟨i.toNat, by omega⟩
      have hj : j < o.length := by omega
      have ea : o[j]? = some o[j] := List.getElem?_eq_getElem hj
      have hmem : o[j] ∈ s.map Prod.fst := by rw [← ho]; exact List.getElem_mem hj
      obtain ⟨v, hv⟩ := Option.isSome_iff_exists.mp (dGet_key_mem.mpr hmem)
      obtain ⟨v1, v2, v3⟩ := h.at_ _ _ hv
      have qr := v1.rows d hr
      obtain ⟨ql, qn, qq⟩ := mem_rowsR.mp qr
      generalize hq : o[j] = q at *
      have hrow : ∀ a ∈ q, idx D a = some (Z.row D a) := fun a ha => idx_row (qq a ha).1 (by rw [dl]; exact (qq a ha).2)
      obtain ⟨⟨o', s'⟩, e, ⟨q2, ⟨ys, q3⟩, q4⟩, q5⟩ := lp_goN (f := (fun (s9 : ((List (List Int)) × (List ((List Int) × (List Int))))) (step10 : Int) => ((lcO (β := Bool) (fun (room14 : Int) => ((idx D room14).bind fun t16 => some ((dGet t16 step10).isSome))) q).bind fun t17 => ((if (t17.all id) = true then ((lcO (β := Int) (fun (room18 : Int) => ((idx D room18).bind fun t20 => (dGet t20 step10).bind fun t21 => some t21)) q).bind fun t22 => ((if (!(dGet s9.2 t22).isSome) = true then ((dGet s9.2 q).bind fun t23 => (catO (α := Int) t23 ([step10])).bind fun t24 => (dPutO s9.2 t22 t24).bind fun t25 => ((appO s9.1 t22).bind fun t26 => some (t26, t25))) else some (s9.1, s9.2) : Option ((List (List Int)) × (List ((List Int) × (List Int))))).bind fun s27 => some (s27.1, s27.2))) else some (s9.1, s9.2) : Option ((List (List Int)) × (List ((List Int) × (List Int))))).bind fun s28 => some (s28.1, s28.2)))))
        (fun m (r : List (List Int) × List (List Int × List Int)) => (RL L n k D row r.1 r.2 ∧ (∃ ys, r.1 = o ++ ys) ∧ ∀ g w, dGet s g = some w → dGet r.2 g = some w) ∧ ∀ i : Nat, i < m → ∀ t, (stL L)[i]? = some t → ∀ b, LedR D q [t] b → (dGet r.2 b).isSome = true) (xs := stL L) (fun m t r ht hr' => by
        obtain ⟨o', s'⟩ := r
        obtain ⟨⟨q2, ⟨ys, q3⟩, q4⟩, q5⟩ := hr'
        have q2 : RL L n k D row o' s' := q2
        have q3 : o' = o ++ ys := q3
        have q4 : ∀ g w, dGet s g = some w → dGet s' g = some w := q4
        have q5 : ∀ i : Nat, i < m → ∀ t, (stL L)[i]? = some t → ∀ b, LedR D q [t] b → (dGet s' b).isSome = true := q5
        have q1 := q2.keys
        have hl' := q2.len d hn hk hr
        have hol' : o'.length = s'.length := by rw [q1, List.length_map]
        have st : Sok L t := mem_stL.mp (List.mem_of_getElem? ht)
        have e1 : lcO (β := Bool) (fun (room14 : Int) => ((idx D room14).bind fun t16 => some ((dGet t16 t).isSome))) q = some (q.map fun a => (go D a t).isSome) := lcO_some _ (by rw [ql, sizeL]; omega) fun a ha => bindS (hrow a ha) rfl
        by_cases hall : ((q.map fun a => (go D a t).isSome).all id) = true
        · have hall' : ∀ a ∈ q, ∃ b, go D a t = some b := fun a ha => by
            have := List.all_eq_true.mp hall _ (List.mem_map.mpr ⟨a, ha, rfl⟩)
            exact Option.isSome_iff_exists.mp this
          have e2 : lcO (β := Int) (fun (room18 : Int) => ((idx D room18).bind fun t20 => (dGet t20 t).bind fun t21 => some t21)) q = some (q.map fun a => (go D a t).getD 0) := lcO_some _ (by rw [ql, sizeL]; omega) fun a ha => by
            obtain ⟨b, hb⟩ := hall' a ha
            refine bindS (hrow a ha) (bindS (a := b) hb ?_)
            rw [hb]
            rfl
          generalize hp : (q.map fun a => (go D a t).getD 0) = p at e2
          have led : LedR D q [t] p := by
            refine ⟨by rw [← hp, List.length_map], fun i a b ha hb => ?_⟩
            rw [← hp, List.getElem?_map, ha] at hb
            obtain ⟨c, hc⟩ := hall' a (List.mem_of_getElem? ha)
            rw [goW_sing, hc]
            have hb : some ((go D a t).getD 0) = some b := hb
            rw [hc] at hb
            exact hb
          have only : ∀ b, LedR D q [t] b → b = p := fun b hb => hb.uniq led
          by_cases y : (dGet s' p).isSome = true
          · refine ⟨(o', s'), bindS e1 (bindS (a := (o', s')) ((if_pos hall).trans (bindS e2 (bindS (a := (o', s')) (if_neg (by show ¬ (!(dGet s' p).isSome) = true; rw [y]; decide)) rfl))) rfl), ⟨q2, ⟨ys, q3⟩, q4⟩, fun i hi t' ht' b hb => ?_⟩
            by_cases z : i = m
            · subst z
              rw [ht] at ht'
              cases ht'
              rw [only b hb]
              exact y
            · exact q5 i (by omega) t' ht' b hb
          · have y' : (dGet s' p).isSome = false := by simpa using y
            have hv' := q4 _ _ hv
            have hvl := (q2.at_ _ _ hv').2.2
            have hput : dPut s' p (v ++ [t]) = s' ++ [(p, v ++ [t])] := put_newL _ y'
            have f1 : catO (α := Int) v ([t]) = some (v ++ [t]) := Z.cat_ok (by rw [sizeL]; show v.length + 1 ≤ _; omega)
            have f2 : dPutO s' p (v ++ [t]) = some (dPut s' p (v ++ [t])) := if_pos (by rw [sizeL]; omega)
            have f3 : appO o' p = some (o' ++ [p]) := Z.app_ok (by rw [sizeL]; omega)
            have hnot : (!(dGet s' p).isSome) = true := by rw [y']; rfl
            refine ⟨(o' ++ [p], dPut s' p (v ++ [t])), bindS e1 (bindS (a := (o' ++ [p], dPut s' p (v ++ [t]))) ((if_pos hall).trans (bindS e2 (bindS (a := (o' ++ [p], dPut s' p (v ++ [t]))) ((if_pos hnot).trans (bindS hv' (bindS f1 (bindS f2 (bindS f3 rfl))))) rfl))) rfl), ⟨⟨?_, dPut_nd q2.nd _ _, ?_, fun g u e => ?_⟩, ⟨ys ++ [p], ?_⟩, fun g u e => ?_⟩, fun i hi t' ht' b hb => ?_⟩
            · show o' ++ [p] = (dPut s' p (v ++ [t])).map Prod.fst
              rw [hput, List.map_append, q1]
              rfl
            · show (dGet (dPut s' p (v ++ [t])) row).isSome = true
              rw [dGet_put]
              split
              · rfl
              · exact q2.zero
            · have e : dGet (dPut s' p (v ++ [t])) g = some u := e
              show LedR D row u g ∧ (∀ x ∈ u, Sok L x) ∧ u.length < (o' ++ [p]).length
              rw [List.length_append, List.length_singleton]
              rw [dGet_put] at e
              split at e
              · rename_i z
                cases e
                subst z
                refine ⟨v1.app led, fun x hx => ?_, ?_⟩
                · rcases List.mem_append.mp hx with hx | hx
                  · exact v2 x hx
                  · rw [List.mem_singleton.mp hx]
                    exact st
                · rw [List.length_append, List.length_singleton]
                  omega
              · obtain ⟨z1, z2, z3⟩ := q2.at_ g u e
                exact ⟨z1, z2, by omega⟩
            · show o' ++ [p] = _
              rw [q3, List.append_assoc]
            · show dGet (dPut s' p (v ++ [t])) g = some u
              rw [dGet_put, if_neg (fun z => by rw [z, q4 g u e] at y'; cases y')]
              exact q4 g u e
            · show (dGet (dPut s' p (v ++ [t])) b).isSome = true
              rw [dGet_put]
              by_cases z : i = m
              · subst z
                rw [ht] at ht'
                cases ht'
                rw [if_pos (only b hb).symm]
                rfl
              · split
                · rfl
                · exact q5 i (by omega) t' ht' b hb
        · refine ⟨(o', s'), bindS e1 (bindS (a := (o', s')) (if_neg hall) rfl), ⟨q2, ⟨ys, q3⟩, q4⟩, fun i hi t' ht' b hb => ?_⟩
          by_cases z : i = m
          · subst z
            rw [ht] at ht'
            cases ht'
            exfalso
            refine hall (List.all_eq_true.mpr fun c hc => ?_)
            obtain ⟨a, ha, rfl⟩ := List.mem_map.mp hc
            obtain ⟨x, hx⟩ := List.mem_iff_getElem?.mp ha
            obtain ⟨c, hc⟩ := getq hb.len hx
            have := hb.at_ x a c hx hc
            rw [goW_sing] at this
            show (go D a t).isSome = true
            rw [this]
            rfl
          · exact q5 i (by omega) t' ht' b hb) (s0 := (o, s)) ⟨⟨h, ⟨[], (List.append_nil _).symm⟩, fun _ _ z => z⟩, fun i hi => absurd hi (Nat.not_lt_zero _)⟩
      have q2 : RL L n k D row o' s' := q2
      have q3 : o' = o ++ ys := q3
      have q4 : ∀ g w, dGet s g = some w → dGet s' g = some w := q4
      have q5 : ∀ i : Nat, i < (stL L).length → ∀ t, (stL L)[i]? = some t → ∀ b, LedR D q [t] b → (dGet s' b).isSome = true := q5
      refine ⟨((j : Int) + 1, o', s'), bindS (idx_of (by omega) (by rw [Int.toNat_natCast]; exact ea)) (bindS est (bindS e rfl)), ⟨by show (0 : Int) ≤ j + 1; omega, ?_, q2, fun i hi a ha t b hg => ?_⟩, ?_⟩
      · show (j : Int) + 1 ≤ (o'.length : Int)
        rw [q3, List.length_append]
        omega
      · show (dGet s' b).isSome = true
        have hi : (i : Int) < j + 1 := hi
        have ha2 : o'[i]? = some a := ha
        rw [q3, List.getElem?_append_left (by omega)] at ha2
        by_cases z : i = j
        · subst z
          rw [ea] at ha2
          cases ha2
          by_cases hrow0 : 0 < q.length
          · have e0 : q[0]? = some q[0] := List.getElem?_eq_getElem hrow0
            obtain ⟨c, hc⟩ := getq hg.len e0
            have h5 := hg.at_ 0 _ _ e0 hc
            rw [goW_sing] at h5
            have st := (d.ok _ _ _ (qq _ (List.getElem_mem _)).1 h5).2.2.1
            obtain ⟨m, hm⟩ := List.mem_iff_getElem?.mp (mem_stL.mpr st)
            exact q5 m (List.getElem?_eq_some_iff.mp hm).1 t hm b hg
          · have hb0 := hg.len
            have hb0 : b = [] := List.length_eq_zero_iff.mp (by omega)
            have hr0 : row = [] := List.length_eq_zero_iff.mp (by omega)
            rw [hb0, ← hr0]
            exact q2.zero
        · obtain ⟨u, hu⟩ := Option.isSome_iff_exists.mp (hcl i (show (i : Int) < (j : Int) by omega) a ha2 t b hg)
          rw [q4 b u hu]
          rfl
      · show 120 - ((j : Int) + 1).toNat < 120 - ((j : Int)).toNat
        omega
    · exact .inl (congrArg some (decide_eq_false z))
  · obtain ⟨i, o, s⟩ := s
    obtain ⟨i0, i1, h, hcl⟩ := hs
    have i1 : i ≤ (o.length : Int) := i1
    have h : RL L n k D row o s := h
    have ho := h.keys
    have hl := h.len d hn hk hr
    have hcf : some (decide (i < (o.length : Int))) = some false := hcf
    have hi : i = (o.length : Int) := by
      have := of_decide_eq_false (Option.some.inj hcf)
      omega
    have hsl : s.length ≤ 120 := by
      have : o.length = s.length := by rw [ho, List.length_map]
      omega
    refine ⟨s, rfl, h.nd, hsl, fun q w e => ?_, ?_⟩
    · obtain ⟨a, b, c⟩ := h.at_ q w e
      exact ⟨a, b, by omega⟩
    · have key : ∀ (u q p : List Int), (dGet s q).isSome = true → LedR D q u p → (dGet s p).isSome = true := by
        intro u
        induction u with
        | nil =>
          intro q p hq hp
          rw [hp.uniq (LedR.refl D q)]
          exact hq
        | cons t u ih =>
          intro q p hq hp
          -- one step
          have hstep : ∀ a ∈ q, ∃ b, go D a t = some b := fun a ha => by
            obtain ⟨x, hx⟩ := List.mem_iff_getElem?.mp ha
            obtain ⟨c, hc⟩ := getq hp.len hx
            have h5 := hp.at_ x a c hx hc
            unfold goW at h5
            cases hg : go D a t with
            | none => rw [hg] at h5; cases h5
            | some b => exact ⟨b, rfl⟩
          have l1 : LedR D q [t] (q.map fun a => (go D a t).getD 0) := by
            refine ⟨List.length_map _, fun i a b ha hb => ?_⟩
            rw [List.getElem?_map, ha] at hb
            obtain ⟨c, hc⟩ := hstep a (List.mem_of_getElem? ha)
            rw [goW_sing, hc]
            have hb : some ((go D a t).getD 0) = some b := hb
            rw [hc] at hb
            exact hb
          have l2 : LedR D (q.map fun a => (go D a t).getD 0) u p := by
            refine ⟨by rw [hp.len, List.length_map], fun i b c hb hc => ?_⟩
            obtain ⟨a, ha⟩ := getq (List.length_map _).symm hb
            have h5 := hp.at_ i a c ha hc
            rw [List.getElem?_map, ha] at hb
            have hb : some ((go D a t).getD 0) = some b := hb
            obtain ⟨c', hc'⟩ := hstep a (List.mem_of_getElem? ha)
            unfold goW at h5
            rw [hc'] at h5 hb
            cases hb
            exact h5
          refine ih _ p ?_ l2
          have hm := dGet_key_mem.mp hq
          rw [← ho] at hm
          obtain ⟨j, hj⟩ := List.mem_iff_getElem?.mp hm
          have := (List.getElem?_eq_some_iff.mp hj).1
          exact hcl j (show (j : Int) < i by omega) q hj t _ l1
      exact fun q u hu => key u row q h.zero hu
end L25
namespace L25
open PySem PySem.Spec L2 Z
def rot (r : List Int) : List Int := r.drop 1 ++ r.take 1
def Rd (D : Dd) (n t : Nat) : Prop := ∃ row u, row ∈ rowsR n t ∧ LedR D row u (rot row)
theorem rot_len (r : List Int) : (rot r).length = r.length := by
  unfold rot
  rw [List.length_append, List.length_drop, List.length_take]
  omega
theorem rot_at {r : List Int} {i : Nat} (h : i + 1 < r.length) : (rot r)[i]? = r[i + 1]? := by
  unfold rot
  rw [List.getElem?_append_left (by rw [List.length_drop]; omega), List.getElem?_drop, Nat.add_comm]
theorem rot_last {r : List Int} (h : 1 ≤ r.length) : (rot r)[r.length - 1]? = r[0]? := by
  unfold rot
  rw [List.getElem?_append_right (by rw [List.length_drop]; omega), List.length_drop, Nat.sub_self, List.getElem?_take_of_lt (by omega)]
theorem rows_few {n t : Nat} {row : List Int} (h : row ∈ rowsR n t) : t ≤ n := by
  obtain ⟨rl, rn, rr⟩ := mem_rowsR.mp h
  have := nodup_le row (range' 0 (n : Int)) rn fun x hx => mem_rng'.mpr (rr x hx)
  rw [rng_len] at this
  omega
theorem turned_back_ok {w : List Int} (h : w.length ≤ 100000) : m_p_turned_back w = some (iv w) := tback_okS h
theorem straight_pk {w : List Int} (h : w.length ≤ 100000) : m_p_straightened w = some (red w) := straight_ok (by rw [sizeL]; omega)
theorem round_ok {L : Int} {n : Nat} {D : Dd} (d : Dr L n D) (h1 : 1 ≤ L) (h4 : L ≤ 4) (hn : n ≤ 5) {times : Int} (t1 : 1 ≤ times) : ∃ r, m_p_round_walk L D times = some r ∧ ((r = none ∧ ∀ t : Nat, (t : Int) = times → ¬ Rd D n t) ∨ ∃ (room : Int) (v row : List Int) (t : Nat), r = some (room, v) ∧ (t : Int) = times ∧ row ∈ rowsR n t ∧ row[0]? = some room ∧ LedR D row v (rot row) ∧ (∀ x ∈ v, Sok L x) ∧ v.length ≤ 240) := by
  have dl := d.len
  unfold m_p_round_walk
  rw [dl]
  by_cases z : (n : Int) < times
  · refine ⟨none, if_pos (decide_eq_true z), .inl ⟨rfl, fun t ht h => ?_⟩⟩
    obtain ⟨row, u, hr, _⟩ := h
    have := rows_few hr
    omega
  · rw [if_neg (by simpa using z)]
    obtain ⟨t, rfl⟩ : ∃ t : Nat, times = (t : Int) := ⟨times.toNat, by omega⟩
    have ht5 : t ≤ 5 := by omega
    refine bndX (rows_ok hn ht5) ?_
    have cap := rowsR_cap hn ht5
    have hmix := lpR_mix (R := Option (Int × List Int)) (f := (fun (s2 : (List ((List Int) × Bool))) (first3 : (List Int)) => ((if (!(dGet s2 first3).isSome) = true then ((m_p_rows_led L D first3).bind fun t7 => ((lpR (fun (s8 : (List ((List Int) × Bool))) (x9 : ((List Int) × (List Int))) => (((dPutO s8 x9.1 true).bind fun t13 => ((catO (α := Int) (cut x9.1 (some 1) none) (cut x9.1 none (some 1))).bind fun t14 => (if (dGet t7 t14).isSome = true then ((idx x9.1 0).bind fun t15 => (m_p_turned_back x9.2).bind fun t16 => (dGet t7 t14).bind fun t17 => (catO (α := Int) t16 t17).bind fun t18 => (m_p_straightened t18).bind fun t19 => some (Step.ret (some ((t15, t19) : (Int × (List Int)))))) else some (Step.go t13)))) : Option (Step (Option (Int × (List Int))) (List ((List Int) × Bool))))) t7 s2).bind fun f10o => Sum.elim (fun r21 => some (Step.ret r21)) (fun f10 => some (Step.go f10)) f10o)) else some (Step.go s2)) : Option (Step (Option (Int × (List Int))) (List ((List Int) × Bool))))))
      (fun r => ∃ (room : Int) (v row : List Int), r = some (room, v) ∧ row ∈ rowsR n t ∧ row[0]? = some room ∧ LedR D row v (rot row) ∧ (∀ x ∈ v, Sok L x) ∧ v.length ≤ 240) (xs := rowsR n t)
      (fun i (s : List (List Int × Bool)) => ((s.map Prod.fst).Nodup ∧ ∀ q, (dGet s q).isSome = true → q ∈ rowsR n t ∧ ¬ ∃ u, LedR D q u (rot q)) ∧ ∀ j : Nat, j < i → ∀ q, (rowsR n t)[j]? = some q → ¬ ∃ u, LedR D q u (rot q)) (fun i first s hx hs => by
        obtain ⟨⟨hnd, hm⟩, hp⟩ := hs
        have hfr := List.mem_of_getElem? hx
        have slen : ∀ s : List (List Int × Bool), (s.map Prod.fst).Nodup → (∀ q, (dGet s q).isSome = true → q ∈ rowsR n t ∧ ¬ ∃ u, LedR D q u (rot q)) → s.length ≤ 120 := fun s hnd hm => by
          have := nodup_le (s.map Prod.fst) (rowsR n t) hnd fun q hq => (hm q (dGet_key_mem.mpr hq)).1
          rw [List.length_map] at this
          omega
        by_cases y : (dGet s first).isSome = true
        · refine .inl ⟨s, if_neg (by rw [y]; decide), ⟨hnd, hm⟩, fun j hj q hq => ?_⟩
          by_cases w : j = i
          · subst w
            rw [hx] at hq
            cases hq
            exact (hm first y).2
          · exact hp j (by omega) q hq
        · have y' : (!(dGet s first).isSome) = true := by simpa using y
          obtain ⟨M, eM, Mn, Ml, Ma, Mc⟩ := rows_led_ok d h1 h4 hn ht5 hfr
          obtain ⟨_, _, fr⟩ := mem_rowsR.mp hfr
          have hin := lpR_mix (R := Option (Int × List Int)) (f := (fun (s8 : (List ((List Int) × Bool))) (x9 : ((List Int) × (List Int))) => (((dPutO s8 x9.1 true).bind fun t13 => ((catO (α := Int) (cut x9.1 (some 1) none) (cut x9.1 none (some 1))).bind fun t14 => (if (dGet M t14).isSome = true then ((idx x9.1 0).bind fun t15 => (m_p_turned_back x9.2).bind fun t16 => (dGet M t14).bind fun t17 => (catO (α := Int) t16 t17).bind fun t18 => (m_p_straightened t18).bind fun t19 => some (Step.ret (some ((t15, t19) : (Int × (List Int)))))) else some (Step.go t13)))) : Option (Step (Option (Int × (List Int))) (List ((List Int) × Bool))))))
            (fun r => ∃ (room : Int) (v row : List Int), r = some (room, v) ∧ row ∈ rowsR n t ∧ row[0]? = some room ∧ LedR D row v (rot row) ∧ (∀ x ∈ v, Sok L x) ∧ v.length ≤ 240) (xs := M)
            (fun j (s : List (List Int × Bool)) => ((s.map Prod.fst).Nodup ∧ ∀ q, (dGet s q).isSome = true → q ∈ rowsR n t ∧ ¬ ∃ u, LedR D q u (rot q)) ∧ ∀ m : Nat, m < j → ∀ x, M[m]? = some x → ¬ ∃ u, LedR D x.1 u (rot x.1)) (fun j x s hx hs => by
              obtain ⟨⟨hnd, hm⟩, hp⟩ := hs
              obtain ⟨q, w⟩ := x
              have hg := mem_dGet Mn (List.mem_of_getElem? hx)
              obtain ⟨l1, l2, l3⟩ := Ma q w hg
              have hqr := l1.rows d hfr
              obtain ⟨ql, qn, qq⟩ := mem_rowsR.mp hqr
              have sl := slen s hnd hm
              have f1 : dPutO s q true = some (dPut s q true) := if_pos (by rw [sizeL]; omega)
              have f2 : catO (α := Int) (cut q (some 1) none) (cut q none (some 1)) = some (rot q) := by
                rw [cut_from q (by decide), cut_to q (by decide)]
                exact Z.cat_ok (by rw [List.length_drop, List.length_take, sizeL]; omega)
              by_cases c : (dGet M (rot q)).isSome = true
              · obtain ⟨w2, hw2⟩ := Option.isSome_iff_exists.mp c
                obtain ⟨m1, m2, m3⟩ := Ma _ _ hw2
                have e0 : idx q 0 = some (q[0]'(by omega)) := idx_of (by decide) (List.getElem?_eq_getElem (by omega))
                have ivl := iv_len w
                have e1 : m_p_turned_back w = some (iv w) := turned_back_ok (by omega)
                have e2 : catO (α := Int) (iv w) w2 = some (iv w ++ w2) := Z.cat_ok (by rw [sizeL]; omega)
                have e3 : m_p_straightened (iv w ++ w2) = some (red (iv w ++ w2)) := straight_pk (by rw [List.length_append]; omega)
                have rl := red_len (iv w ++ w2)
                rw [List.length_append] at rl
                refine .inr ⟨some (q[0]'(by omega), red (iv w ++ w2)), bindS f1 (bindS f2 ((if_pos c).trans (bindS e0 (bindS e1 (bindS hw2 (bindS e2 (bindS e3 rfl))))))), _, _, q, rfl, hqr, List.getElem?_eq_getElem (by omega), ?_, red_mem fun x hx => ?_, by omega⟩
                · exact ((l1.iv d fun x hx => (fr x hx).1).app m1).red d qq
                · rcases List.mem_append.mp hx with hx | hx
                  · exact iv_sokW l2 x hx
                  · exact m2 x hx
              · have no : ¬ ∃ u, LedR D q u (rot q) := fun ⟨u, hu⟩ => c (Mc _ _ (l1.app hu))
                refine .inl ⟨dPut s q true, bindS f1 (bindS f2 (if_neg c)), ⟨dPut_nd hnd _ _, fun q' hq' => ?_⟩, fun m hm' x' hx' => ?_⟩
                · rw [dGet_put] at hq'
                  split at hq'
                  · rename_i z
                    subst z
                    exact ⟨hqr, no⟩
                  · exact hm q' hq'
                · by_cases w : m = j
                  · subst w
                    rw [hx] at hx'
                    cases hx'
                    exact no
                  · exact hp m (by omega) x' hx') (s0 := s) ⟨⟨hnd, hm⟩, fun m hm' => absurd hm' (Nat.not_lt_zero _)⟩
          rcases hin with ⟨s', e, ⟨hnd', hm'⟩, hp'⟩ | ⟨r, e, hr⟩
          · refine .inl ⟨s', (if_pos y').trans (bindS eM (bindS e rfl)), ⟨hnd', hm'⟩, fun j hj q hq => ?_⟩
            by_cases w : j = i
            · subst w
              rw [hx] at hq
              cases hq
              obtain ⟨w0, hw0⟩ := Option.isSome_iff_exists.mp (Mc first [] (LedR.refl D first))
              obtain ⟨m, hm⟩ := List.mem_iff_getElem?.mp (dGet_mem hw0)
              exact hp' m (List.getElem?_eq_some_iff.mp hm).1 _ hm
            · exact hp j (by omega) q hq
          · exact .inr ⟨r, (if_pos y').trans (bindS eM (bindS e rfl)), hr⟩) (s0 := []) ⟨⟨by simp, fun q hq => by cases hq⟩, fun j hj => absurd hj (Nat.not_lt_zero _)⟩
    rcases hmix with ⟨s, e, _, hp⟩ | ⟨r, e, room, v, row, rfl, q1, q2, q3, q4, q5⟩
    · refine bndX e ⟨none, rfl, .inl ⟨rfl, fun t' ht' h => ?_⟩⟩
      have : t' = t := by omega
      subst this
      obtain ⟨row, u, hr, hu⟩ := h
      obtain ⟨j, hj⟩ := List.mem_iff_getElem?.mp hr
      exact hp j (List.getElem?_eq_some_iff.mp hj).1 row hj ⟨u, hu⟩
    · exact bndX e ⟨_, rfl, .inr ⟨room, v, row, t, rfl, rfl, q1, q2, q3, q4, q5⟩⟩
theorem act_any {D : Dd} : ∀ (w : List Int) (a b : Int), goW D a w = some b → act D (a, []) w = (b, [])
  | [], a, b, e => by cases e; rfl
  | x :: w, a, b, e => by
    unfold goW at e
    rw [act_cons]
    cases hg : go D a x with
    | none => rw [hg] at e; cases e
    | some c =>
      rw [hg] at e
      rw [stp_walk hg]
      exact act_any w c b e
theorem rounds_on {D : Dd} {row v : List Int} (h : LedR D row v (rot row)) {a : Int} (ha : row[0]? = some a) : ∀ k : Nat, k < row.length → goW D a (rep v k) = row[k]?
  | 0, _ => by rw [rep_zero, ha]; rfl
  | k + 1, hk => by
    have ih := rounds_on h ha k (by omega)
    obtain ⟨b, hb⟩ : ∃ b, row[k]? = some b := ⟨_, List.getElem?_eq_getElem (by omega)⟩
    obtain ⟨c, hc⟩ : ∃ c, row[k + 1]? = some c := ⟨_, List.getElem?_eq_getElem hk⟩
    rw [rep_succ', goW_app, ih, hb, hc]
    exact h.at_ k b c hb (by rw [rot_at hk]; exact hc)
theorem rounds_home {D : Dd} {row v : List Int} (h : LedR D row v (rot row)) {a : Int} (ha : row[0]? = some a) : goW D a (rep v row.length) = some a := by
  have hl := (List.getElem?_eq_some_iff.mp ha).1
  obtain ⟨m, hm⟩ : ∃ m, row.length = m + 1 := ⟨row.length - 1, by omega⟩
  obtain ⟨b, hb⟩ : ∃ b, row[m]? = some b := ⟨_, List.getElem?_eq_getElem (by omega)⟩
  have h0 := rounds_on h ha m (by omega)
  rw [hm, rep_succ', goW_app, h0, hb]
  have hr := rot_last (r := row) (by omega)
  rw [hm, Nat.add_sub_cancel, ha] at hr
  exact h.at_ m b a hb hr
theorem power_ok {L : Int} {rows : List (List Int)} {D : Dd} (W : Web L rows D) (hn : rows.length ≤ 5) {times : Int} (t1 : 1 ≤ times) : ∃ r, m_p_power_walk (L, rows) times = some r ∧ ((r = none ∧ ∀ t : Nat, (t : Int) = times → ¬ Rd D rows.length t) ∨ ∃ (w : List Int) (t : Nat), r = some w ∧ (t : Int) = times ∧ t ≤ rows.length ∧ Rd D rows.length t ∧ Gd w ∧ (∀ x ∈ w, Sok L x) ∧ w.length ≤ 900 ∧ goW D 0 (red (rep w t)) = some 0 ∧ ∀ k : Nat, 1 ≤ k → k < t → goW D 0 (red (rep w k)) ≠ some 0) := by
  have d := W.rep.1
  have h1 := W.reg.l1
  have h4 := W.reg.l4
  have n1 := W.n1
  have e0 : m_p_need_web (L, rows) = some () := need_web_ok W
  have e1 : m_p_need_number times 1 () = some () := number_okW t1
  have e2 : m_p_doors_of rows = some D := W.dof
  obtain ⟨r, e3, hr⟩ := round_ok d h1 h4 hn t1
  unfold m_p_power_walk
  refine bndX e0 (bndX e1 (bndX e2 (bndX e3 ?_)))
  rcases hr with ⟨rfl, hno⟩ | ⟨room, v, row, t, rfl, rfl, q1, q2, q3, q4, q5⟩
  · exact ⟨none, rfl, .inl ⟨rfl, hno⟩⟩
  · obtain ⟨rl, rn, rr⟩ := mem_rowsR.mp q1
    have tf := rows_few q1
    have t1' : 1 ≤ t := by omega
    obtain ⟨r0, r1⟩ := rr room (List.mem_of_getElem? q2)
    obtain ⟨f1, f2⟩ := first_waysW_ok d h1 h4 n1 W.n9
    have f1 : m_p_first_ways L D 0 = some (fwAll L D (ord (nbr L D) rows.length)) := f1
    obtain ⟨u, hu⟩ := room_walk W r0 r1
    obtain ⟨l, g1, g2, _⟩ := fw_least d h1 h4 n1 hu
    obtain ⟨l1, l2⟩ := f2.2.2 room l g1
    have ivl := iv_len l
    have e4 : catO (α := Int) l v = some (l ++ v) := Z.cat_ok (by rw [sizeL]; omega)
    have e5 : m_p_turned_back l = some (iv l) := turned_back_ok (by omega)
    have e6 : catO (α := Int) (l ++ v) (iv l) = some (l ++ v ++ iv l) := Z.cat_ok (by rw [List.length_append, sizeL]; omega)
    have hlen : (l ++ v ++ iv l).length ≤ 900 := by rw [List.length_append, List.length_append]; omega
    have e7 : m_p_straightened (l ++ v ++ iv l) = some (red (l ++ v ++ iv l)) := straight_pk (by omega)
    have rlx := red_len (l ++ v ++ iv l)
    have nl := sok_nz l1
    have nv := sok_nz q4
    have hp := home_pc d n1
    have nx : ∀ x ∈ l ++ v ++ iv l, x ≠ 0 := fun x hx => by
      rcases List.mem_append.mp hx with hx | hx
      · rcases List.mem_append.mp hx with hx | hx
        · exact nl x hx
        · exact nv x hx
      · exact iv_nz0 nl x hx
    -- powers
    have key : ∀ (k : Nat) (b : Int), goW D room (rep v k) = some b → ((goW D 0 (red (rep (red (l ++ v ++ iv l)) k))).getD (-1) = 0 ↔ b = room) := fun k b hb => by
      rw [room_home d n1 (rep_nz (red_mem nx) k), ← orb_nat, orb_red d hp nx, orb_conj d hp nl nv, act_any l 0 room g2, orb_nat, act_any _ room b hb]
      obtain ⟨b0, b1⟩ := goW_in d _ _ r0 r1 b hb
      have hpb : PcOk rows.length D (b, []) := ⟨b0, b1, trivial, fun _ z => (nomatch z), fun _ z => (nomatch z)⟩
      rw [act_move d hpb hp (iv_nz0 nl), iv_iv, act_any l 0 room g2]
      exact ⟨fun z => congrArg (fun q : Int × List Int => q.1) z, fun z => by rw [z]⟩
    have some0 : ∀ o : Option Int, o.getD (-1) = 0 ↔ o = some 0 := fun o => by
      cases o with
      | none => exact ⟨fun z => by have z : (-1 : Int) = 0 := z; omega, fun z => by cases z⟩
      | some x => exact ⟨fun z => congrArg some z, fun z => Option.some.inj z⟩
    refine ⟨some (red (l ++ v ++ iv l)), bindS f1 (bindS g1 (bindS e4 (bindS e5 (bindS e6 (bindS e7 rfl))))), .inr ⟨_, t, rfl, rfl, tf, ⟨row, v, q1, q3⟩, red_gd _, red_mem fun x hx => ?_, by omega, ?_, fun k k1 k2 => ?_⟩⟩
    · rcases List.mem_append.mp hx with hx | hx
      · rcases List.mem_append.mp hx with hx | hx
        · exact l1 x hx
        · exact q4 x hx
      · exact iv_sokW l1 x hx
    · have h := rounds_home q3 q2
      rw [rl] at h
      exact (some0 _).mp ((key t room h).mpr rfl)
    · intro z
      obtain ⟨b, hb⟩ : ∃ b, row[k]? = some b := ⟨_, List.getElem?_eq_getElem (by omega)⟩
      have h := rounds_on q3 q2 k (by omega)
      rw [hb] at h
      have := (key k b h).mp ((some0 _).mpr z)
      rw [this] at hb
      have hk : k = 0 := (List.getElem?_inj (show k < row.length by omega) rn).mp (hb.trans q2.symm)
      omega
end L25
namespace L25
open PySem PySem.Spec L2 Z
def Gp (D : Dd) (n m : Nat) : Prop := Rd D n m ∧ (1 ≤ m ∧ m ≤ n) ∧ ∀ t, 1 ≤ t → Rd D n t → t ≤ m
theorem Gp.one {D : Dd} {n m k : Nat} (h : Gp D n m) (h' : Gp D n k) : m = k := Nat.le_antisymm (h'.2.2 m h.2.1.1 h.1) (h.2.2 k h'.2.1.1 h'.1)
theorem rd_few {D : Dd} {n t : Nat} (h : Rd D n t) : t ≤ n := by
  obtain ⟨row, _, hr, _⟩ := h
  exact rows_few hr
theorem rd_one (D : Dd) {n : Nat} (n1 : 1 ≤ n) : Rd D n 1 := ⟨[0], [], mem_rowsR.mpr ⟨rfl, by simp, fun x hx => by rw [List.mem_singleton.mp hx]; exact ⟨Int.le_refl _, by omega⟩⟩, LedR.refl D [0]⟩
theorem gp_max {D : Dd} {n : Nat} (n1 : 1 ≤ n) {xs : List Int} (hx : ∀ x : Int, x ∈ xs ↔ ∃ t : Nat, x = (t : Int) ∧ 1 ≤ t ∧ t ≤ n ∧ Rd D n t) : ∃ m : Nat, maxO xs = some (m : Int) ∧ Gp D n m := by
  have h1 : ((1 : Nat) : Int) ∈ xs := (hx _).mpr ⟨1, rfl, Nat.le_refl _, n1, rd_one D n1⟩
  obtain ⟨m, hm⟩ : ∃ m, maxO xs = some m := by
    cases xs with
    | nil => cases h1
    | cons x t => exact ⟨_, rfl⟩
  obtain ⟨a, b⟩ := maxO_ok hm
  obtain ⟨t, rfl, t1, t2, ht⟩ := (hx m).mp a
  refine ⟨t, hm, ht, ⟨t1, t2⟩, fun k k1 hk => ?_⟩
  have := b _ ((hx (k : Int)).mpr ⟨k, rfl, k1, rd_few hk, hk⟩)
  omega
theorem greatest_ok {L : Int} {rows : List (List Int)} {D : Dd} (W : Web L rows D) (hn : rows.length ≤ 5) : ∃ m : Nat, m_p_greatest_power (L, rows) = some (m : Int) ∧ Gp D rows.length m := by
  have d := W.rep.1
  have dl := d.len
  have n1 := W.n1
  have e0 : m_p_need_web (L, rows) = some () := need_web_ok W
  have e2 : m_p_doors_of rows = some D := W.dof
  have hlr : (range' 1 ((rows.length : Int) + 1)).length = rows.length := by rw [rng_len]; omega
  have e3 : lcG (β := Int) (fun (times4 : Int) => ((m_p_round_walk L D times4).bind fun t6 => if t6.isSome = true then some (some times4) else some none)) (range' 1 ((rows.length : Int) + 1)) = some ((range' 1 ((rows.length : Int) + 1)).filterMap fun t => if ((m_p_round_walk L D t).getD none).isSome = true then some t else none) := lcG_some (fun t => if ((m_p_round_walk L D t).getD none).isSome = true then some t else none) (by rw [hlr, sizeL]; omega) fun t ht => by
    obtain ⟨t1, _⟩ := mem_rng ht
    obtain ⟨r, e, _⟩ := round_ok d W.reg.l1 W.reg.l4 hn t1
    rw [e]
    show (if r.isSome = true then some (some t) else some none) = some (if r.isSome = true then some t else none)
    split <;> rfl
  obtain ⟨m, e4, hm⟩ := gp_max (D := D) n1 (xs := (range' 1 ((rows.length : Int) + 1)).filterMap fun t => if ((m_p_round_walk L D t).getD none).isSome = true then some t else none) fun x => by
    rw [List.mem_filterMap]
    constructor
    · rintro ⟨t, ht, e⟩
      obtain ⟨t1, t2⟩ := mem_rng ht
      obtain ⟨r, er, hr⟩ := round_ok d W.reg.l1 W.reg.l4 hn t1
      rw [er] at e
      have e : (if r.isSome = true then some t else none) = some x := e
      split at e
      · cases e
        rcases hr with ⟨rfl, _⟩ | ⟨_, v, row, k, _, hk, q1, _, q3, _⟩
        · rename_i z
          cases z
        · exact ⟨k, hk.symm, by omega, by omega, row, v, q1, q3⟩
      · cases e
    · rintro ⟨t, rfl, t1, t2, ht⟩
      refine ⟨(t : Int), mem_rng'.mpr ⟨by omega, by omega⟩, ?_⟩
      obtain ⟨r, er, hr⟩ := round_ok d W.reg.l1 W.reg.l4 hn (times := (t : Int)) (by omega)
      rw [er]
      rcases hr with ⟨rfl, hno⟩ | ⟨_, _, _, _, rfl, _⟩
      · exact absurd ht (hno t rfl)
      · rfl
  refine ⟨m, ?_, hm⟩
  unfold m_p_greatest_power
  refine bindS e0 (bindS e2 ?_)
  rw [dl]
  exact bindS (rngO_ok (by omega)) (bindS e3 (bindS e4 rfl))
theorem rooted_ok {L : Int} {rows : List (List Int)} {m : Nat} (e : m_p_greatest_power (L, rows) = some (m : Int)) : m_p_is_rooted (L, rows) = some (decide ((m : Int) = 1)) := bindS e rfl
theorem snoc_ind {P : List Int → Prop} (h0 : P []) (hs : ∀ u t, P u → P (u ++ [t])) (u : List Int) : P u := by
  have : ∀ r : List Int, P r.reverse := fun r => by
    induction r with
    | nil => exact h0
    | cons t r ih =>
      rw [List.reverse_cons]
      exact hs _ _ ih
  have h := this u.reverse
  rw [List.reverse_reverse] at h
  exact h
def tab (E : Dd) (n : Nat) (u : List Int) : List Int := (range' 0 (n : Int)).map fun a => (goW E a u).getD (-1)
theorem tab_len (E : Dd) (n : Nat) (u : List Int) : (tab E n u).length = n := by
  unfold tab
  rw [List.length_map, rng_len]
  omega
theorem tab_at {E : Dd} {n : Nat} {u : List Int} {a : Int} (a0 : 0 ≤ a) (a1 : a < n) : (tab E n u)[a.toNat]? = some ((goW E a u).getD (-1)) := by
  unfold tab range'
  rw [List.getElem?_map, List.getElem?_map, List.getElem?_range (by omega)]
  show some ((goW E (0 + ((a.toNat : Nat) : Int)) u).getD (-1)) = _
  rw [show (0 : Int) + ((a.toNat : Nat) : Int) = a by omega]
theorem tab_in {L : Int} {n : Nat} {E : Dd} (d : Dr L n E) {u : List Int} {x : Int} (hx : x ∈ tab E n u) : -1 ≤ x ∧ x < n := by
  unfold tab at hx
  obtain ⟨a, ha, rfl⟩ := List.mem_map.mp hx
  obtain ⟨a0, a1⟩ := mem_rng ha
  cases e : goW E a u with
  | none =>
    show -1 ≤ (-1 : Int) ∧ (-1 : Int) < n
    omega
  | some b =>
    obtain ⟨b0, b1⟩ := goW_in d u a a0 a1 b e
    show -1 ≤ b ∧ b < n
    omega
def seqs (xs : List Int) : Nat → List (List Int)
  | 0 => [[]]
  | k + 1 => xs.flatMap fun a => (seqs xs k).map fun r => a :: r
theorem mem_seqs {xs : List Int} : ∀ {q : List Int} {k : Nat}, q.length = k → (∀ x ∈ q, x ∈ xs) → q ∈ seqs xs k
  | [], k, h, _ => by subst h; exact List.mem_singleton.mpr rfl
  | a :: q, k, h, hx => by
    subst h
    exact List.mem_flatMap.mpr ⟨a, hx a List.mem_cons_self, List.mem_map.mpr ⟨q, mem_seqs rfl fun x hx' => hx x (List.mem_cons_of_mem _ hx'), rfl⟩⟩
theorem seqs_len (xs : List Int) : ∀ k, (seqs xs k).length ≤ xs.length ^ k
  | 0 => Nat.le_refl _
  | k + 1 => by
    have h := flat_le (g := fun a : Int => (seqs xs k).map fun r => a :: r) (c := xs.length ^ k) xs fun a _ => by
      rw [List.length_map]
      exact seqs_len xs k
    rw [Nat.pow_succ]
    exact h
structure Tbs (L : Int) (E : Dd) (n : Nat) (o : List (List Int)) (s : List (List Int × Bool)) : Prop where
  keys : o = s.map Prod.fst
  nd : (s.map Prod.fst).Nodup
  at_ : ∀ q ∈ o, ∃ u, (∀ x ∈ u, Sok L x) ∧ q = tab E n u
  zero : tab E n [] ∈ o
theorem Tbs.len {L : Int} {E : Dd} {n : Nat} (d : Dr L n E) (hn : n ≤ 5) {o : List (List Int)} {s : List (List Int × Bool)} (h : Tbs L E n o s) : o.length ≤ 7776 := by
  have h1 := nodup_le (s.map Prod.fst) (seqs (range' (-1) (n : Int)) n) h.nd fun q hq => by
    rw [← h.keys] at hq
    obtain ⟨u, _, rfl⟩ := h.at_ q hq
    exact mem_seqs (tab_len E n u) fun x hx => mem_rng'.mpr (tab_in d hx)
  have h2 := seqs_len (range' (-1) (n : Int)) n
  rw [rng_len] at h2
  have h3 : ((n : Int) - -1).toNat ^ n ≤ 6 ^ n := Nat.pow_le_pow_left (by omega) n
  have h4 : 6 ^ n ≤ 6 ^ 5 := Nat.pow_le_pow_right (by decide) hn
  have h5 : 6 ^ 5 = 7776 := by decide
  rw [h.keys]
  omega
theorem tab_snoc {L : Int} {n : Nat} {E : Dd} (d : Dr L n E) (u : List Int) (s : Int) : (tab E n u).map (fun x => if 0 ≤ x then (go E x s).getD (-1) else -1) = tab E n (u ++ [s]) := by
  unfold tab
  rw [List.map_map]
  refine List.map_congr_left fun a ha => ?_
  obtain ⟨a0, a1⟩ := mem_rng ha
  show (if 0 ≤ (goW E a u).getD (-1) then (go E ((goW E a u).getD (-1)) s).getD (-1) else -1) = (goW E a (u ++ [s])).getD (-1)
  rw [goW_app]
  cases e : goW E a u with
  | none => rfl
  | some b =>
    obtain ⟨b0, b1⟩ := goW_in d u a a0 a1 b e
    show (if 0 ≤ b then (go E b s).getD (-1) else -1) = (goW E b [s]).getD (-1)
    rw [if_pos b0, goW_sing]
theorem tables_ok {L : Int} {n : Nat} {E : Dd} (d : Dr L n E) (h1 : 1 ≤ L) (h4 : L ≤ 4) (hn : n ≤ 5) : ∃ T, m_l_all_tables E L = some T ∧ T.length ≤ 7776 ∧ (∀ q ∈ T, ∃ u, (∀ x ∈ u, Sok L x) ∧ q = tab E n u) ∧ ∀ u, (∀ x ∈ u, Sok L x) → tab E n u ∈ T := by
  have dl := d.len
  have est : m_l_steps L = some (stL L) := steps_ok' h1 h4
  have t0 : tab E n [] = range' 0 (n : Int) := by
    unfold tab
    exact List.map_id' _
  unfold m_l_all_tables
  rw [dl]
  refine bndX (rgO_okN (by omega)) (bndX (a := range' 0 (n : Int)) rfl ?_)
  refine whX (fun s : Int × List (List Int × Bool) × List (List Int) => 0 ≤ s.1 ∧ s.1 ≤ s.2.2.length ∧ Tbs L E n s.2.2 s.2.1 ∧ ∀ i : Nat, (i : Int) < s.1 → ∀ q, s.2.2[i]? = some q → ∀ t, Sok L t → (q.map fun x => if 0 ≤ x then (go E x t).getD (-1) else -1) ∈ s.2.2) (fun s => 7776 - s.1.toNat) ⟨Int.le_refl _, by show (0 : Int) ≤ ((1 : Nat) : Int); decide, ⟨rfl, by show [range' 0 (n : Int)].Nodup; simp, fun q hq => ⟨[], (fun _ z => nomatch z), by rw [List.mem_singleton.mp hq, t0]⟩, by rw [t0]; exact List.mem_singleton.mpr rfl⟩, fun i hi => by exfalso; have hi : (i : Int) < 0 := hi; omega⟩ (by show 7776 - _ < 10000; omega) (fun s hs => ?_) (fun s hs hcf => ?_)
  · obtain ⟨i, s, o⟩ := s
    obtain ⟨i0, i1, h, hcl⟩ := hs
    have i0 : 0 ≤ i := i0
    have i1 : i ≤ (o.length : Int) := i1
    have h : Tbs L E n o s := h
    have hl := h.len d hn
    by_cases z : i < o.length
    · refine .inr ⟨congrArg some (decide_eq_true z), ?_⟩
      obtain ⟨j, rfl⟩ : ∃ j : Nat, i = (j : Int) := ⟨i.toNat, by omega⟩
      have hj : j < o.length := by omega
      have ea : o[j]? = some o[j] := List.getElem?_eq_getElem hj
      obtain ⟨u, hu, hq⟩ := h.at_ _ (List.getElem_mem hj)
      rw [hq] at ea
      obtain ⟨⟨s', o'⟩, e, ⟨q2, ⟨ys, q3⟩⟩, q5⟩ := lp_goN (f := (fun (s9 : ((List ((List Int) × Bool)) × (List (List Int)))) (step10 : Int) => ((idx s9.2 (j : Int)).bind fun t14 => (lcO (β := Int) (fun (room15 : Int) => ((if (decide (0 ≤ room15)) = true then ((idx E room15).bind fun t17 => some ((dGet t17 step10).getD (-1))) else some (-1)).bind fun t18 => some t18)) t14).bind fun t19 => ((if (!(dGet s9.1 t19).isSome) = true then ((dPutO s9.1 t19 true).bind fun t20 => ((appO s9.2 t19).bind fun t21 => some (t20, t21))) else some (s9.1, s9.2) : Option ((List ((List Int) × Bool)) × (List (List Int)))).bind fun s22 => some (s22.1, s22.2)))))
        (fun m (r : List (List Int × Bool) × List (List Int)) => (Tbs L E n r.2 r.1 ∧ (∃ ys, r.2 = o ++ ys)) ∧ ∀ i : Nat, i < m → ∀ t, (stL L)[i]? = some t → tab E n (u ++ [t]) ∈ r.2) (xs := stL L) (fun m t r ht hr => by
        obtain ⟨s', o'⟩ := r
        obtain ⟨⟨q2, ⟨ys, q3⟩⟩, q5⟩ := hr
        have q2 : Tbs L E n o' s' := q2
        have q3 : o' = o ++ ys := q3
        have q5 : ∀ i : Nat, i < m → ∀ t, (stL L)[i]? = some t → tab E n (u ++ [t]) ∈ o' := q5
        have hl' := q2.len d hn
        have hol' : o'.length = s'.length := by rw [q2.keys, List.length_map]
        have st : Sok L t := mem_stL.mp (List.mem_of_getElem? ht)
        have e0 : idx o' (j : Int) = some (tab E n u) := idx_of (by omega) (by rw [Int.toNat_natCast, q3, List.getElem?_append_left hj]; exact ea)
        have e1 : lcO (β := Int) (fun (room15 : Int) => ((if (decide (0 ≤ room15)) = true then ((idx E room15).bind fun t17 => some ((dGet t17 t).getD (-1))) else some (-1)).bind fun t18 => some t18)) (tab E n u) = some ((tab E n u).map fun x => if 0 ≤ x then (go E x t).getD (-1) else -1) := lcO_some _ (by rw [tab_len, sizeL]; omega) fun x hx => by
          obtain ⟨x0, x1⟩ := tab_in d hx
          by_cases w : 0 ≤ x
          · refine bindS (a := (go E x t).getD (-1)) ((if_pos (decide_eq_true w)).trans (bindS (idx_row w (by rw [dl]; exact x1)) rfl)) ?_
            rw [if_pos w]
          · refine bindS (a := -1) (if_neg (by simpa using w)) ?_
            rw [if_neg w]
        rw [tab_snoc d] at e1
        generalize hp : tab E n (u ++ [t]) = p at e1
        have only : ∀ i t', (stL L)[i]? = some t' → i = m → tab E n (u ++ [t']) = p := fun i t' ht' hi => by
          subst hi
          rw [ht] at ht'
          cases ht'
          exact hp
        by_cases y : (dGet s' p).isSome = true
        · have hin : p ∈ o' := by
            rw [q2.keys]
            exact dGet_key_mem.mp y
          refine ⟨(s', o'), bindS e0 (bindS e1 (bindS (a := (s', o')) (if_neg (by show ¬ (!(dGet s' p).isSome) = true; rw [y]; decide)) rfl)), ⟨q2, ys, q3⟩, fun i hi t' ht' => ?_⟩
          by_cases w : i = m
          · rw [only i t' ht' w]
            exact hin
          · exact q5 i (by omega) t' ht'
        · have y' : (dGet s' p).isSome = false := by simpa using y
          have hput : dPut s' p true = s' ++ [(p, true)] := put_newL _ y'
          have f2 : dPutO s' p true = some (dPut s' p true) := if_pos (by rw [sizeL]; omega)
          have f3 : appO o' p = some (o' ++ [p]) := Z.app_ok (by rw [sizeL]; omega)
          have hnot : (!(dGet s' p).isSome) = true := by rw [y']; rfl
          refine ⟨(dPut s' p true, o' ++ [p]), bindS e0 (bindS e1 (bindS (a := (dPut s' p true, o' ++ [p])) ((if_pos hnot).trans (bindS f2 (bindS f3 rfl))) rfl)), ⟨⟨?_, dPut_nd q2.nd _ _, fun q hq => ?_, ?_⟩, ys ++ [p], ?_⟩, fun i hi t' ht' => ?_⟩
          · show o' ++ [p] = (dPut s' p true).map Prod.fst
            rw [hput, List.map_append, q2.keys]
            rfl
          · rcases List.mem_append.mp hq with hq | hq
            · exact q2.at_ q hq
            · rw [List.mem_singleton.mp hq, ← hp]
              refine ⟨u ++ [t], fun x hx => ?_, rfl⟩
              rcases List.mem_append.mp hx with hx | hx
              · exact hu x hx
              · rw [List.mem_singleton.mp hx]
                exact st
          · exact List.mem_append.mpr (.inl q2.zero)
          · show o' ++ [p] = _
            rw [q3, List.append_assoc]
          · show tab E n (u ++ [t']) ∈ o' ++ [p]
            by_cases w : i = m
            · rw [only i t' ht' w]
              exact List.mem_append.mpr (.inr (List.mem_singleton.mpr rfl))
            · exact List.mem_append.mpr (.inl (q5 i (by omega) t' ht'))) (s0 := (s, o)) ⟨⟨h, [], (List.append_nil _).symm⟩, fun i hi => absurd hi (Nat.not_lt_zero _)⟩
      have q2 : Tbs L E n o' s' := q2
      have q3 : o' = o ++ ys := q3
      have q5 : ∀ i : Nat, i < (stL L).length → ∀ t, (stL L)[i]? = some t → tab E n (u ++ [t]) ∈ o' := q5
      refine ⟨((j : Int) + 1, s', o'), bindS est (bindS e rfl), ⟨by show (0 : Int) ≤ j + 1; omega, ?_, q2, fun i hi q hq' t st => ?_⟩, ?_⟩
      · show (j : Int) + 1 ≤ (o'.length : Int)
        rw [q3, List.length_append]
        omega
      · show _ ∈ o'
        have hi : (i : Int) < j + 1 := hi
        have hq2 : o'[i]? = some q := hq'
        rw [q3, List.getElem?_append_left (by omega)] at hq2
        by_cases z : i = j
        · subst z
          rw [ea] at hq2
          cases hq2
          rw [tab_snoc d]
          obtain ⟨m, hm⟩ := List.mem_iff_getElem?.mp (mem_stL.mpr st)
          exact q5 m (List.getElem?_eq_some_iff.mp hm).1 t hm
        · rw [q3]
          exact List.mem_append.mpr (.inl (hcl i (show (i : Int) < (j : Int) by omega) q hq2 t st))
      · show 7776 - ((j : Int) + 1).toNat < 7776 - ((j : Int)).toNat
        omega
    · exact .inl (congrArg some (decide_eq_false z))
  · obtain ⟨i, s, o⟩ := s
    obtain ⟨i0, i1, h, hcl⟩ := hs
    have i1 : i ≤ (o.length : Int) := i1
    have h : Tbs L E n o s := h
    have hcf : some (decide (i < (o.length : Int))) = some false := hcf
    have hi : i = (o.length : Int) := by
      have := of_decide_eq_false (Option.some.inj hcf)
      omega
    refine ⟨o, rfl, h.len d hn, h.at_, fun u => snoc_ind (P := fun u => (∀ x ∈ u, Sok L x) → tab E n u ∈ o) (fun _ => h.zero) (fun u t ih hu => ?_) u⟩
    have := ih fun x hx => hu x (List.mem_append.mpr (.inl hx))
    obtain ⟨j, hj⟩ := List.mem_iff_getElem?.mp this
    have hjl := (List.getElem?_eq_some_iff.mp hj).1
    have := hcl j (show (j : Int) < i by omega) _ hj t (hu t (List.mem_append.mpr (.inr (List.mem_singleton.mpr rfl))))
    rw [tab_snoc d] at this
    exact this
end L25
namespace L25
open PySem PySem.Spec L2 Z
def nx (q : List Int) (x : Int) : Int := q.getD x.toNat (-1)
def itq (q : List Int) (f : Int) : Nat → Int
  | 0 => f
  | k + 1 => nx q (itq q f k)
structure Cyc (q : List Int) (n t : Nat) (f : Int) : Prop where
  f0 : 0 ≤ f
  f1 : f < n
  t1 : 1 ≤ t
  off : ∀ j, 1 ≤ j → j < t → 0 ≤ itq q f j ∧ itq q f j ≠ f
  back : itq q f t = f
theorem nx_tab {E : Dd} {n : Nat} {u : List Int} {x : Int} (x0 : 0 ≤ x) (x1 : x < n) : nx (tab E n u) x = (goW E x u).getD (-1) := by
  unfold nx
  rw [List.getD_eq_getElem?_getD, tab_at x0 x1]
  rfl
theorem nx_some {E : Dd} {n : Nat} {u : List Int} {x y : Int} (x0 : 0 ≤ x) (x1 : x < n) (y0 : 0 ≤ y) (h : nx (tab E n u) x = y) : goW E x u = some y := by
  rw [nx_tab x0 x1] at h
  cases e : goW E x u with
  | none =>
    rw [e] at h
    have h : (-1 : Int) = y := h
    omega
  | some b =>
    rw [e] at h
    exact congrArg some h
theorem cyc_rd {L : Int} {n t : Nat} {E : Dd} (d : Dr L n E) {u : List Int} {f : Int} (h : Cyc (tab E n u) n t f) : Rd E n t := by
  obtain ⟨f0, f1, t1, off, back⟩ := h
  have rg : ∀ j, j < t → 0 ≤ itq (tab E n u) f j ∧ itq (tab E n u) f j < n := fun j => by
    induction j with
    | zero => exact fun _ => ⟨f0, f1⟩
    | succ j ih =>
      intro hj
      obtain ⟨a, b⟩ := ih (by omega)
      have h0 := (off (j + 1) (by omega) hj).1
      have h1 := nx_some a b h0 rfl
      exact ⟨h0, (goW_in d u _ a b _ h1).2⟩
  have nxt : ∀ j, j < t → goW E (itq (tab E n u) f j) u = some (itq (tab E n u) f (j + 1)) := fun j hj => by
    obtain ⟨a, b⟩ := rg j hj
    refine nx_some a b ?_ rfl
    by_cases z : j + 1 < t
    · exact (rg (j + 1) z).1
    · have : j + 1 = t := by omega
      rw [this, back]
      exact f0
  have inj : ∀ i j, i < j → j < t → itq (tab E n u) f i ≠ itq (tab E n u) f j := fun i => by
    induction i with
    | zero => exact fun j h1 h2 e => (off j (by omega) h2).2 e.symm
    | succ i ih =>
      intro j h1 h2 e
      obtain ⟨j', rfl⟩ : ∃ j', j = j' + 1 := ⟨j - 1, by omega⟩
      have g1 := goW_iv d u _ _ (rg i (by omega)).1 (nxt i (by omega))
      have g2 := goW_iv d u _ _ (rg j' (by omega)).1 (nxt j' (by omega))
      rw [e, g2] at g1
      exact ih j' (by omega) (by omega) (Option.some.inj g1).symm
  have get : ∀ j, j < t → ((List.range t).map (itq (tab E n u) f))[j]? = some (itq (tab E n u) f j) := fun j hj => by
    rw [List.getElem?_map, List.getElem?_range hj]
    rfl
  have hlen : ((List.range t).map (itq (tab E n u) f)).length = t := by rw [List.length_map, List.length_range]
  refine ⟨(List.range t).map (itq (tab E n u) f), u, mem_rowsR.mpr ⟨hlen, ?_, fun x hx => ?_⟩, by rw [rot_len], fun i a b ha hb => ?_⟩
  · refine List.nodup_iff_pairwise_ne.mpr (List.pairwise_iff_getElem.mpr fun i j hi hj hij e => ?_)
    rw [List.getElem_map, List.getElem_map, List.getElem_range, List.getElem_range] at e
    rw [hlen] at hj
    exact inj i j hij hj e
  · obtain ⟨j, hj, rfl⟩ := List.mem_map.mp hx
    exact rg j (List.mem_range.mp hj)
  · have hi := (List.getElem?_eq_some_iff.mp ha).1
    rw [hlen] at hi
    rw [get i hi] at ha
    cases ha
    rw [nxt i hi]
    by_cases z : i + 1 < t
    · rw [rot_at (by rw [hlen]; exact z), get _ z] at hb
      exact hb
    · have hl := rot_last (r := (List.range t).map (itq (tab E n u) f)) (by rw [hlen]; exact t1)
      rw [hlen, show t - 1 = i by omega, hb, get 0 (by omega)] at hl
      rw [show i + 1 = t by omega, back]
      exact hl.symm
theorem rd_cyc {n t : Nat} {E : Dd} {row u : List Int} (hr : row ∈ rowsR n t) (t1 : 1 ≤ t) (h : LedR E row u (rot row)) : ∃ f, Cyc (tab E n u) n t f := by
  obtain ⟨rl, rn, rr⟩ := mem_rowsR.mp hr
  have e0 : row[0]? = some (row[0]'(by omega)) := List.getElem?_eq_getElem (by omega)
  have it : ∀ j, j < t → row[j]? = some (itq (tab E n u) (row[0]'(by omega)) j) := fun j => by
    induction j with
    | zero => exact fun _ => e0
    | succ j ih =>
      intro hj
      have h1 := ih (by omega)
      obtain ⟨c, hc⟩ : ∃ c, row[j + 1]? = some c := ⟨_, List.getElem?_eq_getElem (by omega)⟩
      have h2 := h.at_ j _ c h1 (by rw [rot_at (by omega)]; exact hc)
      obtain ⟨a0, a1⟩ := rr _ (List.mem_of_getElem? h1)
      rw [hc]
      show some c = some (nx (tab E n u) (itq (tab E n u) (row[0]'(by omega)) j))
      rw [nx_tab a0 a1, h2]
      rfl
  obtain ⟨f0, f1⟩ := rr _ (List.mem_of_getElem? e0)
  refine ⟨row[0]'(by omega), f0, f1, t1, fun j j1 jt => ?_, ?_⟩
  · have h1 := it j jt
    refine ⟨(rr _ (List.mem_of_getElem? h1)).1, fun z => ?_⟩
    rw [z] at h1
    have : j = 0 := (List.getElem?_inj (show j < row.length by omega) rn).mp (h1.trans e0.symm)
    omega
  · obtain ⟨m, rfl⟩ : ∃ m, t = m + 1 := ⟨t - 1, by omega⟩
    have h1 := it m (by omega)
    have hl := rot_last (r := row) (by omega)
    rw [rl, Nat.add_sub_cancel, e0] at hl
    have h2 := h.at_ m _ _ h1 hl
    obtain ⟨a0, a1⟩ := rr _ (List.mem_of_getElem? h1)
    show nx (tab E n u) (itq (tab E n u) _ m) = _
    rw [nx_tab a0 a1, h2]
    rfl
theorem rounds_ok {L : Int} {n : Nat} {E : Dd} (d : Dr L n E) (n1 : 1 ≤ n) (hn : n ≤ 5) {T : List (List Int)} (hT : ∀ q ∈ T, ∃ u, (∀ x ∈ u, Sok L x) ∧ q = tab E n u) (hA : ∀ u, (∀ x ∈ u, Sok L x) → tab E n u ∈ T) : ∃ H, m_l_rounds T (n : Int) = some H ∧ H.length = n + 1 ∧ ∀ t : Nat, t ≤ n → (H[t]? = some true ↔ 1 ≤ t ∧ Rd E n t) := by
  have hlr : (range' 0 (n : Int)).length = n := by rw [rng_len]; omega
  suffices h : ∃ H, m_l_rounds T (n : Int) = some H ∧ H.length = n + 1 ∧ ∀ t : Nat, t ≤ n → (H[t]? = some true ↔ ∃ q ∈ T, ∃ f, Cyc q n t f) by
    obtain ⟨H, e, hl, hh⟩ := h
    refine ⟨H, e, hl, fun t ht => (hh t ht).trans ⟨?_, ?_⟩⟩
    · rintro ⟨q, hq, f, hf⟩
      obtain ⟨u, _, rfl⟩ := hT q hq
      exact ⟨hf.t1, cyc_rd d hf⟩
    · rintro ⟨t1, row, u, hr, hu⟩
      obtain ⟨rl, rn, rr⟩ := mem_rowsR.mp hr
      have e0 : row[0]? = some (row[0]'(by omega)) := List.getElem?_eq_getElem (by omega)
      obtain ⟨c, hc⟩ := getq hu.len e0
      have us := goW_sok d u _ _ (rr _ (List.mem_of_getElem? e0)).1 (hu.at_ 0 _ c e0 hc)
      exact ⟨_, hA u us, rd_cyc hr t1 hu⟩
  have e0 : repO ([false]) ((n : Int) + 1) = some (List.replicate (n + 1) false) := by
    unfold repO
    rw [if_pos ⟨by omega, by omega, by show 1 * ((n : Int) + 1).toNat ≤ sizeLine; rw [sizeL]; omega⟩]
    have : ((n : Int) + 1).toNat = n + 1 := by omega
    rw [this]
    exact congrArg some List.flatten_replicate_singleton
  unfold m_l_rounds
  refine bndX e0 ?_
  refine lpX (fun i (H : List Bool) => H.length = n + 1 ∧ ∀ t : Nat, t ≤ n → (H[t]? = some true ↔ ∃ i', i' < i ∧ ∃ q, T[i']? = some q ∧ ∃ f, Cyc q n t f)) ⟨List.length_replicate, fun t ht => ?_⟩ (fun i q H hq hH => ?_) (fun H hH => ⟨H, rfl, hH.1, fun t ht => (hH.2 t ht).trans ⟨?_, ?_⟩⟩)
  · rw [List.getElem?_replicate]
    constructor
    · intro z
      split at z <;> cases z
    · rintro ⟨i', hi, _⟩
      omega
  · obtain ⟨Hl, hH⟩ := hH
    obtain ⟨u, hu, rfl⟩ := hT q (List.mem_of_getElem? hq)
    refine bndX (rngO_ok (by omega)) ?_
    refine lpX (fun j (H : List Bool) => H.length = n + 1 ∧ ∀ t : Nat, t ≤ n → (H[t]? = some true ↔ (∃ i', i' < i ∧ ∃ q, T[i']? = some q ∧ ∃ f, Cyc q n t f) ∨ ∃ f : Int, f < (j : Int) ∧ Cyc (tab E n u) n t f)) ⟨Hl, fun t ht => (hH t ht).trans ⟨.inl, fun z => z.elim (fun z => z) fun z => by
      obtain ⟨f, hf, hc⟩ := z
      have := hc.f0
      omega⟩⟩ (fun j f H hf hH => ?_) (fun H hH => ⟨H, rfl, hH.1, fun t ht => (hH.2 t ht).trans ⟨?_, ?_⟩⟩)
    · obtain ⟨Hl, hH⟩ := hH
      obtain ⟨ef, hj⟩ := rngAt hf
      have ef : f = (j : Int) := by omega
      have hj : j < n := by omega
      have f0 : 0 ≤ f := by omega
      have f1 : f < n := by omega
      have nxi : ∀ x : Int, 0 ≤ x → x < n → idx (tab E n u) x = some (nx (tab E n u) x) := fun x x0 x1 => idx_of x0 (by rw [nx_tab x0 x1]; exact tab_at x0 x1)
      have tin : ∀ x : Int, 0 ≤ x → x < n → -1 ≤ nx (tab E n u) x ∧ nx (tab E n u) x < n := fun x x0 x1 => by
        rw [nx_tab x0 x1]
        exact tab_in d (List.mem_of_getElem? (tab_at x0 x1))
      refine bndX (nxi f f0 f1) (bndX (rngO_ok (by omega)) ?_)
      obtain ⟨⟨room, times⟩, e, k, hk⟩ := lp_goN (f := (fun (s15 : (Int × Int)) (turn16 : Int) => ((if ((decide (0 ≤ s15.1)) && (!decide (s15.1 = f))) = true then ((idx (tab E n u) s15.1).bind fun t20 => some (t20, (s15.2 + 1))) else some (s15.1, s15.2) : Option (Int × Int)).bind fun s21 => some (s21.1, s21.2)))) (xs := range' 0 (n : Int)) (fun i s => ∃ k : Nat, s = (itq (tab E n u) f k, (k : Int)) ∧ 1 ≤ k ∧ k ≤ i + 1 ∧ (∀ m, 1 ≤ m → m < k → 0 ≤ itq (tab E n u) f m ∧ itq (tab E n u) f m ≠ f) ∧ (-1 ≤ itq (tab E n u) f k ∧ itq (tab E n u) f k < n) ∧ (k = i + 1 ∨ itq (tab E n u) f k < 0 ∨ itq (tab E n u) f k = f)) (fun i x s hx hs => by
        obtain ⟨k, rfl, k1, k2, hoff, ⟨r0, r1⟩, hst⟩ := hs
        by_cases z : 0 ≤ itq (tab E n u) f k ∧ itq (tab E n u) f k ≠ f
        · refine ⟨(nx (tab E n u) (itq (tab E n u) f k), (k : Int) + 1), bindS (a := (nx (tab E n u) (itq (tab E n u) f k), (k : Int) + 1)) ((if_pos (by simp [z.1, z.2])).trans (bindS (nxi _ z.1 r1) rfl)) rfl, k + 1, rfl, by omega, by omega, fun m m1 m2 => ?_, tin _ z.1 r1, .inl ?_⟩
          · by_cases y : m = k
            · rw [y]; exact z
            · exact hoff m m1 (by omega)
          · rcases hst with h | h | h
            · omega
            · omega
            · exact absurd h z.2
        · refine ⟨(itq (tab E n u) f k, (k : Int)), bindS (a := (itq (tab E n u) f k, (k : Int))) (if_neg (by simpa using z)) rfl, k, rfl, k1, by omega, hoff, ⟨r0, r1⟩, ?_⟩
          by_cases y : itq (tab E n u) f k < 0
          · exact .inr (.inl y)
          · exact .inr (.inr (Classical.byContradiction fun w => z ⟨by omega, w⟩))) (s0 := (nx (tab E n u) f, 1)) ⟨1, rfl, Nat.le_refl _, by omega, fun m m1 m2 => by omega, tin f f0 f1, .inl rfl⟩
      obtain ⟨hk, k1, k2, hoff, ⟨r0, r1⟩, hst⟩ := hk
      rw [hlr] at k2 hst
      cases hk
      refine bndX e ?_
      have uni : ∀ t : Nat, t ≤ n → Cyc (tab E n u) n t f → t = k := fun t ht hc => by
        rcases Nat.lt_trichotomy t k with z | z | z
        · exact absurd hc.back (hoff t hc.t1 z).2
        · exact z
        · obtain ⟨a, b⟩ := hc.off k k1 z
          rcases hst with h | h | h
          · omega
          · omega
          · exact absurd h b
      by_cases z : itq (tab E n u) f k = f
      · have hc : Cyc (tab E n u) n k f := ⟨f0, f1, k1, hoff, z⟩
        have kn : k ≤ n := rd_few (cyc_rd d hc)
        have es : setO H (k : Int) true = some (H.set k true) := by
          have := set_okI (xs := H) (i := (k : Int)) (by omega) (by omega) true
          rw [Int.toNat_natCast] at this
          exact this
        refine bndX (a := H.set k true) ((if_pos (decide_eq_true z)).trans (bindS es rfl)) ⟨_, rfl, by rw [List.length_set]; exact Hl, fun t ht => ?_⟩
        rw [List.getElem?_set]
        by_cases y : k = t
        · subst y
          rw [if_pos rfl, if_pos (by omega)]
          exact ⟨fun _ => .inr ⟨f, by omega, hc⟩, fun _ => rfl⟩
        · rw [if_neg y, hH t ht]
          refine or_congr Iff.rfl ⟨fun ⟨g, hg, hgc⟩ => ⟨g, by omega, hgc⟩, fun ⟨g, hg, hgc⟩ => ⟨g, ?_, hgc⟩⟩
          refine Classical.byContradiction fun w => ?_
          have : g = f := by omega
          subst this
          exact y (uni t ht hgc).symm
      · refine bndX (a := H) (if_neg (by simpa using z)) ⟨_, rfl, Hl, fun t ht => ?_⟩
        rw [hH t ht]
        refine or_congr Iff.rfl ⟨fun ⟨g, hg, hgc⟩ => ⟨g, by omega, hgc⟩, fun ⟨g, hg, hgc⟩ => ⟨g, ?_, hgc⟩⟩
        refine Classical.byContradiction fun w => ?_
        have : g = f := by omega
        subst this
        have := uni t ht hgc
        subst this
        exact z hgc.back
    · rintro (⟨i', hi, r⟩ | ⟨f, hf, hc⟩)
      · exact ⟨i', by omega, r⟩
      · exact ⟨i, by omega, _, hq, f, hc⟩
    · rintro ⟨i', hi, q', hq', f, hc⟩
      by_cases z : i' = i
      · subst z
        rw [hq] at hq'
        cases hq'
        refine .inr ⟨f, ?_, hc⟩
        rw [hlr]
        exact hc.f1
      · exact .inl ⟨i', by omega, q', hq', f, hc⟩
  · rintro ⟨i', hi, q, hq, f, hc⟩
    exact ⟨q, List.mem_of_getElem? hq, f, hc⟩
  · rintro ⟨q, hq, f, hc⟩
    obtain ⟨i', hi⟩ := List.mem_iff_getElem?.mp hq
    exact ⟨i', (List.getElem?_eq_some_iff.mp hi).1, q, hi, f, hc⟩
end L25
namespace L25
open PySem PySem.Spec L2 Z
theorem goW_eq0 {L : Int} {n : Nat} {D E : Dd} (d : Dr L n D) (h : ∀ a t, 0 ≤ a → go D a t = go E a t) : ∀ (w : List Int) (a : Int), 0 ≤ a → goW D a w = goW E a w
  | [], _, _ => rfl
  | s :: w, a, a0 => by
    unfold goW
    rw [← h a s a0]
    cases e : go D a s with
    | none => rfl
    | some b => exact goW_eq0 d h w b (d.ok a s b a0 e).1
theorem rd_eq {L : Int} {n : Nat} {D E : Dd} (d : Dr L n D) (h : ∀ a t, 0 ≤ a → go D a t = go E a t) {t : Nat} : Rd D n t ↔ Rd E n t := by
  constructor
  · rintro ⟨row, u, hr, hu⟩
    refine ⟨row, u, hr, hu.len, fun i a b ha hb => ?_⟩
    rw [← goW_eq0 d h u a ((mem_rowsR.mp hr).2.2 a (List.mem_of_getElem? ha)).1]
    exact hu.at_ i a b ha hb
  · rintro ⟨row, u, hr, hu⟩
    refine ⟨row, u, hr, hu.len, fun i a b ha hb => ?_⟩
    rw [goW_eq0 d h u a ((mem_rowsR.mp hr).2.2 a (List.mem_of_getElem? ha)).1]
    exact hu.at_ i a b ha hb
theorem round_law {L : Int} {n t : Nat} {E : Dd} (d : Dr L n E) (hn : n ≤ 5) {w : List Int} (hl : w.length ≤ 900) (t1 : 1 ≤ t) (tn : t ≤ n) (home : goW E 0 (red (rep w t)) = some 0) (off : ∀ k : Nat, 1 ≤ k → k < t → goW E 0 (red (rep w k)) ≠ some 0) : m_l_round E w (n : Int) = some (t : Int) := by
  have hlr : (range' 1 ((n : Int) + 1)).length = n := by rw [rng_len]; omega
  unfold m_l_round
  refine bindS (rngO_ok (by omega)) ?_
  rcases lpR_mix (R := Int) (f := (fun (s2 : Unit) (times3 : Int) => (((repT w times3).bind fun t7 => (m_l_short t7).bind fun t8 => ((lp (fun (s9 : Int) (step10 : Int) => ((if (decide (0 ≤ s9)) = true then ((idx E s9).bind fun t14 => some ((dGet t14 step10).getD (-1))) else some s9 : Option Int).bind fun s15 => some s15)) t8 0).bind fun f11 => (if (decide (f11 = 0)) = true then some (Step.ret times3) else some (Step.go ())))) : Option (Step Int Unit)))) (fun r => r = (t : Int)) (xs := range' 1 ((n : Int) + 1)) (fun i _ => i < t) (fun i x s hx hs => by
    obtain ⟨hx1, hi⟩ := rngAt hx
    have hx1 : x = ((i + 1 : Nat) : Int) := by omega
    subst hx1
    have e1 : repT w ((i + 1 : Nat) : Int) = some (rep w (i + 1)) := by
      have := rep_ok (w := w) (m := ((i + 1 : Nat) : Int)) (by omega) (by omega) (by omega)
      rw [Int.toNat_natCast] at this
      exact this
    have rl := rep_len w (i + 1)
    have hb : (i + 1) * w.length ≤ 5 * 900 := Nat.mul_le_mul (by omega) hl
    have e2 : m_l_short (rep w (i + 1)) = some (red (rep w (i + 1))) := shortP_ok (by omega)
    have e3 := room_lp d (red (rep w (i + 1))) (some 0) fun a e => by cases e; omega
    have e3 : lp (fun (s9 : Int) (step10 : Int) => ((if (decide (0 ≤ s9)) = true then ((idx E s9).bind fun t14 => some ((dGet t14 step10).getD (-1))) else some s9 : Option Int).bind fun s15 => some s15)) (red (rep w (i + 1))) 0 = some ((goW E 0 (red (rep w (i + 1)))).getD (-1)) := e3
    by_cases z : i + 1 = t
    · subst z
      refine .inr ⟨_, bindS e1 (bindS e2 (bindS e3 (if_pos ?_))), rfl⟩
      rw [home]
      rfl
    · refine .inl ⟨(), bindS e1 (bindS e2 (bindS e3 (if_neg ?_))), by omega⟩
      have := off (i + 1) (by omega) (by omega)
      cases hg : goW E 0 (red (rep w (i + 1))) with
      | none => decide
      | some b =>
        rw [hg] at this
        have hb : b ≠ 0 := fun z => this (by rw [z])
        show ¬ decide (b = 0) = true
        simp [hb]) (s0 := ()) t1 with ⟨_, e, hlt⟩ | ⟨r, e, hr⟩
  · have hlt : (range' 1 ((n : Int) + 1)).length < t := hlt
    omega
  · exact bindS e (by rw [hr]; rfl)
theorem is_walk_ok {L : Int} {w : List Int} (hw : ∀ x ∈ w, Sok L x) (g : Gd w) (hl : w.length ≤ 900) : m_l_is_walk w L = some true := by
  unfold m_l_is_walk
  obtain ⟨_, e, _⟩ := lpR_go (R := Bool) (f := (fun (s1 : Unit) (step2 : Int) => ((if (false || (false || ((decide (step2 = 0)) || (decide (L < (absI step2)))))) = true then some (Step.ret false) else some (Step.go ())) : Option (Step Bool Unit)))) (fun _ => True) (xs := w) (fun x hx s _ => by
    obtain ⟨h1, h2, h3⟩ := hw x hx
    refine ⟨(), if_neg ?_, trivial⟩
    have : ¬ L < absI x := by unfold absI; split <;> omega
    simp [h1, this]) (s0 := ()) trivial
  have e2 : m_l_short w = some (red w) := shortP_ok (by omega)
  rw [red_of g] at e2
  exact bindS e (bindS e2 (by simp))
theorem walk_right_ok {L : Int} {n : Nat} {E : Dd} (d : Dr L n E) (hn : n ≤ 5) {r : Option (List Int)} {times : Int} {due : Bool} (h : (r = none ∧ due = false) ∨ ∃ (w : List Int) (t : Nat), r = some w ∧ due = true ∧ (t : Int) = times ∧ 1 ≤ t ∧ t ≤ n ∧ Gd w ∧ (∀ x ∈ w, Sok L x) ∧ w.length ≤ 900 ∧ goW E 0 (red (rep w t)) = some 0 ∧ ∀ k : Nat, 1 ≤ k → k < t → goW E 0 (red (rep w k)) ≠ some 0) : m_l_walk_right E L r times due = some true := by
  rcases h with ⟨rfl, rfl⟩ | ⟨w, t, rfl, rfl, rfl, t1, tn, g, hw, hl, home, off⟩
  · rfl
  · have e1 := is_walk_ok hw g hl
    have e2 := round_law d hn hl t1 tn home off
    have dl := d.len
    unfold m_l_walk_right
    refine (if_neg (by decide)).trans (bindS (a := w) rfl (bindS e1 (bindS (a := true) ((if_pos rfl).trans (bindS (a := w) rfl ?_)) rfl)))
    rw [dl]
    exact bindS e2 (by simp)
theorem right_ok {N : Nat} {w : List Int} (h : Pot N w) : ∃ r, m_l_right w = some r ∧ r.1 = true := by
  obtain ⟨v1, w1, e1, a1, b1, k1⟩ := draw_ok h (many := 4) (by decide) (by decide)
  have e1 : m_l_draw w 4 = some (v1, w1) := e1
  obtain ⟨mo, e2, hmo⟩ := idx_mem (xs := [4, 4, 3, (5 : Int)]) a1 (by show v1 < ((4 : Nat) : Int); omega)
  have hmo : 1 ≤ mo ∧ mo ≤ 5 := by
    simp only [List.mem_cons, List.not_mem_nil, or_false] at hmo
    omega
  obtain ⟨⟨⟨L, rows⟩, w3⟩, e3, ⟨D, W⟩, L3, n5, k3⟩ := drawnP_sharp k1 (most := mo) (top := 3) hmo.1 (by omega) (by decide) (by decide)
  have W : Web L rows D := W
  have n5 : (rows.length : Int) ≤ mo := n5
  have hn : rows.length ≤ 5 := by omega
  have e3 : m_l_drawn w1 mo 3 = some ((L, rows), w3) := e3
  have n1 := W.n1
  have h1 := W.reg.l1
  have h4 := W.reg.l4
  obtain ⟨E, e4, rE⟩ := doorsP_ok W.reg (by omega)
  have e4 : m_l_doors (L, rows) = some E := e4
  have dE := rE.1
  have dD := W.rep.1
  have el := dE.len
  have eqE := rep_eq W.rep rE
  obtain ⟨T, e5, Tl, hT, hA⟩ := tables_ok dE h1 h4 hn
  obtain ⟨H, e6, Hl, hH⟩ := rounds_ok dE n1 hn hT hA
  have rdE : ∀ t, Rd D rows.length t ↔ Rd E rows.length t := fun t => rd_eq dD eqE
  have hlH : (range' 0 (H.length : Int)).length = rows.length + 1 := by rw [rng_len, Hl]; omega
  have hget : ∀ x : Int, 0 ≤ x → x < (H.length : Int) → idx H x = some (H.getD x.toNat false) := fun x x0 x1 => idx_of x0 (by rw [List.getD_eq_getElem?_getD, List.getElem?_eq_getElem (by omega)]; rfl)
  have hdue : ∀ t : Nat, t ≤ rows.length → (H.getD t false = true ↔ 1 ≤ t ∧ Rd D rows.length t) := fun t ht => by
    rw [rdE, ← hH t ht, List.getD_eq_getElem?_getD, List.getElem?_eq_getElem (by omega)]
    exact ⟨fun z => congrArg some z, fun z => Option.some.inj z⟩
  have e11 : lcG (β := Int) (fun (times8 : Int) => ((idx H times8).bind fun t10 => if t10 = true then some (some times8) else some none)) (range' 0 (H.length : Int)) = some ((range' 0 (H.length : Int)).filterMap fun t : Int => if H.getD t.toNat false = true then some t else none) := lcG_some (fun t : Int => if H.getD t.toNat false = true then some t else none) (by rw [hlH, sizeL]; omega) fun t ht => by
    obtain ⟨t0, t1⟩ := mem_rng ht
    rw [hget t t0 t1]
    show (if H.getD t.toNat false = true then some (some t) else some none) = some (if H.getD t.toNat false = true then some t else none)
    split <;> rfl
  obtain ⟨m, e12, hm⟩ := gp_max (D := D) n1 (xs := (range' 0 (H.length : Int)).filterMap fun t : Int => if H.getD t.toNat false = true then some t else none) fun x => by
    rw [List.mem_filterMap]
    constructor
    · rintro ⟨t, ht, e⟩
      obtain ⟨t0, t1⟩ := mem_rng ht
      split at e
      · cases e
        rename_i z
        obtain ⟨q1, q2⟩ := (hdue x.toNat (by omega)).mp z
        exact ⟨x.toNat, by omega, q1, by omega, q2⟩
      · cases e
    · rintro ⟨t, rfl, t1, t2, ht⟩
      refine ⟨(t : Int), mem_rng'.mpr ⟨by omega, by omega⟩, ?_⟩
      rw [Int.toNat_natCast, if_pos ((hdue t t2).mpr ⟨t1, ht⟩)]
  obtain ⟨m', e13, hm'⟩ := greatest_ok W hn
  have := hm.one hm'
  subst this
  have e15 := rooted_ok e13
  obtain ⟨v19, w19, e19, a19, b19, k19⟩ := draw_big k3 (many := 999999999999999999999999999999999999999999999999999999999994) (by decide) (Nat.lt_trans (log2_int (k := 300) (by decide) (by decide) (by decide)) (by decide))
  have e19 : m_l_draw w3 999999999999999999999999999999999999999999999999999999999994 = some (v19, w19) := e19
  have hl18 : (range' 1 ((E.length : Int) + 2)).length = rows.length + 1 := by rw [rng_len, el]; omega
  have e18 : rgO 1 ((E.length : Int) + 2) = some (range' 1 ((E.length : Int) + 2)) := if_pos ⟨by omega, by omega, by omega, by omega, by omega⟩
  have e20 : catO (α := Int) (range' 1 ((E.length : Int) + 2)) [6 + v19] = some (range' 1 ((E.length : Int) + 2) ++ [6 + v19]) := Z.cat_ok (by rw [hl18, sizeL]; show _ + 1 ≤ _; omega)
  have hl20 : (range' 1 ((E.length : Int) + 2) ++ [6 + v19]).length = rows.length + 2 := by rw [List.length_append, hl18]; rfl
  have hl21 : (range' 0 ((range' 1 ((E.length : Int) + 2) ++ [6 + v19]).length : Int)).length = rows.length + 2 := by rw [rng_len, hl20]; omega
  unfold m_l_right
  refine bndX e1 (bndX e2 (bndX e3 (bndX e4 (bndX e5 (bndX (a := H) (by rw [el]; exact e6) (bndX (rngO_ok (by omega)) (bndX e11 (bndX e12 (bndX e13 (bndX (a := true) (by unfold m_l_is_integer; simp) (bndX (a := false) ((if_neg (by decide)).trans (bindS e15 (bindS (a := true) (by unfold m_l_truth; simp) rfl))) ?_)))))))))))
  rw [if_neg (by decide)]
  refine bndX e18 (bndX e19 (bndX e20 (bndX (rngO_ok (by omega)) ?_)))
  refine lpRY (fun i (s : List Int × List Int) => s.1.length + i = rows.length + 2 ∧ (∀ x ∈ s.1, 1 ≤ x) ∧ ∃ N, Pot N s.2) ⟨hl20, fun x hx => ?_, _, k19⟩ (fun i x s hx hs => ?_) (fun s hs => ?_)
  · rcases List.mem_append.mp hx with hx | hx
    · exact (mem_rng hx).1
    · rw [List.mem_singleton.mp hx]
      omega
  · obtain ⟨pl, w⟩ := s
    obtain ⟨hpl, hge, N, hk⟩ := hs
    have hpl : pl.length + i = rows.length + 2 := hpl
    have hge : ∀ x ∈ pl, 1 ≤ x := hge
    have hk : Pot N w := hk
    have hi := (List.getElem?_eq_some_iff.mp hx).1
    rw [hl21] at hi
    obtain ⟨v, w', f1, c0, c1, k'⟩ := draw_ok hk (many := (pl.length : Int)) (by omega) (by omega)
    have f1 : m_l_draw w (pl.length : Int) = some (v, w') := f1
    obtain ⟨g, f2, hg⟩ := popI_ok (xs := pl) c0 c1 (by omega)
    have g1 := hge g (List.mem_of_getElem? hg)
    obtain ⟨r, f4, hr⟩ := power_ok W hn g1
    obtain ⟨due, f3, hd⟩ : ∃ due, (if (decide (g < (H.length : Int))) = true then ((idx H g).bind fun t29 => some t29) else some false) = some due ∧ (due = true ↔ g ≤ rows.length ∧ Rd D rows.length g.toNat) := by
      by_cases z : g < (H.length : Int)
      · refine ⟨H.getD g.toNat false, (if_pos (decide_eq_true z)).trans (bindS (hget g (by omega) z) rfl), ?_⟩
        rw [hdue g.toNat (by omega)]
        exact ⟨fun ⟨a, b⟩ => ⟨by omega, b⟩, fun ⟨a, b⟩ => ⟨by omega, b⟩⟩
      · exact ⟨false, if_neg (by simpa using z), ⟨(fun q => by cases q), fun ⟨q, _⟩ => by omega⟩⟩
    have f5 : m_l_walk_right E L r g due = some true := by
      refine walk_right_ok dE hn ?_
      rcases hr with ⟨rfl, hno⟩ | ⟨w, t, rfl, rfl, tn, hrd, hg, hw, hl, home, off⟩
      · refine .inl ⟨rfl, ?_⟩
        cases due with
        | false => rfl
        | true =>
          obtain ⟨_, q⟩ := hd.mp rfl
          exact absurd q (hno g.toNat (by omega))
      · refine .inr ⟨w, t, rfl, ?_, rfl, by omega, tn, hg, hw, hl, by rw [← goW_eq0 dD eqE _ 0 (Int.le_refl _)]; exact home, fun k k1 kt => by rw [← goW_eq0 dD eqE _ 0 (Int.le_refl _)]; exact off k k1 kt⟩
        refine hd.mpr ⟨by omega, ?_⟩
        rw [Int.toNat_natCast]
        exact hrd
    refine ⟨Step.go (pl.eraseIdx v.toNat, w'), bindS f1 (bindS f2 (bindS f3 (bindS f4 (bindS f5 ((if_neg (by decide)).trans (bindS f4 (bindS f5 (if_neg (by decide)))))))))  , _, rfl, ?_, fun x hx => hge x (List.mem_of_mem_eraseIdx hx), _, k'⟩
    show (pl.eraseIdx v.toNat).length + (i + 1) = _
    rw [List.length_eraseIdx, if_pos (by omega)]
    omega
  · exact ⟨(true, s.2), bindS e15 (bindS (a := true) (by unfold m_l_truth; simp) (bindS (a := true) ((if_pos rfl).trans (bindS e13 (bindS (a := true) (by unfold m_l_is_integer; simp) rfl))) rfl)), rfl⟩
theorem law_true : ∀ ns : List Int, ns.length ≤ 63 → m_l_law ns = some true := fun ns hl => by
  have key : ∃ r, m_l_law ns = some r ∧ r = true := by
    unfold m_l_law
    have hb : 1 ≤ maxI 1 (minI 3 (ns.length : Int)) ∧ maxI 1 (minI 3 (ns.length : Int)) ≤ 3 := by
      unfold maxI minI
      constructor <;> (repeat' split) <;> omega
    refine bndX (rngO_ok (by omega)) (lpRY (fun _ _ => True) trivial (fun i k s hk _ => ?_) (fun s _ => ⟨_, rfl, rfl⟩))
    obtain ⟨w0, e0, k0⟩ := pot_ok (ns := ns) (mem_rng (List.mem_of_getElem? hk)).1
    have e0 : m_l_pot ns k = some w0 := e0
    obtain ⟨⟨b, p⟩, e, hb⟩ := right_ok k0
    have hb : b = true := hb
    subst hb
    exact ⟨Step.go (), bindS e0 (bindS e rfl), (), rfl, trivial⟩
  obtain ⟨r, e, rfl⟩ := key
  exact e
end L25
namespace L25
open PySem PySem.Spec PyProof.Rows L2 Z
theorem tops {l : PySem.W.OpenLaw} {w : World} {K : PySem.W.Frag} {h : Heap} {mg : Str → Option Value} {fa f0 f1 f2 f3 f4 f5 f6 f7 f8 f9 f10 f11 f12 f13 f14 f15 f16 f17 f18 f19 f20 f21 f22 f23 f24 f25 f26 f27 f28 f29 f30 f31 f32 f33 f34 f35 f36 f37 : Addr} (IK : K.In h) (IG : h.Ns mainGlobals mg) (hfa : mg "law" = some (.ref fa))
    {od0 od1 od2 od3 od4 od5 od6 od7 od8 od9 od10 od11 od12 od13 od14 od15 od16 od17 od18 od19 od20 od21 od22 od23 od24 od25 od26 od27 od28 od29 od30 od31 od32 od33 od34 od35 od36 od37 an0 an1 an2 an3 an4 an5 an6 an7 an8 an9 an10 an11 an12 an13 an14 an15 an16 an17 an18 an19 an20 an21 an22 an23 an24 an25 an26 an27 an28 an29 an30 an31 an32 an33 an34 an35 an36 an37 : Option Addr} {sl0 sl1 sl2 sl3 sl4 sl5 sl6 sl7 sl8 sl9 sl10 sl11 sl12 sl13 sl14 sl15 sl16 sl17 sl18 sl19 sl20 sl21 sl22 sl23 sl24 sl25 sl26 sl27 sl28 sl29 sl30 sl31 sl32 sl33 sl34 sl35 sl36 sl37 : Array (Option Value)} {oc0 oc1 oc2 oc3 oc4 oc5 oc6 oc7 oc8 oc9 oc10 oc11 oc12 oc13 oc14 oc15 oc16 oc17 oc18 oc19 oc20 oc21 oc22 oc23 oc24 oc25 oc26 oc27 oc28 oc29 oc30 oc31 oc32 oc33 oc34 oc35 oc36 oc37 kV0 kV1 kV2 kV3 kV4 kV5 kV6 kV7 kV8 kV9 kV10 kV11 kV12 kV13 kV14 kV15 kV16 kV17 kV18 kV19 kV20 kV21 kV22 kV23 kV24 kV25 kV26 kV27 kV28 kV29 kV30 kV31 kV32 kV33 kV34 kV35 kV36 kV37 dc0 dc1 dc2 dc3 dc4 dc5 dc6 dc7 dc8 dc9 dc10 dc11 dc12 dc13 dc14 dc15 dc16 dc17 dc18 dc19 dc20 dc21 dc22 dc23 dc24 dc25 dc26 dc27 dc28 dc29 dc30 dc31 dc32 dc33 dc34 dc35 dc36 dc37 pm0 pm1 pm2 pm3 pm4 pm5 pm6 pm7 pm8 pm9 pm10 pm11 pm12 pm13 pm14 pm15 pm16 pm17 pm18 pm19 pm20 pm21 pm22 pm23 pm24 pm25 pm26 pm27 pm28 pm29 pm30 pm31 pm32 pm33 pm34 pm35 pm36 pm37 cd0 cd1 cd2 cd3 cd4 cd5 cd6 cd7 cd8 cd9 cd10 cd11 cd12 cd13 cd14 cd15 cd16 cd17 cd18 cd19 cd20 cd21 cd22 cd23 cd24 cd25 cd26 cd27 cd28 cd29 cd30 cd31 cd32 cd33 cd34 cd35 cd36 cd37 ct0 ct1 ct2 ct3 ct4 ct5 ct6 ct7 ct8 ct9 ct10 ct11 ct12 ct13 ct14 ct15 ct16 ct17 ct18 ct19 ct20 ct21 ct22 ct23 ct24 ct25 ct26 ct27 ct28 ct29 ct30 ct31 ct32 ct33 ct34 ct35 ct36 ct37 : Value}
    (a0 : PySem.W.nsIn K mainGlobals "steps_of" = some (some (.ref f0)))
    (b0 : K.lookup f0 = some ⟨oc0, od0, .func (PySem.W.fnOf "steps_of" "steps_of" (defArgs s_p_steps_of) (defBody s_p_steps_of) (defScope s_p_steps_of) .none kV0 dc0 pm0 an0 cd0 ct0), sl0⟩)
    (c0 : PySem.W.codeIn K cd0 "steps_of" = true) (d0 : PySem.W.keepIn K (.ref f0) = true)
    (a1 : PySem.W.nsIn K mainGlobals "straightened" = some (some (.ref f1)))
    (b1 : K.lookup f1 = some ⟨oc1, od1, .func (PySem.W.fnOf "straightened" "straightened" (defArgs s_p_straightened) (defBody s_p_straightened) (defScope s_p_straightened) .none kV1 dc1 pm1 an1 cd1 ct1), sl1⟩)
    (c1 : PySem.W.codeIn K cd1 "straightened" = true) (d1 : PySem.W.keepIn K (.ref f1) = true)
    (a2 : PySem.W.nsIn K mainGlobals "turned_back" = some (some (.ref f2)))
    (b2 : K.lookup f2 = some ⟨oc2, od2, .func (PySem.W.fnOf "turned_back" "turned_back" (defArgs s_p_turned_back) (defBody s_p_turned_back) (defScope s_p_turned_back) .none kV2 dc2 pm2 an2 cd2 ct2), sl2⟩)
    (c2 : PySem.W.codeIn K cd2 "turned_back" = true) (d2 : PySem.W.keepIn K (.ref f2) = true)
    (a3 : PySem.W.nsIn K mainGlobals "is_integer" = some (some (.ref f3)))
    (b3 : K.lookup f3 = some ⟨oc3, od3, .func (PySem.W.fnOf "is_integer" "is_integer" (defArgs s_p_is_integer) (defBody s_p_is_integer) (defScope s_p_is_integer) .none kV3 dc3 pm3 an3 cd3 ct3), sl3⟩)
    (c3 : PySem.W.codeIn K cd3 "is_integer" = true) (d3 : PySem.W.keepIn K (.ref f3) = true)
    (a4 : PySem.W.nsIn K mainGlobals "is_letters" = some (some (.ref f4)))
    (b4 : K.lookup f4 = some ⟨oc4, od4, .func (PySem.W.fnOf "is_letters" "is_letters" (defArgs s_p_is_letters) (defBody s_p_is_letters) (defScope s_p_is_letters) .none kV4 dc4 pm4 an4 cd4 ct4), sl4⟩)
    (c4 : PySem.W.codeIn K cd4 "is_letters" = true) (d4 : PySem.W.keepIn K (.ref f4) = true)
    (a5 : PySem.W.nsIn K mainGlobals "is_a_row" = some (some (.ref f5)))
    (b5 : K.lookup f5 = some ⟨oc5, od5, .func (PySem.W.fnOf "is_a_row" "is_a_row" (defArgs s_p_is_a_row) (defBody s_p_is_a_row) (defScope s_p_is_a_row) .none kV5 dc5 pm5 an5 cd5 ct5), sl5⟩)
    (c5 : PySem.W.codeIn K cd5 "is_a_row" = true) (d5 : PySem.W.keepIn K (.ref f5) = true)
    (a6 : PySem.W.nsIn K mainGlobals "doors_of" = some (some (.ref f6)))
    (b6 : K.lookup f6 = some ⟨oc6, od6, .func (PySem.W.fnOf "doors_of" "doors_of" (defArgs s_p_doors_of) (defBody s_p_doors_of) (defScope s_p_doors_of) .none kV6 dc6 pm6 an6 cd6 ct6), sl6⟩)
    (c6 : PySem.W.codeIn K cd6 "doors_of" = true) (d6 : PySem.W.keepIn K (.ref f6) = true)
    (a7 : PySem.W.nsIn K mainGlobals "is_one_way" = some (some (.ref f7)))
    (b7 : K.lookup f7 = some ⟨oc7, od7, .func (PySem.W.fnOf "is_one_way" "is_one_way" (defArgs s_p_is_one_way) (defBody s_p_is_one_way) (defScope s_p_is_one_way) .none kV7 dc7 pm7 an7 cd7 ct7), sl7⟩)
    (c7 : PySem.W.codeIn K cd7 "is_one_way" = true) (d7 : PySem.W.keepIn K (.ref f7) = true)
    (a8 : PySem.W.nsIn K mainGlobals "first_order" = some (some (.ref f8)))
    (b8 : K.lookup f8 = some ⟨oc8, od8, .func (PySem.W.fnOf "first_order" "first_order" (defArgs s_p_first_order) (defBody s_p_first_order) (defScope s_p_first_order) .none kV8 dc8 pm8 an8 cd8 ct8), sl8⟩)
    (c8 : PySem.W.codeIn K cd8 "first_order" = true) (d8 : PySem.W.keepIn K (.ref f8) = true)
    (a9 : PySem.W.nsIn K mainGlobals "is_a_web" = some (some (.ref f9)))
    (b9 : K.lookup f9 = some ⟨oc9, od9, .func (PySem.W.fnOf "is_a_web" "is_a_web" (defArgs s_p_is_a_web) (defBody s_p_is_a_web) (defScope s_p_is_a_web) .none kV9 dc9 pm9 an9 cd9 ct9), sl9⟩)
    (c9 : PySem.W.codeIn K cd9 "is_a_web" = true) (d9 : PySem.W.keepIn K (.ref f9) = true)
    (a10 : PySem.W.nsIn K mainGlobals "need_web" = some (some (.ref f10)))
    (b10 : K.lookup f10 = some ⟨oc10, od10, .func (PySem.W.fnOf "need_web" "need_web" (defArgs s_p_need_web) (defBody s_p_need_web) (defScope s_p_need_web) .none kV10 dc10 pm10 an10 cd10 ct10), sl10⟩)
    (c10 : PySem.W.codeIn K cd10 "need_web" = true) (d10 : PySem.W.keepIn K (.ref f10) = true)
    (a11 : PySem.W.nsIn K mainGlobals "need_number" = some (some (.ref f11)))
    (b11 : K.lookup f11 = some ⟨oc11, od11, .func (PySem.W.fnOf "need_number" "need_number" (defArgs s_p_need_number) (defBody s_p_need_number) (defScope s_p_need_number) .none kV11 dc11 pm11 an11 cd11 ct11), sl11⟩)
    (c11 : PySem.W.codeIn K cd11 "need_number" = true) (d11 : PySem.W.keepIn K (.ref f11) = true)
    (a12 : PySem.W.nsIn K mainGlobals "rows_of_rooms" = some (some (.ref f12)))
    (b12 : K.lookup f12 = some ⟨oc12, od12, .func (PySem.W.fnOf "rows_of_rooms" "rows_of_rooms" (defArgs s_p_rows_of_rooms) (defBody s_p_rows_of_rooms) (defScope s_p_rows_of_rooms) .none kV12 dc12 pm12 an12 cd12 ct12), sl12⟩)
    (c12 : PySem.W.codeIn K cd12 "rows_of_rooms" = true) (d12 : PySem.W.keepIn K (.ref f12) = true)
    (a13 : PySem.W.nsIn K mainGlobals "rows_led" = some (some (.ref f13)))
    (b13 : K.lookup f13 = some ⟨oc13, od13, .func (PySem.W.fnOf "rows_led" "rows_led" (defArgs s_p_rows_led) (defBody s_p_rows_led) (defScope s_p_rows_led) .none kV13 dc13 pm13 an13 cd13 ct13), sl13⟩)
    (c13 : PySem.W.codeIn K cd13 "rows_led" = true) (d13 : PySem.W.keepIn K (.ref f13) = true)
    (a14 : PySem.W.nsIn K mainGlobals "round_walk" = some (some (.ref f14)))
    (b14 : K.lookup f14 = some ⟨oc14, od14, .func (PySem.W.fnOf "round_walk" "round_walk" (defArgs s_p_round_walk) (defBody s_p_round_walk) (defScope s_p_round_walk) .none kV14 dc14 pm14 an14 cd14 ct14), sl14⟩)
    (c14 : PySem.W.codeIn K cd14 "round_walk" = true) (d14 : PySem.W.keepIn K (.ref f14) = true)
    (a15 : PySem.W.nsIn K mainGlobals "first_ways" = some (some (.ref f15)))
    (b15 : K.lookup f15 = some ⟨oc15, od15, .func (PySem.W.fnOf "first_ways" "first_ways" (defArgs s_p_first_ways) (defBody s_p_first_ways) (defScope s_p_first_ways) .none kV15 dc15 pm15 an15 cd15 ct15), sl15⟩)
    (c15 : PySem.W.codeIn K cd15 "first_ways" = true) (d15 : PySem.W.keepIn K (.ref f15) = true)
    (a16 : PySem.W.nsIn K mainGlobals "power_walk" = some (some (.ref f16)))
    (b16 : K.lookup f16 = some ⟨oc16, od16, .func (PySem.W.fnOf "power_walk" "power_walk" (defArgs s_p_power_walk) (defBody s_p_power_walk) (defScope s_p_power_walk) .none kV16 dc16 pm16 an16 cd16 ct16), sl16⟩)
    (c16 : PySem.W.codeIn K cd16 "power_walk" = true) (d16 : PySem.W.keepIn K (.ref f16) = true)
    (a17 : PySem.W.nsIn K mainGlobals "greatest_power" = some (some (.ref f17)))
    (b17 : K.lookup f17 = some ⟨oc17, od17, .func (PySem.W.fnOf "greatest_power" "greatest_power" (defArgs s_p_greatest_power) (defBody s_p_greatest_power) (defScope s_p_greatest_power) .none kV17 dc17 pm17 an17 cd17 ct17), sl17⟩)
    (c17 : PySem.W.codeIn K cd17 "greatest_power" = true) (d17 : PySem.W.keepIn K (.ref f17) = true)
    (a18 : PySem.W.nsIn K mainGlobals "is_rooted" = some (some (.ref f18)))
    (b18 : K.lookup f18 = some ⟨oc18, od18, .func (PySem.W.fnOf "is_rooted" "is_rooted" (defArgs s_p_is_rooted) (defBody s_p_is_rooted) (defScope s_p_is_rooted) .none kV18 dc18 pm18 an18 cd18 ct18), sl18⟩)
    (c18 : PySem.W.codeIn K cd18 "is_rooted" = true) (d18 : PySem.W.keepIn K (.ref f18) = true)
    (a19 : PySem.W.nsIn K mainGlobals "_law_pot" = some (some (.ref f19)))
    (b19 : K.lookup f19 = some ⟨oc19, od19, .func (PySem.W.fnOf "_law_pot" "_law_pot" (defArgs s_l_pot) (defBody s_l_pot) (defScope s_l_pot) .none kV19 dc19 pm19 an19 cd19 ct19), sl19⟩)
    (c19 : PySem.W.codeIn K cd19 "_law_pot" = true) (d19 : PySem.W.keepIn K (.ref f19) = true)
    (a20 : PySem.W.nsIn K mainGlobals "_law_draw" = some (some (.ref f20)))
    (b20 : K.lookup f20 = some ⟨oc20, od20, .func (PySem.W.fnOf "_law_draw" "_law_draw" (defArgs s_l_draw) (defBody s_l_draw) (defScope s_l_draw) .none kV20 dc20 pm20 an20 cd20 ct20), sl20⟩)
    (c20 : PySem.W.codeIn K cd20 "_law_draw" = true) (d20 : PySem.W.keepIn K (.ref f20) = true)
    (a21 : PySem.W.nsIn K mainGlobals "_law_steps" = some (some (.ref f21)))
    (b21 : K.lookup f21 = some ⟨oc21, od21, .func (PySem.W.fnOf "_law_steps" "_law_steps" (defArgs s_l_steps) (defBody s_l_steps) (defScope s_l_steps) .none kV21 dc21 pm21 an21 cd21 ct21), sl21⟩)
    (c21 : PySem.W.codeIn K cd21 "_law_steps" = true) (d21 : PySem.W.keepIn K (.ref f21) = true)
    (a22 : PySem.W.nsIn K mainGlobals "_law_web" = some (some (.ref f22)))
    (b22 : K.lookup f22 = some ⟨oc22, od22, .func (PySem.W.fnOf "_law_web" "_law_web" (defArgs s_l_web) (defBody s_l_web) (defScope s_l_web) .none kV22 dc22 pm22 an22 cd22 ct22), sl22⟩)
    (c22 : PySem.W.codeIn K cd22 "_law_web" = true) (d22 : PySem.W.keepIn K (.ref f22) = true)
    (a23 : PySem.W.nsIn K mainGlobals "_law_doors" = some (some (.ref f23)))
    (b23 : K.lookup f23 = some ⟨oc23, od23, .func (PySem.W.fnOf "_law_doors" "_law_doors" (defArgs s_l_doors) (defBody s_l_doors) (defScope s_l_doors) .none kV23 dc23 pm23 an23 cd23 ct23), sl23⟩)
    (c23 : PySem.W.codeIn K cd23 "_law_doors" = true) (d23 : PySem.W.keepIn K (.ref f23) = true)
    (a24 : PySem.W.nsIn K mainGlobals "_law_straight" = some (some (.ref f24)))
    (b24 : K.lookup f24 = some ⟨oc24, od24, .func (PySem.W.fnOf "_law_straight" "_law_straight" (defArgs s_l_straight) (defBody s_l_straight) (defScope s_l_straight) .none kV24 dc24 pm24 an24 cd24 ct24), sl24⟩)
    (c24 : PySem.W.codeIn K cd24 "_law_straight" = true) (d24 : PySem.W.keepIn K (.ref f24) = true)
    (a25 : PySem.W.nsIn K mainGlobals "_law_tables" = some (some (.ref f25)))
    (b25 : K.lookup f25 = some ⟨oc25, od25, .func (PySem.W.fnOf "_law_tables" "_law_tables" (defArgs s_l_tables) (defBody s_l_tables) (defScope s_l_tables) .none kV25 dc25 pm25 an25 cd25 ct25), sl25⟩)
    (c25 : PySem.W.codeIn K cd25 "_law_tables" = true) (d25 : PySem.W.keepIn K (.ref f25) = true)
    (a26 : PySem.W.nsIn K mainGlobals "_law_rings" = some (some (.ref f26)))
    (b26 : K.lookup f26 = some ⟨oc26, od26, .func (PySem.W.fnOf "_law_rings" "_law_rings" (defArgs s_l_rings) (defBody s_l_rings) (defScope s_l_rings) .none kV26 dc26 pm26 an26 cd26 ct26), sl26⟩)
    (c26 : PySem.W.codeIn K cd26 "_law_rings" = true) (d26 : PySem.W.keepIn K (.ref f26) = true)
    (a27 : PySem.W.nsIn K mainGlobals "_law_drawn" = some (some (.ref f27)))
    (b27 : K.lookup f27 = some ⟨oc27, od27, .func (PySem.W.fnOf "_law_drawn" "_law_drawn" (defArgs s_l_drawn) (defBody s_l_drawn) (defScope s_l_drawn) .none kV27 dc27 pm27 an27 cd27 ct27), sl27⟩)
    (c27 : PySem.W.codeIn K cd27 "_law_drawn" = true) (d27 : PySem.W.keepIn K (.ref f27) = true)
    (a28 : PySem.W.nsIn K mainGlobals "_law_short" = some (some (.ref f28)))
    (b28 : K.lookup f28 = some ⟨oc28, od28, .func (PySem.W.fnOf "_law_short" "_law_short" (defArgs s_l_short) (defBody s_l_short) (defScope s_l_short) .none kV28 dc28 pm28 an28 cd28 ct28), sl28⟩)
    (c28 : PySem.W.codeIn K cd28 "_law_short" = true) (d28 : PySem.W.keepIn K (.ref f28) = true)
    (a29 : PySem.W.nsIn K mainGlobals "_law_is_integer" = some (some (.ref f29)))
    (b29 : K.lookup f29 = some ⟨oc29, od29, .func (PySem.W.fnOf "_law_is_integer" "_law_is_integer" (defArgs s_l_is_integer) (defBody s_l_is_integer) (defScope s_l_is_integer) .none kV29 dc29 pm29 an29 cd29 ct29), sl29⟩)
    (c29 : PySem.W.codeIn K cd29 "_law_is_integer" = true) (d29 : PySem.W.keepIn K (.ref f29) = true)
    (a30 : PySem.W.nsIn K mainGlobals "_law_all_tables" = some (some (.ref f30)))
    (b30 : K.lookup f30 = some ⟨oc30, od30, .func (PySem.W.fnOf "_law_all_tables" "_law_all_tables" (defArgs s_l_all_tables) (defBody s_l_all_tables) (defScope s_l_all_tables) .none kV30 dc30 pm30 an30 cd30 ct30), sl30⟩)
    (c30 : PySem.W.codeIn K cd30 "_law_all_tables" = true) (d30 : PySem.W.keepIn K (.ref f30) = true)
    (a31 : PySem.W.nsIn K mainGlobals "_law_rounds" = some (some (.ref f31)))
    (b31 : K.lookup f31 = some ⟨oc31, od31, .func (PySem.W.fnOf "_law_rounds" "_law_rounds" (defArgs s_l_rounds) (defBody s_l_rounds) (defScope s_l_rounds) .none kV31 dc31 pm31 an31 cd31 ct31), sl31⟩)
    (c31 : PySem.W.codeIn K cd31 "_law_rounds" = true) (d31 : PySem.W.keepIn K (.ref f31) = true)
    (a32 : PySem.W.nsIn K mainGlobals "_law_round" = some (some (.ref f32)))
    (b32 : K.lookup f32 = some ⟨oc32, od32, .func (PySem.W.fnOf "_law_round" "_law_round" (defArgs s_l_round) (defBody s_l_round) (defScope s_l_round) .none kV32 dc32 pm32 an32 cd32 ct32), sl32⟩)
    (c32 : PySem.W.codeIn K cd32 "_law_round" = true) (d32 : PySem.W.keepIn K (.ref f32) = true)
    (a33 : PySem.W.nsIn K mainGlobals "_law_is_walk" = some (some (.ref f33)))
    (b33 : K.lookup f33 = some ⟨oc33, od33, .func (PySem.W.fnOf "_law_is_walk" "_law_is_walk" (defArgs s_l_is_walk) (defBody s_l_is_walk) (defScope s_l_is_walk) .none kV33 dc33 pm33 an33 cd33 ct33), sl33⟩)
    (c33 : PySem.W.codeIn K cd33 "_law_is_walk" = true) (d33 : PySem.W.keepIn K (.ref f33) = true)
    (a34 : PySem.W.nsIn K mainGlobals "_law_walk_right" = some (some (.ref f34)))
    (b34 : K.lookup f34 = some ⟨oc34, od34, .func (PySem.W.fnOf "_law_walk_right" "_law_walk_right" (defArgs s_l_walk_right) (defBody s_l_walk_right) (defScope s_l_walk_right) .none kV34 dc34 pm34 an34 cd34 ct34), sl34⟩)
    (c34 : PySem.W.codeIn K cd34 "_law_walk_right" = true) (d34 : PySem.W.keepIn K (.ref f34) = true)
    (a35 : PySem.W.nsIn K mainGlobals "_law_truth" = some (some (.ref f35)))
    (b35 : K.lookup f35 = some ⟨oc35, od35, .func (PySem.W.fnOf "_law_truth" "_law_truth" (defArgs s_l_truth) (defBody s_l_truth) (defScope s_l_truth) .none kV35 dc35 pm35 an35 cd35 ct35), sl35⟩)
    (c35 : PySem.W.codeIn K cd35 "_law_truth" = true) (d35 : PySem.W.keepIn K (.ref f35) = true)
    (a36 : PySem.W.nsIn K mainGlobals "_law_right" = some (some (.ref f36)))
    (b36 : K.lookup f36 = some ⟨oc36, od36, .func (PySem.W.fnOf "_law_right" "_law_right" (defArgs s_l_right) (defBody s_l_right) (defScope s_l_right) .none kV36 dc36 pm36 an36 cd36 ct36), sl36⟩)
    (c36 : PySem.W.codeIn K cd36 "_law_right" = true) (d36 : PySem.W.keepIn K (.ref f36) = true)
    (a37 : PySem.W.nsIn K mainGlobals "law" = some (some (.ref f37)))
    (b37 : K.lookup f37 = some ⟨oc37, od37, .func (PySem.W.fnOf "law" "law" (defArgs s_l_law) (defBody s_l_law) (defScope s_l_law) .none kV37 dc37 pm37 an37 cd37 ct37), sl37⟩)
    (c37 : PySem.W.codeIn K cd37 "law" = true) (d37 : PySem.W.keepIn K (.ref f37) = true)
    (g_range : PySem.W.nsIn K mainGlobals "range" = some none)
    (g_len : PySem.W.nsIn K mainGlobals "len" = some none)
    (g_tuple : PySem.W.nsIn K mainGlobals "tuple" = some none)
    (g_isinstance : PySem.W.nsIn K mainGlobals "isinstance" = some none)
    (g_int : PySem.W.nsIn K mainGlobals "int" = some none)
    (g_bool : PySem.W.nsIn K mainGlobals "bool" = some none)
    {tk_MOST_LETTERS : Tok}
    (g_MOST_LETTERS : PySem.W.nsIn K mainGlobals "MOST_LETTERS" = some (some (.int 4 tk_MOST_LETTERS)))
    (g_all : PySem.W.nsIn K mainGlobals "all" = some none)
    (g_enumerate : PySem.W.nsIn K mainGlobals "enumerate" = some none)
    (g_set : PySem.W.nsIn K mainGlobals "set" = some none)
    (g_any : PySem.W.nsIn K mainGlobals "any" = some none)
    (g_list : PySem.W.nsIn K mainGlobals "list" = some none)
    (g_max : PySem.W.nsIn K mainGlobals "max" = some none)
    (g_abs : PySem.W.nsIn K mainGlobals "abs" = some none)
    (g_dict : PySem.W.nsIn K mainGlobals "dict" = some none)
    (g_min : PySem.W.nsIn K mainGlobals "min" = some none)
    : ∃ fd : FuncData, (∀ (s : Shared) (v : Value), BindsTo s fd ⟨[v], []⟩ [("_law_script", v)]) ∧ ∀ base : Heap, K.In base → base.Ns mainGlobals mg → FnG l.prog w K mg base CX0 8 fa fd ["_law_script"] (LawSp K m_l_law) := by
  have e := hfa.symm.trans (PySem.W.mg_of IK IG a37)
  cases e
  have h_g_range := PySem.W.mg_none_of IK IG g_range
  have h_g_len := PySem.W.mg_none_of IK IG g_len
  have h_g_tuple := PySem.W.mg_none_of IK IG g_tuple
  have h_g_isinstance := PySem.W.mg_none_of IK IG g_isinstance
  have h_g_int := PySem.W.mg_none_of IK IG g_int
  have h_g_bool := PySem.W.mg_none_of IK IG g_bool
  have h_g_MOST_LETTERS := PySem.W.mg_of IK IG g_MOST_LETTERS
  have h_g_all := PySem.W.mg_none_of IK IG g_all
  have h_g_enumerate := PySem.W.mg_none_of IK IG g_enumerate
  have h_g_set := PySem.W.mg_none_of IK IG g_set
  have h_g_any := PySem.W.mg_none_of IK IG g_any
  have h_g_list := PySem.W.mg_none_of IK IG g_list
  have h_g_max := PySem.W.mg_none_of IK IG g_max
  have h_g_abs := PySem.W.mg_none_of IK IG g_abs
  have h_g_dict := PySem.W.mg_none_of IK IG g_dict
  have h_g_min := PySem.W.mg_none_of IK IG g_min
  have F0 := fun_mk (st := s_p_steps_of) b0 c0 d0
  have B0 := F0.binds (ps := ["letters"]) fun _ _ _ _ _ _ us hl => match us, hl with | [_], _ => rfl
  have F1 := fun_mk (st := s_p_straightened) b1 c1 d1
  have B1 := F1.binds (ps := ["walk"]) fun _ _ _ _ _ _ us hl => match us, hl with | [_], _ => rfl
  have F2 := fun_mk (st := s_p_turned_back) b2 c2 d2
  have B2 := F2.binds (ps := ["walk"]) fun _ _ _ _ _ _ us hl => match us, hl with | [_], _ => rfl
  have F3 := fun_mk (st := s_p_is_integer) b3 c3 d3
  have B3 := F3.binds (ps := ["value"]) fun _ _ _ _ _ _ us hl => match us, hl with | [_], _ => rfl
  have F4 := fun_mk (st := s_p_is_letters) b4 c4 d4
  have B4 := F4.binds (ps := ["value"]) fun _ _ _ _ _ _ us hl => match us, hl with | [_], _ => rfl
  have F5 := fun_mk (st := s_p_is_a_row) b5 c5 d5
  have B5 := F5.binds (ps := ["value", "letters", "rooms"]) fun _ _ _ _ _ _ us hl => match us, hl with | [_, _, _], _ => rfl
  have F6 := fun_mk (st := s_p_doors_of) b6 c6 d6
  have B6 := F6.binds (ps := ["rows"]) fun _ _ _ _ _ _ us hl => match us, hl with | [_], _ => rfl
  have F7 := fun_mk (st := s_p_is_one_way) b7 c7 d7
  have B7 := F7.binds (ps := ["rows", "letters"]) fun _ _ _ _ _ _ us hl => match us, hl with | [_, _], _ => rfl
  have F8 := fun_mk (st := s_p_first_order) b8 c8 d8
  have B8 := F8.binds (ps := ["letters", "doors", "home"]) fun _ _ _ _ _ _ us hl => match us, hl with | [_, _, _], _ => rfl
  have F9 := fun_mk (st := s_p_is_a_web) b9 c9 d9
  have B9 := F9.binds (ps := ["value"]) fun _ _ _ _ _ _ us hl => match us, hl with | [_], _ => rfl
  have F10 := fun_mk (st := s_p_need_web) b10 c10 d10
  have B10 := F10.binds (ps := ["web"]) fun _ _ _ _ _ _ us hl => match us, hl with | [_], _ => rfl
  have F11 := fun_mk (st := s_p_need_number) b11 c11 d11
  have B11 := F11.binds (ps := ["number", "low", "high"]) fun _ _ _ _ _ _ us hl => match us, hl with | [_, _, _], _ => rfl
  have F12 := fun_mk (st := s_p_rows_of_rooms) b12 c12 d12
  have B12 := F12.binds (ps := ["count", "size"]) fun _ _ _ _ _ _ us hl => match us, hl with | [_, _], _ => rfl
  have F13 := fun_mk (st := s_p_rows_led) b13 c13 d13
  have B13 := F13.binds (ps := ["letters", "doors", "row"]) fun _ _ _ _ _ _ us hl => match us, hl with | [_, _, _], _ => rfl
  have F14 := fun_mk (st := s_p_round_walk) b14 c14 d14
  have B14 := F14.binds (ps := ["letters", "doors", "times"]) fun _ _ _ _ _ _ us hl => match us, hl with | [_, _, _], _ => rfl
  have F15 := fun_mk (st := s_p_first_ways) b15 c15 d15
  have B15 := F15.binds (ps := ["letters", "doors", "home"]) fun _ _ _ _ _ _ us hl => match us, hl with | [_, _, _], _ => rfl
  have F16 := fun_mk (st := s_p_power_walk) b16 c16 d16
  have B16 := F16.binds (ps := ["web", "times"]) fun _ _ _ _ _ _ us hl => match us, hl with | [_, _], _ => rfl
  have F17 := fun_mk (st := s_p_greatest_power) b17 c17 d17
  have B17 := F17.binds (ps := ["web"]) fun _ _ _ _ _ _ us hl => match us, hl with | [_], _ => rfl
  have F18 := fun_mk (st := s_p_is_rooted) b18 c18 d18
  have B18 := F18.binds (ps := ["web"]) fun _ _ _ _ _ _ us hl => match us, hl with | [_], _ => rfl
  have F19 := fun_mk (st := s_l_pot) b19 c19 d19
  have B19 := F19.binds (ps := ["_law_script", "_law_k"]) fun _ _ _ _ _ _ us hl => match us, hl with | [_, _], _ => rfl
  have F20 := fun_mk (st := s_l_draw) b20 c20 d20
  have B20 := F20.binds (ps := ["_law_pot_here", "_law_many"]) fun _ _ _ _ _ _ us hl => match us, hl with | [_, _], _ => rfl
  have F21 := fun_mk (st := s_l_steps) b21 c21 d21
  have B21 := F21.binds (ps := ["_law_letters"]) fun _ _ _ _ _ _ us hl => match us, hl with | [_], _ => rfl
  have F22 := fun_mk (st := s_l_web) b22 c22 d22
  have B22 := F22.binds (ps := ["_law_letters", "_law_doors_here"]) fun _ _ _ _ _ _ us hl => match us, hl with | [_, _], _ => rfl
  have F23 := fun_mk (st := s_l_doors) b23 c23 d23
  have B23 := F23.binds (ps := ["_law_web_here"]) fun _ _ _ _ _ _ us hl => match us, hl with | [_], _ => rfl
  have F24 := fun_mk (st := s_l_straight) b24 c24 d24
  have B24 := F24.binds (ps := ["_law_pot_here", "_law_letters", "_law_size"]) fun _ _ _ _ _ _ us hl => match us, hl with | [_, _, _], _ => rfl
  have F25 := fun_mk (st := s_l_tables) b25 c25 d25
  have B25 := F25.binds (ps := ["_law_pot_here", "_law_letters", "_law_count", "_law_gaps"]) fun _ _ _ _ _ _ us hl => match us, hl with | [_, _, _, _], _ => rfl
  have F26 := fun_mk (st := s_l_rings) b26 c26 d26
  have B26 := F26.binds (ps := ["_law_walks"]) fun _ _ _ _ _ _ us hl => match us, hl with | [_], _ => rfl
  have F27 := fun_mk (st := s_l_drawn) b27 c27 d27
  have B27 := F27.binds (ps := ["_law_pot_here", "_law_most", "_law_top"]) fun _ _ _ _ _ _ us hl => match us, hl with | [_, _, _], _ => rfl
  have F28 := fun_mk (st := s_l_short) b28 c28 d28
  have B28 := F28.binds (ps := ["_law_walk"]) fun _ _ _ _ _ _ us hl => match us, hl with | [_], _ => rfl
  have F29 := fun_mk (st := s_l_is_integer) b29 c29 d29
  have B29 := F29.binds (ps := ["_law_found", "_law_due"]) fun _ _ _ _ _ _ us hl => match us, hl with | [_, _], _ => rfl
  have F30 := fun_mk (st := s_l_all_tables) b30 c30 d30
  have B30 := F30.binds (ps := ["_law_doors_here", "_law_letters"]) fun _ _ _ _ _ _ us hl => match us, hl with | [_, _], _ => rfl
  have F31 := fun_mk (st := s_l_rounds) b31 c31 d31
  have B31 := F31.binds (ps := ["_law_tables_here", "_law_count"]) fun _ _ _ _ _ _ us hl => match us, hl with | [_, _], _ => rfl
  have F32 := fun_mk (st := s_l_round) b32 c32 d32
  have B32 := F32.binds (ps := ["_law_doors_here", "_law_walk", "_law_most"]) fun _ _ _ _ _ _ us hl => match us, hl with | [_, _, _], _ => rfl
  have F33 := fun_mk (st := s_l_is_walk) b33 c33 d33
  have B33 := F33.binds (ps := ["_law_found", "_law_letters"]) fun _ _ _ _ _ _ us hl => match us, hl with | [_, _], _ => rfl
  have F34 := fun_mk (st := s_l_walk_right) b34 c34 d34
  have B34 := F34.binds (ps := ["_law_doors_here", "_law_letters", "_law_found", "_law_times", "_law_due"]) fun _ _ _ _ _ _ us hl => match us, hl with | [_, _, _, _, _], _ => rfl
  have F35 := fun_mk (st := s_l_truth) b35 c35 d35
  have B35 := F35.binds (ps := ["_law_found", "_law_due"]) fun _ _ _ _ _ _ us hl => match us, hl with | [_, _], _ => rfl
  have F36 := fun_mk (st := s_l_right) b36 c36 d36
  have B36 := F36.binds (ps := ["_law_pot_here"]) fun _ _ _ _ _ _ us hl => match us, hl with | [_], _ => rfl
  have F37 := fun_mk (st := s_l_law) b37 c37 d37
  have B37 := F37.binds (ps := ["_law_script"]) fun _ _ _ _ _ _ us hl => match us, hl with | [_], _ => rfl
  refine ⟨PySem.W.fnOf "law" "law" (defArgs s_l_law) (defBody s_l_law) (defScope s_l_law) .none kV37 dc37 pm37 an37 cd37 ct37, fun s v => .of_eq rfl, fun base _ _ => ?_⟩
  have C_p_steps_of := cal_p_steps_of (P := l.prog) (w := w) (base := base) F0 (PySem.W.mg_of IK IG a0) B0 h_g_range
  have C_p_straightened := cal_p_straightened (P := l.prog) (w := w) (base := base) F1 (PySem.W.mg_of IK IG a1) B1 h_g_len h_g_tuple
  have C_p_turned_back := cal_p_turned_back (P := l.prog) (w := w) (base := base) F2 (PySem.W.mg_of IK IG a2) B2 h_g_tuple
  have C_p_is_integer := cal_p_is_integer (P := l.prog) (w := w) (base := base) F3 (PySem.W.mg_of IK IG a3) B3 h_g_isinstance h_g_int h_g_bool
  have C_p_is_letters := cal_p_is_letters (P := l.prog) (w := w) (base := base) F4 (PySem.W.mg_of IK IG a4) B4 C_p_is_integer h_g_MOST_LETTERS
  have C_p_is_a_row := cal_p_is_a_row (P := l.prog) (w := w) (base := base) F5 (PySem.W.mg_of IK IG a5) B5 h_g_isinstance h_g_tuple h_g_len h_g_all C_p_is_integer
  have C_p_doors_of := cal_p_doors_of (P := l.prog) (w := w) (base := base) F6 (PySem.W.mg_of IK IG a6) B6 h_g_enumerate
  have C_p_is_one_way := cal_p_is_one_way (P := l.prog) (w := w) (base := base) F7 (PySem.W.mg_of IK IG a7) B7 h_g_range h_g_len h_g_set
  have C_p_first_order := cal_p_first_order (P := l.prog) (w := w) (base := base) F8 (PySem.W.mg_of IK IG a8) B8 h_g_len C_p_steps_of
  have C_p_is_a_web := cal_p_is_a_web (P := l.prog) (w := w) (base := base) F9 (PySem.W.mg_of IK IG a9) B9 h_g_isinstance h_g_tuple h_g_len C_p_is_letters h_g_all C_p_is_a_row C_p_is_one_way C_p_doors_of h_g_any C_p_first_order h_g_list h_g_range
  have C_p_need_web := cal_p_need_web (P := l.prog) (w := w) (base := base) F10 (PySem.W.mg_of IK IG a10) B10 C_p_is_a_web
  have C_p_need_number := cal_p_need_number (P := l.prog) (w := w) (base := base) F11 (PySem.W.mg_of IK IG a11) B11 
  have C_p_rows_of_rooms := cal_p_rows_of_rooms (P := l.prog) (w := w) (base := base) F12 (PySem.W.mg_of IK IG a12) B12 h_g_range
  have C_p_rows_led := cal_p_rows_led (P := l.prog) (w := w) (base := base) F13 (PySem.W.mg_of IK IG a13) B13 h_g_len C_p_steps_of h_g_all h_g_tuple
  have C_p_round_walk := cal_p_round_walk (P := l.prog) (w := w) (base := base) F14 (PySem.W.mg_of IK IG a14) B14 h_g_len C_p_rows_of_rooms C_p_rows_led C_p_straightened C_p_turned_back
  have C_p_first_ways := cal_p_first_ways (P := l.prog) (w := w) (base := base) F15 (PySem.W.mg_of IK IG a15) B15 C_p_first_order C_p_steps_of
  have C_p_power_walk := cal_p_power_walk (P := l.prog) (w := w) (base := base) F16 (PySem.W.mg_of IK IG a16) B16 C_p_need_web C_p_need_number C_p_doors_of C_p_round_walk C_p_first_ways C_p_straightened C_p_turned_back
  have C_p_greatest_power := cal_p_greatest_power (P := l.prog) (w := w) (base := base) F17 (PySem.W.mg_of IK IG a17) B17 C_p_need_web C_p_doors_of h_g_max h_g_range h_g_len C_p_round_walk
  have C_p_is_rooted := cal_p_is_rooted (P := l.prog) (w := w) (base := base) F18 (PySem.W.mg_of IK IG a18) B18 C_p_greatest_power
  have C_l_pot := cal_l_pot (P := l.prog) (w := w) (base := base) F19 (PySem.W.mg_of IK IG a19) B19 h_g_len h_g_int h_g_max h_g_abs
  have C_l_draw := cal_l_draw (P := l.prog) (w := w) (base := base) F20 (PySem.W.mg_of IK IG a20) B20 h_g_int
  have C_l_steps := cal_l_steps (P := l.prog) (w := w) (base := base) F21 (PySem.W.mg_of IK IG a21) B21 h_g_range
  have C_l_web := cal_l_web (P := l.prog) (w := w) (base := base) F22 (PySem.W.mg_of IK IG a22) B22 h_g_dict h_g_range h_g_len h_g_list C_l_steps h_g_tuple
  have C_l_doors := cal_l_doors (P := l.prog) (w := w) (base := base) F23 (PySem.W.mg_of IK IG a23) B23 h_g_range h_g_len
  have C_l_straight := cal_l_straight (P := l.prog) (w := w) (base := base) F24 (PySem.W.mg_of IK IG a24) B24 h_g_range C_l_steps C_l_draw h_g_len h_g_tuple
  have C_l_tables := cal_l_tables (P := l.prog) (w := w) (base := base) F25 (PySem.W.mg_of IK IG a25) B25 h_g_range h_g_list C_l_draw h_g_len
  have C_l_rings := cal_l_rings (P := l.prog) (w := w) (base := base) F26 (PySem.W.mg_of IK IG a26) B26 h_g_range h_g_len h_g_list h_g_min h_g_max
  have C_l_drawn := cal_l_drawn (P := l.prog) (w := w) (base := base) F27 (PySem.W.mg_of IK IG a27) B27 C_l_draw h_g_range C_l_straight C_l_web C_l_rings C_l_tables
  have C_l_short := cal_l_short (P := l.prog) (w := w) (base := base) F28 (PySem.W.mg_of IK IG a28) B28 h_g_tuple
  have C_l_is_integer := cal_l_is_integer (P := l.prog) (w := w) (base := base) F29 (PySem.W.mg_of IK IG a29) B29 h_g_isinstance h_g_int h_g_bool
  have C_l_all_tables := cal_l_all_tables (P := l.prog) (w := w) (base := base) F30 (PySem.W.mg_of IK IG a30) B30 h_g_tuple h_g_range h_g_len h_g_dict C_l_steps
  have C_l_rounds := cal_l_rounds (P := l.prog) (w := w) (base := base) F31 (PySem.W.mg_of IK IG a31) B31 h_g_range
  have C_l_round := cal_l_round (P := l.prog) (w := w) (base := base) F32 (PySem.W.mg_of IK IG a32) B32 h_g_range C_l_short
  have C_l_is_walk := cal_l_is_walk (P := l.prog) (w := w) (base := base) F33 (PySem.W.mg_of IK IG a33) B33 h_g_isinstance h_g_tuple h_g_int h_g_bool h_g_abs C_l_short
  have C_l_walk_right := cal_l_walk_right (P := l.prog) (w := w) (base := base) F34 (PySem.W.mg_of IK IG a34) B34 C_l_is_walk C_l_round h_g_len
  have C_l_truth := cal_l_truth (P := l.prog) (w := w) (base := base) F35 (PySem.W.mg_of IK IG a35) B35 h_g_isinstance h_g_bool
  have C_l_right := cal_l_right (P := l.prog) (w := w) (base := base) F36 (PySem.W.mg_of IK IG a36) B36 C_l_drawn C_l_draw C_l_doors C_l_rounds C_l_all_tables h_g_len h_g_max h_g_range C_l_is_integer C_p_greatest_power C_l_truth C_p_is_rooted h_g_list C_p_power_walk C_l_walk_right
  have C_l_law := cal_l_law (P := l.prog) (w := w) (base := base) F37 (PySem.W.mg_of IK IG a37) B37 h_g_range h_g_max h_g_min h_g_len C_l_right C_l_pot
  obtain ⟨f_, fd_, Fn_, G_, hm_, _⟩ := C_l_law.ex
  have e := hm_.symm.trans (PySem.W.mg_of IK IG a37)
  cases e
  obtain ⟨_, _, _, _, _, _, _, _, _, rfl, lk_, _⟩ := Fn_.ex
  rw [b37] at lk_
  cases lk_
  exact G_
end L25
open PySem PySem.W PyProof.Rows
set_option maxRecDepth 100000 in
set_option maxHeartbeats 0 in
theorem PySem.Challenge.cw_walkclubs_k25_walks_with_wanted_powers_holds : PySem.Challenge.rw_walkclubs_k25_walks_with_wanted_powers.Holds := by
  w_on; o_law; k_head; (case hw => w_witness2)
  k_fill
  refine Z.walk_ofG (l := PySem.Challenge.rw_walkclubs_k25_walks_with_wanted_powers) (n := 63) (k := 8) (x := "_law_script") (m := L25.m_l_law) rfl (by decide) rfl ⟨rfl, by decide, by decide⟩ (fun w h Y => PySem.W.kIn_of Y) ?F L25.law_true
  case F =>
    intro w mg fa h KI KG hmg
    refine' L25.tops KI KG hmg ?a0 ?b0 ?c0 ?d0 ?a1 ?b1 ?c1 ?d1 ?a2 ?b2 ?c2 ?d2 ?a3 ?b3 ?c3 ?d3 ?a4 ?b4 ?c4 ?d4 ?a5 ?b5 ?c5 ?d5 ?a6 ?b6 ?c6 ?d6 ?a7 ?b7 ?c7 ?d7 ?a8 ?b8 ?c8 ?d8 ?a9 ?b9 ?c9 ?d9 ?a10 ?b10 ?c10 ?d10 ?a11 ?b11 ?c11 ?d11 ?a12 ?b12 ?c12 ?d12 ?a13 ?b13 ?c13 ?d13 ?a14 ?b14 ?c14 ?d14 ?a15 ?b15 ?c15 ?d15 ?a16 ?b16 ?c16 ?d16 ?a17 ?b17 ?c17 ?d17 ?a18 ?b18 ?c18 ?d18 ?a19 ?b19 ?c19 ?d19 ?a20 ?b20 ?c20 ?d20 ?a21 ?b21 ?c21 ?d21 ?a22 ?b22 ?c22 ?d22 ?a23 ?b23 ?c23 ?d23 ?a24 ?b24 ?c24 ?d24 ?a25 ?b25 ?c25 ?d25 ?a26 ?b26 ?c26 ?d26 ?a27 ?b27 ?c27 ?d27 ?a28 ?b28 ?c28 ?d28 ?a29 ?b29 ?c29 ?d29 ?a30 ?b30 ?c30 ?d30 ?a31 ?b31 ?c31 ?d31 ?a32 ?b32 ?c32 ?d32 ?a33 ?b33 ?c33 ?d33 ?a34 ?b34 ?c34 ?d34 ?a35 ?b35 ?c35 ?d35 ?a36 ?b36 ?c36 ?d36 ?a37 ?b37 ?c37 ?d37 ?g_range ?g_len ?g_tuple ?g_isinstance ?g_int ?g_bool ?g_MOST_LETTERS ?g_all ?g_enumerate ?g_set ?g_any ?g_list ?g_max ?g_abs ?g_dict ?g_min
    (case a0 => k_is)
    (case b0 => k_is)
    (case c0 => k_is)
    (case d0 => k_is)
    (case a1 => k_is)
    (case b1 => k_is)
    (case c1 => k_is)
    (case d1 => k_is)
    (case a2 => k_is)
    (case b2 => k_is)
    (case c2 => k_is)
    (case d2 => k_is)
    (case a3 => k_is)
    (case b3 => k_is)
    (case c3 => k_is)
    (case d3 => k_is)
    (case a4 => k_is)
    (case b4 => k_is)
    (case c4 => k_is)
    (case d4 => k_is)
    (case a5 => k_is)
    (case b5 => k_is)
    (case c5 => k_is)
    (case d5 => k_is)
    (case a6 => k_is)
    (case b6 => k_is)
    (case c6 => k_is)
    (case d6 => k_is)
    (case a7 => k_is)
    (case b7 => k_is)
    (case c7 => k_is)
    (case d7 => k_is)
    (case a8 => k_is)
    (case b8 => k_is)
    (case c8 => k_is)
    (case d8 => k_is)
    (case a9 => k_is)
    (case b9 => k_is)
    (case c9 => k_is)
    (case d9 => k_is)
    (case a10 => k_is)
    (case b10 => k_is)
    (case c10 => k_is)
    (case d10 => k_is)
    (case a11 => k_is)
    (case b11 => k_is)
    (case c11 => k_is)
    (case d11 => k_is)
    (case a12 => k_is)
    (case b12 => k_is)
    (case c12 => k_is)
    (case d12 => k_is)
    (case a13 => k_is)
    (case b13 => k_is)
    (case c13 => k_is)
    (case d13 => k_is)
    (case a14 => k_is)
    (case b14 => k_is)
    (case c14 => k_is)
    (case d14 => k_is)
    (case a15 => k_is)
    (case b15 => k_is)
    (case c15 => k_is)
    (case d15 => k_is)
    (case a16 => k_is)
    (case b16 => k_is)
    (case c16 => k_is)
    (case d16 => k_is)
    (case a17 => k_is)
    (case b17 => k_is)
    (case c17 => k_is)
    (case d17 => k_is)
    (case a18 => k_is)
    (case b18 => k_is)
    (case c18 => k_is)
    (case d18 => k_is)
    (case a19 => k_is)
    (case b19 => k_is)
    (case c19 => k_is)
    (case d19 => k_is)
    (case a20 => k_is)
    (case b20 => k_is)
    (case c20 => k_is)
    (case d20 => k_is)
    (case a21 => k_is)
    (case b21 => k_is)
    (case c21 => k_is)
    (case d21 => k_is)
    (case a22 => k_is)
    (case b22 => k_is)
    (case c22 => k_is)
    (case d22 => k_is)
    (case a23 => k_is)
    (case b23 => k_is)
    (case c23 => k_is)
    (case d23 => k_is)
    (case a24 => k_is)
    (case b24 => k_is)
    (case c24 => k_is)
    (case d24 => k_is)
    (case a25 => k_is)
    (case b25 => k_is)
    (case c25 => k_is)
    (case d25 => k_is)
    (case a26 => k_is)
    (case b26 => k_is)
    (case c26 => k_is)
    (case d26 => k_is)
    (case a27 => k_is)
    (case b27 => k_is)
    (case c27 => k_is)
    (case d27 => k_is)
    (case a28 => k_is)
    (case b28 => k_is)
    (case c28 => k_is)
    (case d28 => k_is)
    (case a29 => k_is)
    (case b29 => k_is)
    (case c29 => k_is)
    (case d29 => k_is)
    (case a30 => k_is)
    (case b30 => k_is)
    (case c30 => k_is)
    (case d30 => k_is)
    (case a31 => k_is)
    (case b31 => k_is)
    (case c31 => k_is)
    (case d31 => k_is)
    (case a32 => k_is)
    (case b32 => k_is)
    (case c32 => k_is)
    (case d32 => k_is)
    (case a33 => k_is)
    (case b33 => k_is)
    (case c33 => k_is)
    (case d33 => k_is)
    (case a34 => k_is)
    (case b34 => k_is)
    (case c34 => k_is)
    (case d34 => k_is)
    (case a35 => k_is)
    (case b35 => k_is)
    (case c35 => k_is)
    (case d35 => k_is)
    (case a36 => k_is)
    (case b36 => k_is)
    (case c36 => k_is)
    (case d36 => k_is)
    (case a37 => k_is)
    (case b37 => k_is)
    (case c37 => k_is)
    (case d37 => k_is)
    (case g_range => k_is)
    (case g_len => k_is)
    (case g_tuple => k_is)
    (case g_isinstance => k_is)
    (case g_int => k_is)
    (case g_bool => k_is)
    (case g_MOST_LETTERS => k_is)
    (case g_all => k_is)
    (case g_enumerate => k_is)
    (case g_set => k_is)
    (case g_any => k_is)
    (case g_list => k_is)
    (case g_max => k_is)
    (case g_abs => k_is)
    (case g_dict => k_is)
    (case g_min => k_is)
